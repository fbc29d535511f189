import PyProof.Rows.All
import Wide.All
import OpenK.AllK
import Wide.FinOn
import HandS.ForMost
import HandS.ForExc
import HandS.Gcd
import HandS.IsInst
import HandS.Wide
import HandS.WideBits
import HandS.HeadHook1
import HandS.HeadHook2
import HandS.HeadHook3
import HandS.TupAny
import HandS.RaiseMore
import HandS.Defaults
import HandS.Zip
import HandS.Comp
import HandS.TryOnly
import HandS.ExcIs
import HandS.Conv
import PyProof.StrBlock2
import HandS.Head0
import HandS.Head1
import HandS.Head2
import HandS.Head3
import HandS.HeadEnd
import HandS.HeadHook4
import KE.KMathGC
import HandS.List
import HandS.Deep
import HandS.More
import KE.SortData
import KE.DataMinMax
import HandS.TupMul
import HandS.SlotsOwn
import KE.KOpsOwn
import KE.KCallOwn
import PyProof.PureInt
import HandS.HeadNt
import HandS.Dict
import HandS.Base
import HandS.Call
import HandS.Exc
import HandS.ExcInit
import KE.KSuper
import KE.KExcSuper
import HandS.ExcField
import KE.KExcIs
import HandS.OwnEq
import PyProof.P3Eq
import PySem.Challenge.RW_leadersets_k49_edits_of_tasks
set_option Elab.async false
set_option linter.all false
set_option maxRecDepth 100000
set_option maxHeartbeats 4000000
/-! FL1: typed readings: mirrors, representations, worlds, environments, expressions. -/
namespace FL
open PySem L2

/-! ### mirrors -/
/-- what a mirror gives: a value; an exception of the class named c with its fields; nothing (beyond what is covered) -/
inductive Xc (α : Type) where
  | ok (a : α)
  | er (c : Str) (fs : List (Str × V))
  | no
def Xc.bind {α β : Type} (m : Xc α) (k : α → Xc β) : Xc β := match m with
  | .ok a => k a
  | .er c fs => .er c fs
  | .no => .no
instance : Monad Xc where
  pure := .ok
  bind := Xc.bind
theorem bind_ok {α β : Type} (a : α) (k : α → Xc β) : Xc.bind (.ok a) k = k a := rfl
theorem bind_er {α β : Type} (c fs) (k : α → Xc β) : Xc.bind (.er c fs) k = .er c fs := rfl
theorem bind_no {α β : Type} (k : α → Xc β) : Xc.bind .no k = .no := rfl
theorem bind_assoc {α β γ : Type} (m : Xc α) (k : α → Xc β) (l : β → Xc γ) : (m.bind k).bind l = m.bind fun a => (k a).bind l := by cases m <;> rfl
theorem bind_pure {α : Type} (m : Xc α) : (m.bind fun a => .ok a) = m := by cases m <;> rfl
theorem mbind {α β : Type} (m : Xc α) (k : α → Xc β) : (m >>= k) = m.bind k := rfl
theorem mpure {α : Type} (a : α) : (pure a : Xc α) = .ok a := rfl
theorem bind_eq_ok {α β : Type} {m : Xc α} {k : α → Xc β} {b : β} : m.bind k = .ok b ↔ ∃ a, m = .ok a ∧ k a = .ok b := by
  cases m with
  | ok a =>
    constructor
    · intro h; exact ⟨a, rfl, h⟩
    · rintro ⟨_, e, h⟩; cases e; exact h
  | er c fs =>
    constructor
    · intro h; cases h
    · rintro ⟨_, e, _⟩; cases e
  | no =>
    constructor
    · intro h; cases h
    · rintro ⟨_, e, _⟩; cases e

/-! ### representations: a Lean value stands at a Python value, in the frozen heap F -/
class Rp (α : Type) where
  is : PySem.W.Frag → Hp → V → α → Prop
  mono : ∀ {K F F' v a}, Same F F' → is K F v a → is K F' v a
theorem Same.seqT {K : PySem.W.Frag} {H H' : Hp} {a : Addr} {xs : List V} (e : Same H H') (h : SqT K H a xs) : SqT K H' a xs := by
  rcases h with (h | ⟨o, h⟩) | h
  · exact .inl (.inl (e _ _ h))
  · exact .inl (.inr ⟨o, e _ _ h⟩)
  · exact .inr h
instance : Rp Int := ⟨fun _ _ v a => v = .int a, fun _ h => h⟩
instance : Rp Bool := ⟨fun _ _ v a => v = .bl a, fun _ h => h⟩
instance : Rp Str := ⟨fun _ _ v a => v = .str a ∧ a.length ≤ sizeLine, fun _ h => h⟩
instance : Rp Unit := ⟨fun _ _ v _ => v = .non, fun _ h => h⟩
instance {α : Type} [Rp α] : Rp (Option α) := ⟨fun K F v a => match a with
  | none => v = .non
  | some a => v ≠ .non ∧ Rp.is K F v a, fun {K F F' v a} s h => by
    cases a with
    | none => exact h
    | some a => exact ⟨h.1, Rp.mono s h.2⟩⟩
/-- all of a list -/
inductive Al {α : Type} [Rp α] (K : PySem.W.Frag) (F : Hp) : List V → List α → Prop where
  | nil : Al K F [] []
  | cons {v vs a as} : Rp.is K F v a → Al K F vs as → Al K F (v :: vs) (a :: as)
section
variable {α β γ : Type} [Rp α] [Rp β] {K : PySem.W.Frag} {F F' : Hp}
theorem Al.mono (s : Same F F') {vs : List V} {as : List α} (h : Al K F vs as) : Al K F' vs as := by
  induction h with
  | nil => exact .nil
  | cons h _ ih => exact .cons (Rp.mono s h) ih
theorem Al.len {vs : List V} {as : List α} (h : Al K F vs as) : vs.length = as.length := by
  induction h with
  | nil => rfl
  | cons _ _ ih => simp [ih]
theorem Al.get {vs : List V} {as : List α} (h : Al K F vs as) : ∀ {i : Nat} {v : V}, vs[i]? = some v → ∃ a, as[i]? = some a ∧ Rp.is K F v a := by
  induction h with
  | nil => intro i v e; simp at e
  | cons h _ ih =>
    intro i v e
    cases i with
    | zero => simp at e; subst e; exact ⟨_, rfl, h⟩
    | succ i => simp at e; obtain ⟨a, e2, r⟩ := ih e; exact ⟨a, by simpa using e2, r⟩
theorem Al.get' {vs : List V} {as : List α} (h : Al K F vs as) : ∀ {i : Nat} {a : α}, as[i]? = some a → ∃ v, vs[i]? = some v ∧ Rp.is K F v a := by
  induction h with
  | nil => intro i v e; simp at e
  | cons h _ ih =>
    intro i v e
    cases i with
    | zero => simp at e; subst e; exact ⟨_, rfl, h⟩
    | succ i => simp at e; obtain ⟨a, e2, r⟩ := ih e; exact ⟨a, by simpa using e2, r⟩
theorem Al.app {vs ws : List V} {as bs : List α} (h : Al K F vs as) (h' : Al K F ws bs) : Al K F (vs ++ ws) (as ++ bs) := by
  induction h with
  | nil => exact h'
  | cons h _ ih => exact .cons h ih
theorem Al.snoc {vs : List V} {as : List α} {v : V} {a : α} (h : Al K F vs as) (h' : Rp.is K F v a) : Al K F (vs ++ [v]) (as ++ [a]) := h.app (.cons h' .nil)
theorem Al.take {vs : List V} {as : List α} (h : Al K F vs as) : ∀ n, Al K F (vs.take n) (as.take n) := by
  induction h with
  | nil => intro n; simp; exact .nil
  | cons h _ ih => intro n; cases n with
    | zero => exact .nil
    | succ n => exact .cons h (ih n)
theorem Al.drop {vs : List V} {as : List α} (h : Al K F vs as) : ∀ n, Al K F (vs.drop n) (as.drop n) := by
  induction h with
  | nil => intro n; simp; exact .nil
  | cons h t ih => intro n; cases n with
    | zero => exact .cons h t
    | succ n => exact ih n
theorem Al.set {vs : List V} {as : List α} {v : V} {a : α} (h : Al K F vs as) (r : Rp.is K F v a) : ∀ n, Al K F (vs.set n v) (as.set n a) := by
  induction h with
  | nil => intro n; exact .nil
  | cons h t ih => intro n; cases n with
    | zero => exact .cons r t
    | succ n => exact .cons h (ih n)
theorem Al.repl {v : V} {a : α} (r : Rp.is K F v a) : ∀ n, Al K F (List.replicate n v) (List.replicate n a)
  | 0 => .nil
  | n + 1 => .cons r (Al.repl r n)
end
/-- a Python list -/
instance {α : Type} [Rp α] : Rp (List α) := ⟨fun K F v l => ∃ p xs, v = .ref p ∧ SqL K F p xs ∧ l.length ≤ sizeLine ∧ Al K F xs l, fun s ⟨p, xs, e, h, z, r⟩ => ⟨p, xs, e, Same.seq s h, z, r.mono s⟩⟩
/-- a Python tuple of any length, its items alike -/
def Tu (α : Type) : Type := List α
def Tu.l {α : Type} (t : Tu α) : List α := t
def tu {α : Type} (l : List α) : Tu α := l
instance {α : Type} [Rp α] : Rp (Tu α) := ⟨fun K F v l => ∃ p xs, v = .ref p ∧ SqT K F p xs ∧ (Tu.l l).length ≤ sizeLine ∧ Al K F xs (Tu.l l), fun s ⟨p, xs, e, h, z, r⟩ => ⟨p, xs, e, Same.seqT s h, z, r.mono s⟩⟩
/-- a pair -/
instance {α β : Type} [Rp α] [Rp β] : Rp (α × β) := ⟨fun K F v a => ∃ p x y, v = .ref p ∧ SqT K F p [x, y] ∧ Rp.is K F x a.1 ∧ Rp.is K F y a.2, fun s ⟨p, x, y, e, h, r1, r2⟩ => ⟨p, x, y, e, Same.seqT s h, Rp.mono s r1, Rp.mono s r2⟩⟩
/-- a tuple of three, of four -/
def T3 (α β γ : Type) : Type := α × β × γ
def T4 (α β γ δ : Type) : Type := α × β × γ × δ
def T3.mk {α β γ : Type} (a : α) (b : β) (c : γ) : T3 α β γ := (a, b, c)
def T4.mk {α β γ δ : Type} (a : α) (b : β) (c : γ) (d : δ) : T4 α β γ δ := (a, b, c, d)
def T3.a {α β γ : Type} (t : T3 α β γ) : α := Prod.fst t
def T3.b {α β γ : Type} (t : T3 α β γ) : β := (Prod.snd t).1
def T3.c {α β γ : Type} (t : T3 α β γ) : γ := (Prod.snd t).2
def T4.a {α β γ δ : Type} (t : T4 α β γ δ) : α := Prod.fst t
def T4.b {α β γ δ : Type} (t : T4 α β γ δ) : β := (Prod.snd t).1
def T4.c {α β γ δ : Type} (t : T4 α β γ δ) : γ := (Prod.snd t).2.1
def T4.d {α β γ δ : Type} (t : T4 α β γ δ) : δ := (Prod.snd t).2.2
instance {α β γ : Type} [Rp α] [Rp β] [Rp γ] : Rp (T3 α β γ) := ⟨fun K F v t => ∃ p x y z, v = .ref p ∧ SqT K F p [x, y, z] ∧ Rp.is K F x t.a ∧ Rp.is K F y t.b ∧ Rp.is K F z t.c,
  fun s ⟨p, x, y, z, e, h, r1, r2, r3⟩ => ⟨p, x, y, z, e, Same.seqT s h, Rp.mono s r1, Rp.mono s r2, Rp.mono s r3⟩⟩
instance {α β γ δ : Type} [Rp α] [Rp β] [Rp γ] [Rp δ] : Rp (T4 α β γ δ) := ⟨fun K F v t => ∃ p x y z u, v = .ref p ∧ SqT K F p [x, y, z, u] ∧ Rp.is K F x t.a ∧ Rp.is K F y t.b ∧ Rp.is K F z t.c ∧ Rp.is K F u t.d,
  fun s ⟨p, x, y, z, u, e, h, r1, r2, r3, r4⟩ => ⟨p, x, y, z, u, e, Same.seqT s h, Rp.mono s r1, Rp.mono s r2, Rp.mono s r3, Rp.mono s r4⟩⟩
mutual
theorem dp_mono {K : PySem.W.Frag} {F F' : Hp} (s : Same F F') : ∀ {v : V} {d : PyData}, Dp K F v d → Dp K F' v d
  | _, _, .non => .non
  | _, _, .bl b => .bl b
  | _, _, .int i => .int i
  | _, _, .str x => .str x
  | _, _, .lst h r => .lst (Same.seq s h) (dpa_mono s r)
  | _, _, .tup h r => .tup (Same.seqT s h) (dpa_mono s r)
theorem dpa_mono {K : PySem.W.Frag} {F F' : Hp} (s : Same F F') : ∀ {vs : List V} {ds : List PyData}, DpAll K F vs ds → DpAll K F' vs ds
  | _, _, .nil => .nil
  | _, _, .cons h r => .cons (dp_mono s h) (dpa_mono s r)
end
/-- data of any kind -/
instance : Rp PyData := ⟨fun K F v d => Dp K F v d ∧ SeqAt.shaped d = true, fun s h => ⟨dp_mono s h.1, h.2⟩⟩

/-! ### worlds: the frozen heap F within the heap H; what comes to it is new -/
structure Wd (F H F' H' : Hp) : Prop where
  f : Same F F'
  h : Same H H'
  s : Same F' H'
  n : ∀ a, F' a ≠ none → F a = none → H a = none
theorem Wd.refl {F H : Hp} (s : Same F H) : Wd F H F H := ⟨Same.refl _, Same.refl _, s, fun _ h e => absurd e h⟩
theorem Wd.trans {F H F1 H1 F2 H2 : Hp} (a : Wd F H F1 H1) (b : Wd F1 H1 F2 H2) : Wd F H F2 H2 :=
  ⟨a.f.trans b.f, a.h.trans b.h, b.s, fun p h e => by
    cases q : F1 p with
    | none => exact a.h.free (b.n p h q)
    | some o => exact a.n p (by rw [q]; exact fun z => nomatch z) e⟩
theorem Wd.s0 {F H F' H' : Hp} (a : Wd F H F' H') (b : Same F H) : Same F H' := a.f.trans a.s
theorem Wd.own {F H F' H' : Hp} (w : Wd F H F' H') {p : Addr} {o : HO} (f : F p = none) (h : H p = some o) : F' p = none := by
  cases y : F' p with
  | none => rfl
  | some u =>
    have q := w.n p (by rw [y]; exact fun z => nomatch z) f
    rw [h] at q
    cases q
theorem same_upd {F H : Hp} {p : Addr} {o : HO} (s : Same F H) : Same (upd F p o) (upd H p o) := fun b u e => by
  by_cases q : b = p
  · subst q; rw [upd_same] at e ⊢; exact e
  · rw [upd_ne q] at e ⊢; exact s b u e
theorem same_new {H : Hp} {p : Addr} {o : HO} (h : H p = none) : Same H (upd H p o) := fun b u e => by
  rw [upd_ne (ne_of_none e h)]; exact e
/-- a new frozen object -/
theorem Wd.new {F H : Hp} {p : Addr} {o : HO} (s : Same F H) (h : H p = none) : Wd F H (upd F p o) (upd H p o) :=
  ⟨same_new (s.free h), same_new h, same_upd s, fun b h' e => by
    by_cases q : b = p
    · subst q; exact h
    · rw [upd_ne q] at h'; exact absurd e h'⟩
/-- a new object that is not frozen -/
theorem Wd.newO {F H : Hp} {p : Addr} {o : HO} (s : Same F H) (h : H p = none) : Wd F H F (upd H p o) :=
  ⟨Same.refl _, same_new h, fun b u e => same_new h b u (s b u e), fun b h' e => absurd e h'⟩

/-! ### environments -/
structure EnvT (γ : Type) where
  rel : PySem.W.Frag → Hp → Hp → Hp → St → γ → Prop
  own : St → List Addr
  mono : ∀ {K H0 F H F' H' σ g}, rel K H0 F H σ g → Wd F H F' H' → rel K H0 F' H' σ g
  mu : ∀ {K H0 F H σ g p o}, rel K H0 F H σ g → p ∉ own σ → rel K H0 F (upd H p o) σ g
  al : ∀ {K H0 F H σ g p}, rel K H0 F H σ g → p ∈ own σ → H0 p = none ∧ F p = none ∧ ∃ xs, H p = some (HO.lst xs)
def nl : EnvT Unit := ⟨fun _ _ _ _ _ _ => True, fun _ => [], fun h _ => h, fun h _ => h, fun _ h => by cases h⟩
/-- a slot with a value -/
def va (α : Type) {γ : Type} [Rp α] (G : EnvT γ) : EnvT (α × γ) where
  rel := fun K H0 F H σ g => ∃ v σ', σ = some v :: σ' ∧ Rp.is K F v g.1 ∧ G.rel K H0 F H σ' g.2
  own := fun σ => G.own σ.tail
  mono := fun ⟨v, σ', e, r, h⟩ w => ⟨v, σ', e, Rp.mono w.f r, G.mono h w⟩
  mu := fun ⟨v, σ', e, r, h⟩ n => ⟨v, σ', e, r, G.mu h (by subst e; exact n)⟩
  al := fun ⟨v, σ', e, r, h⟩ n => G.al h (by subst e; exact n)
/-- a slot that does not matter -/
def un {γ : Type} (G : EnvT γ) : EnvT γ where
  rel := fun K H0 F H σ g => ∃ v σ', σ = v :: σ' ∧ G.rel K H0 F H σ' g
  own := fun σ => G.own σ.tail
  mono := fun ⟨v, σ', e, h⟩ w => ⟨v, σ', e, G.mono h w⟩
  mu := fun ⟨v, σ', e, h⟩ n => ⟨v, σ', e, G.mu h (by subst e; exact n)⟩
  al := fun ⟨v, σ', e, h⟩ n => G.al h (by subst e; exact n)
def adr : St → List Addr
  | some (.ref p) :: _ => [p]
  | _ => []
/-- a slot with a list of one's own -/
def ow (α : Type) {γ : Type} [Rp α] (G : EnvT γ) : EnvT (List α × γ) where
  rel := fun K H0 F H σ g => ∃ p σ' xs, σ = some (.ref p) :: σ' ∧ H0 p = none ∧ F p = none ∧ H p = some (HO.lst xs) ∧ g.1.length ≤ sizeLine ∧ Al K F xs g.1 ∧ p ∉ G.own σ' ∧ G.rel K H0 F H σ' g.2
  own := fun σ => adr σ ++ G.own σ.tail
  mono := fun ⟨p, σ', xs, e, h0, f, h, z, r, n, q⟩ w => ⟨p, σ', xs, e, h0, w.own f h, w.h _ _ h, z, r.mono w.f, n, G.mono q w⟩
  mu := fun {K H0 F H σ g b o} ⟨p, σ', xs, e, h0, f, h, z, r, n, q⟩ m => by
    subst e
    have m2 : b ≠ p ∧ b ∉ G.own σ' := by
      constructor
      · intro q; exact m (by simp [adr, q])
      · intro q; exact m (by simp [q])
    exact ⟨p, σ', xs, rfl, h0, f, by rw [upd_ne (Ne.symm m2.1)]; exact h, z, r, n, G.mu q m2.2⟩
  al := fun {K H0 F H σ g b} ⟨p, σ', xs, e, h0, f, h, z, r, n, q⟩ m => by
    subst e
    rcases List.mem_append.mp m with m | m
    · have e : b = p := by simpa [adr] using m
      subst e
      exact ⟨h0, f, xs, h⟩
    · exact G.al q m

/-- the slot i holds π g -/
class At {γ : Type} (G : EnvT γ) (i : Nat) (α : outParam Type) (r : outParam (Rp α)) (π : outParam (γ → α)) : Prop where
  get : ∀ {K H0 F H σ g}, G.rel K H0 F H σ g → ∃ v, σ[i]? = some (some v) ∧ r.is K F v (π g)
instance {α γ : Type} [r : Rp α] (G : EnvT γ) : At (va α G) 0 α r (fun g => g.1) := ⟨fun ⟨v, σ', e, q, _⟩ => ⟨v, by subst e; rfl, q⟩⟩
instance {α β γ : Type} [Rp β] [r : Rp α] (G : EnvT γ) (i : Nat) (π : γ → α) [a : At G i α r π] : At (va β G) (i + 1) α r (fun g => π g.2) := ⟨fun ⟨v, σ', e, _, q⟩ => by
  obtain ⟨u, e2, q2⟩ := a.get q
  exact ⟨u, by subst e; exact e2, q2⟩⟩
instance {α γ : Type} [r : Rp α] (G : EnvT γ) (i : Nat) (π : γ → α) [a : At G i α r π] : At (un G) (i + 1) α r (fun g => π g) := ⟨fun ⟨v, σ', e, q⟩ => by
  obtain ⟨u, e2, q2⟩ := a.get q
  exact ⟨u, by subst e; exact e2, q2⟩⟩
instance {α β γ : Type} [Rp β] [r : Rp α] (G : EnvT γ) (i : Nat) (π : γ → α) [a : At G i α r π] : At (ow β G) (i + 1) α r (fun g => π g.2) := ⟨fun ⟨p, σ', xs, e, _, _, _, _, _, _, q⟩ => by
  obtain ⟨u, e2, q2⟩ := a.get q
  exact ⟨u, by subst e; exact e2, q2⟩⟩

/-- a store into the slot i -/
class Put {γ : Type} (G : EnvT γ) (i : Nat) (α : Type) [Rp α] {δ : outParam Type} (G' : outParam (EnvT δ)) (ψ : outParam (γ → α → δ)) : Prop where
  put : ∀ {K H0 F H σ g v a}, G.rel K H0 F H σ g → Rp.is K F v a → G'.rel K H0 F H (σ.set i (some v)) (ψ g a)
  own : ∀ {K H0 F H σ g p} {v : V}, G.rel K H0 F H σ g → p ∈ G'.own (σ.set i (some v)) → p ∈ G.own σ
instance {α β γ : Type} [Rp α] [Rp β] (G : EnvT γ) : Put (va β G) 0 α (va α G) (fun g a => (a, g.2)) := ⟨fun ⟨v, σ', e, _, q⟩ r => ⟨_, σ', by subst e; rfl, r, q⟩, fun ⟨v, σ', e, _, q⟩ h => by subst e; exact h⟩
instance {α γ : Type} [Rp α] (G : EnvT γ) : Put (un G) 0 α (va α G) (fun g a => (a, g)) := ⟨fun ⟨v, σ', e, q⟩ r => ⟨_, σ', by subst e; rfl, r, q⟩, fun ⟨v, σ', e, q⟩ h => by subst e; exact h⟩
instance {α β γ : Type} [Rp α] [Rp β] (G : EnvT γ) : Put (ow β G) 0 α (va α G) (fun g a => (a, g.2)) := ⟨fun ⟨p, σ', xs, e, _, _, _, _, _, _, q⟩ r => ⟨_, σ', by subst e; rfl, r, q⟩, fun ⟨p, σ', xs, e, _, _, _, _, _, _, q⟩ h => by subst e; exact List.mem_append_right _ h⟩
instance {α β γ δ : Type} [Rp α] [Rp β] (G : EnvT γ) (i : Nat) (G' : EnvT δ) (ψ : γ → α → δ) [P : Put G i α G' ψ] : Put (va β G) (i + 1) α (va β G') (fun g a => (g.1, ψ g.2 a)) :=
  ⟨fun ⟨v, σ', e, w, q⟩ r => ⟨v, σ'.set i _, by subst e; rfl, w, P.put q r⟩, fun ⟨v, σ', e, w, q⟩ h => by subst e; exact P.own q h⟩
instance {α γ δ : Type} [Rp α] (G : EnvT γ) (i : Nat) (G' : EnvT δ) (ψ : γ → α → δ) [P : Put G i α G' ψ] : Put (un G) (i + 1) α (un G') (fun g a => ψ g a) :=
  ⟨fun ⟨v, σ', e, q⟩ r => ⟨v, σ'.set i _, by subst e; rfl, P.put q r⟩, fun ⟨v, σ', e, q⟩ h => by subst e; exact P.own q h⟩
instance {α β γ δ : Type} [Rp α] [Rp β] (G : EnvT γ) (i : Nat) (G' : EnvT δ) (ψ : γ → α → δ) [P : Put G i α G' ψ] : Put (ow β G) (i + 1) α (ow β G') (fun g a => (g.1, ψ g.2 a)) :=
  ⟨fun ⟨p, σ', xs, e, h0, f, h, z, w, n, q⟩ r => ⟨p, σ'.set i _, xs, by subst e; rfl, h0, f, h, z, w, fun m => n (P.own q m), P.put q r⟩, fun ⟨p, σ', xs, e, _, _, _, _, _, _, q⟩ h => by
    subst e
    rcases List.mem_append.mp h with h | h
    · exact List.mem_append_left _ h
    · exact List.mem_append_right _ (P.own q h)⟩

/-! ### readings of expressions -/
/-- what a body's code stands in: the frozen heap and the heap at the def's entry, the wish of exceptions -/
structure C0 where
  F0 : Hp
  H0 : Hp
  W : WX
/-- an exception is wished -/
def ErP (K : PySem.W.Frag) (F H : Hp) (E : XK) (c : Str) (fs : List (Str × V)) : Prop := match fs with
  | [] => ∀ F' H', Wd F H F' H' → E (.ref (He.ga K c)) none H'
  | fs => ∀ F' H' d, Wd F H F' H' → H' d = none → E (.ref (He.ga K c)) (some d) (upd H' d (.xd fs))
theorem ErP.on {K : PySem.W.Frag} {F H F' H' : Hp} {E : XK} {c : Str} {fs : List (Str × V)} (h : ErP K F H E c fs) (w : Wd F H F' H') : ErP K F' H' E c fs := by
  cases fs with
  | nil => exact fun F2 H2 w2 => h F2 H2 (w.trans w2)
  | cons f fs => exact fun F2 H2 d w2 => h F2 H2 d (w.trans w2)
def Po {α : Type} [Rp α] (K : PySem.W.Frag) (F H : Hp) (Q : VK) (E : XK) (m : Xc α) : Prop := match m with
  | .ok a => ∀ v F' H', Wd F H F' H' → Rp.is K F' v a → Q v H'
  | .er c fs => ErP K F H E c fs
  | .no => False
def PoB (K : PySem.W.Frag) (F H : Hp) (Q : Bool → Hp → Prop) (E : XK) (m : Xc Bool) : Prop := match m with
  | .ok b => ∀ F' H', Wd F H F' H' → Q b H'
  | .er c fs => ErP K F H E c fs
  | .no => False
theorem Po.on {α : Type} [Rp α] {K : PySem.W.Frag} {F H F' H' : Hp} {Q : VK} {E : XK} {m : Xc α} (h : Po K F H Q E m) (w : Wd F H F' H') : Po K F' H' Q E m := by
  cases m with
  | ok a => exact fun v F2 H2 w2 r => h v F2 H2 (w.trans w2) r
  | er c fs => exact ErP.on h w
  | no => exact h
theorem PoB.on {K : PySem.W.Frag} {F H F' H' : Hp} {Q : Bool → Hp → Prop} {E : XK} {m : Xc Bool} (h : PoB K F H Q E m) (w : Wd F H F' H') : PoB K F' H' Q E m := by
  cases m with
  | ok a => exact fun F2 H2 w2 => h F2 H2 (w.trans w2)
  | er c fs => exact ErP.on h w
  | no => exact h
/-- from the mirror's first part on -/
theorem Po.bind {α β : Type} [Rp α] [Rp β] {K : PySem.W.Frag} {F H : Hp} {Q : VK} {E : XK} {m : Xc α} {k : α → Xc β} (h : Po K F H Q E (m.bind k)) : Po K F H (fun v H1 => ∃ a F1, m = .ok a ∧ Wd F H F1 H1 ∧ Rp.is K F1 v a ∧ Po K F1 H1 Q E (k a)) E m := by
  cases m with
  | ok a => exact fun v F1 H1 w r => ⟨a, F1, rfl, w, r, Po.on (show Po K F H Q E (k a) from h) w⟩
  | er c fs => exact h
  | no => exact h
theorem Po.bindB {α : Type} [Rp α] {K : PySem.W.Frag} {F H : Hp} {Q : Bool → Hp → Prop} {E : XK} {m : Xc α} {k : α → Xc Bool} (h : PoB K F H Q E (m.bind k)) : Po K F H (fun v H1 => ∃ a F1, m = .ok a ∧ Wd F H F1 H1 ∧ Rp.is K F1 v a ∧ PoB K F1 H1 Q E (k a)) E m := by
  cases m with
  | ok a => exact fun v F1 H1 w r => ⟨a, F1, rfl, w, r, PoB.on (show PoB K F H Q E (k a) from h) w⟩
  | er c fs => exact h
  | no => exact h
theorem PoB.bind {β : Type} [Rp β] {K : PySem.W.Frag} {F H : Hp} {Q : VK} {E : XK} {m : Xc Bool} {k : Bool → Xc β} (h : Po K F H Q E (m.bind k)) : PoB K F H (fun b H1 => ∃ F1, m = .ok b ∧ Wd F H F1 H1 ∧ Po K F1 H1 Q E (k b)) E m := by
  cases m with
  | ok a => exact fun F1 H1 w => ⟨F1, rfl, w, Po.on (show Po K F H Q E (k a) from h) w⟩
  | er c fs => exact h
  | no => exact h
theorem PoB.bindB {K : PySem.W.Frag} {F H : Hp} {Q : Bool → Hp → Prop} {E : XK} {m : Xc Bool} {k : Bool → Xc Bool} (h : PoB K F H Q E (m.bind k)) : PoB K F H (fun b H1 => ∃ F1, m = .ok b ∧ Wd F H F1 H1 ∧ PoB K F1 H1 Q E (k b)) E m := by
  cases m with
  | ok a => exact fun F1 H1 w => ⟨F1, rfl, w, PoB.on (show PoB K F H Q E (k a) from h) w⟩
  | er c fs => exact h
  | no => exact h
theorem Po.ret {α : Type} [Rp α] {K : PySem.W.Frag} {F H : Hp} {Q : VK} {E : XK} {v : V} {a : α} (h : Po K F H Q E (.ok a)) (s : Same F H) (r : Rp.is K F v a) : Q v H := h v F H (Wd.refl s) r
theorem PoB.ret {K : PySem.W.Frag} {F H : Hp} {Q : Bool → Hp → Prop} {E : XK} {b : Bool} (h : PoB K F H Q E (.ok b)) (s : Same F H) : Q b H := h F H (Wd.refl s)

section
variable {X : Cx} {c : C0} {γ α β ρ : Type} {G : EnvT γ} [Rp α] [Rp β] [Rp ρ]
def tF (K : PySem.W.Frag) (c : C0) (G : EnvT γ) (f : γ → Xc α) : TE := fun σ H Q => ∃ F g, Wd c.F0 c.H0 F H ∧ G.rel K c.H0 F H σ g ∧ Po K F H Q (WE c.W σ) (f g)
def tT (K : PySem.W.Frag) (c : C0) (G : EnvT γ) (f : γ → Xc Bool) : TT := fun σ H Q => ∃ F g, Wd c.F0 c.H0 F H ∧ G.rel K c.H0 F H σ g ∧ PoB K F H Q (WE c.W σ) (f g)
/-- the expression e computes f of what the slots hold -/
def FE (X : Cx) (c : C0) (G : EnvT γ) (e : Expr) (f : γ → Xc α) : Prop := PE X e (tF X.K c G f)
def FT (X : Cx) (c : C0) (G : EnvT γ) (e : Expr) (f : γ → Xc Bool) : Prop := PT X e (tT X.K c G f)
theorem PE.imp {e : Expr} {t t' : TE} (h : PE X e t) (i : ∀ σ H Q, t' σ H Q → t σ H Q) : PE X e t' := ⟨fun pins s σ H Q I q => h.run pins s σ H Q I (i σ H Q q)⟩
theorem PT.imp {e : Expr} {t t' : TT} (h : PT X e t) (i : ∀ σ H Q, t' σ H Q → t σ H Q) : PT X e t' := ⟨fun pins s σ H Q I q => h.run pins s σ H Q I (i σ H Q q)⟩
theorem FE.cast {e : Expr} {f f' : γ → Xc α} (h : FE X c G e f) (i : ∀ g, f' g = f g) : FE X c G e f' := by
  rw [show f' = f from funext i]; exact h
theorem FT.cast {e : Expr} {f f' : γ → Xc Bool} (h : FT X c G e f) (i : ∀ g, f' g = f g) : FT X c G e f' := by
  rw [show f' = f from funext i]; exact h

/-! names, constants -/
theorem fe_var {τ : Type} (i : Nat) {x : Str} {pos : Pos} {π : γ → τ} {r : Rp τ} [a : At G i τ r π] (hN : X.N[i]? = some x := by rfl) (hv : Vis X.env.scope x := by first | exact Or.inl rfl | exact Or.inr (Or.inl rfl) | exact Or.inr (Or.inr rfl))
    (hd : (x == ("__debug__" : Str)) = false := by decide) (hcd : (x == ("__classdict__" : Str)) = false := by decide) : FE X c G (.Name x pos) (fun g => Xc.ok (π g)) :=
  PE.imp (pe_var hN hv hd hcd) fun σ H Q ⟨F, g, w, q, h⟩ => by
    obtain ⟨v, e, z⟩ := a.get q
    exact ⟨v, e, h v F H (Wd.refl w.s) z⟩
theorem fe_int {i : Int} {j pos} : FE X c G (.Constant (.int i) j pos) (fun _ => .ok i) := PE.imp pe_int fun σ H Q ⟨F, g, w, q, h⟩ => h.ret w.s rfl
theorem fe_bl {b : Bool} {j pos} : FE X c G (.Constant (.bool b) j pos) (fun _ => .ok b) := PE.imp pe_bl fun σ H Q ⟨F, g, w, q, h⟩ => h.ret w.s rfl
theorem fe_str {x : Str} {j pos} (hx : x.length ≤ sizeLine := by decide +kernel) : FE X c G (.Constant (.str x) j pos) (fun _ => .ok x) := PE.imp pe_str fun σ H Q ⟨F, g, w, q, h⟩ => h.ret w.s ⟨rfl, hx⟩
theorem fe_none {j pos} : FE X c G (.Constant .none j pos) (fun _ => .ok ()) := PE.imp pe_non fun σ H Q ⟨F, g, w, q, h⟩ => h.ret w.s rfl
/-- a module's constant -/
theorem fe_gint {x : Str} {i : Int} {pos : Pos} (hm : ∃ t, X.mg x = some (.int i t)) (hg : Gl X x := by rfl) (hd : (x == ("__debug__" : Str)) = false := by decide) : FE X c G (.Name x pos) (fun _ => .ok i) := by
  obtain ⟨t, hm⟩ := hm
  exact PE.imp (pe_glob (v := .int i) hg hm ⟨t, rfl⟩ hd) fun σ H Q ⟨F, g, w, q, h⟩ => h.ret w.s rfl
theorem fe_gstr {x z : Str} {pos : Pos} (hm : ∃ t, X.mg x = some (.str z t)) (hz : z.length ≤ sizeLine := by decide +kernel) (hg : Gl X x := by rfl) (hd : (x == ("__debug__" : Str)) = false := by decide) : FE X c G (.Name x pos) (fun _ => .ok z) := by
  obtain ⟨t, hm⟩ := hm
  exact PE.imp (pe_glob (v := .str z) hg hm ⟨t, rfl⟩ hd) fun σ H Q ⟨F, g, w, q, h⟩ => h.ret w.s ⟨rfl, hz⟩

/-! two parts -/
theorem two {a b : Expr} {fa : γ → Xc α} {fb : γ → Xc β} {op : α → β → Xc ρ} {r : R2} {e : Expr} (h : ∀ {ta tb : TE}, PE X a ta → PE X b tb → PE X e (tOp r ta tb)) (ha : FE X c G a fa) (hb : FE X c G b fb)
    (hop : ∀ {F H x y i j Q E}, Same F H → Rp.is X.K F x i → Rp.is X.K F y j → Po X.K F H Q E (op i j) → r x y H Q) : FE X c G e (fun g => (fa g).bind fun i => (fb g).bind fun j => op i j) :=
  PE.imp (h ha hb) fun σ H Q ⟨F, g, w, q, p⟩ => by
    refine ⟨F, g, w, q, ?_⟩
    have p1 := Po.bind p
    revert p1
    cases e1 : fa g with
    | ok i =>
      intro p1 v F1 H1 w1 r1
      obtain ⟨i', _, e2, w1', r1', p2⟩ := p1 v F1 H1 w1 r1
      cases e2
      have p2 : Po X.K F H Q (WE c.W σ) ((fb g).bind fun j => op i j) := by simp only [e1] at p; exact p
      refine ⟨F1, g, w.trans w1, G.mono q w1, ?_⟩
      have p3 := Po.bind (p2.on w1)
      revert p3
      cases e3 : fb g with
      | ok j =>
        intro p3 u F2 H2 w2 r2
        obtain ⟨j', F2', e4, w2', r2', p4⟩ := p3 u F2 H2 w2 r2
        cases e4
        have p5 : Po X.K F H Q (WE c.W σ) (op i j) := by rw [e3] at p2; exact p2
        exact hop w2.s (Rp.mono w2.f r1) r2 (p5.on (w1.trans w2))
      | er c fs => exact fun p3 => p3
      | no => exact fun p3 => p3
    | er c fs => exact fun p1 => p1
    | no => exact fun p1 => p1
theorem twoT {a b : Expr} {fa : γ → Xc α} {fb : γ → Xc β} {op : α → β → Xc Bool} {r : R2} {e : Expr} (h : ∀ {ta tb : TE}, PE X a ta → PE X b tb → PT X e (tTest (tOp r ta tb))) (ha : FE X c G a fa) (hb : FE X c G b fb)
    (hop : ∀ {F H x y i j Q E}, Same F H → Rp.is X.K F x i → Rp.is X.K F y j → PoB X.K F H Q E (op i j) → r x y H (fun v H' => ∃ k, v = .bl k ∧ Q k H')) : FT X c G e (fun g => (fa g).bind fun i => (fb g).bind fun j => op i j) :=
  PT.imp (h ha hb) fun σ H Q ⟨F, g, w, q, p⟩ => by
    refine ⟨F, g, w, q, ?_⟩
    cases e1 : fa g with
    | ok i =>
      intro v F1 H1 w1 r1
      have p2 : PoB X.K F H Q (WE c.W σ) ((fb g).bind fun j => op i j) := by simp only [e1] at p; exact p
      refine ⟨F1, g, w.trans w1, G.mono q w1, ?_⟩
      cases e3 : fb g with
      | ok j =>
        intro u F2 H2 w2 r2
        have p5 : PoB X.K F H Q (WE c.W σ) (op i j) := by rw [e3] at p2; exact p2
        exact hop w2.s (Rp.mono w2.f r1) r2 (p5.on (w1.trans w2))
      | er c' fs => rw [e3] at p2; exact ErP.on (show ErP X.K F H (WE c.W σ) c' fs from p2) w1
      | no => rw [e3] at p2; exact p2
    | er c' fs => simp only [e1] at p; exact p
    | no => simp only [e1] at p; exact p
/-- one part -/
theorem one {a e : Expr} {fa : γ → Xc α} {op : α → Xc ρ} {r : V → Hp → VK → Prop} (h : ∀ {ta : TE}, PE X a ta → PE X e (tUn r ta)) (ha : FE X c G a fa)
    (hop : ∀ {F H x i Q E}, Same F H → Rp.is X.K F x i → Po X.K F H Q E (op i) → r x H Q) : FE X c G e (fun g => (fa g).bind fun i => op i) :=
  PE.imp (h ha) fun σ H Q ⟨F, g, w, q, p⟩ => by
    refine ⟨F, g, w, q, ?_⟩
    cases e1 : fa g with
    | ok i =>
      intro v F1 H1 w1 r1
      have p2 : Po X.K F H Q (WE c.W σ) (op i) := by simp only [e1] at p; exact p
      exact hop w1.s r1 (p2.on w1)
    | er c' fs => simp only [e1] at p; exact p
    | no => simp only [e1] at p; exact p
end
end FL

/-! FL2: operators, comparisons, tests, displays, subscripts, texts, built-in calls. -/
namespace FL
open PySem L2
/-! ### ints -/
def MulC (i j : Int) : Prop := i.natAbs < 2 ^ 64 ∨ j.natAbs < 2 ^ 64 ∨ i.natAbs.log2 + j.natAbs.log2 < 1000000
instance (i j : Int) : Decidable (MulC i j) := by unfold MulC; infer_instance
theorem MulC.ok {i j : Int} (h : MulC i j) : PySem.IntMulOk i j := by
  rcases h with h | h | h
  · exact CMul.ok (.inl (by omega))
  · exact CMul.ok (.inr (by omega))
  · exact CMulW.ok h
theorem op_mulZ {X : Cx} : OpR X (binaryOp .Mult) (rI MulC fun i j => .int (i * j)) := opI fun _ _ _ _ _ _ _ hc q => PyProof.Rows.mul_int q hc.ok
@[irreducible] def mulX (i j : Int) : Xc Int := if MulC i j then .ok (i * j) else .no
@[irreducible] def fdvX (i j : Int) : Xc Int := if j ≠ 0 ∧ j.natAbs.log2 < 9000 then .ok (i.fdiv j) else .no
@[irreducible] def modX (i j : Int) : Xc Int := if j ≠ 0 then .ok (i.fmod j) else .no
@[irreducible] def powX (i j : Int) : Xc Int := if 0 ≤ j ∧ j ≤ 1000000 ∧ i.natAbs < 2 ^ 64 then .ok (i ^ j.toNat) else .no
theorem op_fdivZ {X : Cx} : OpR X (binaryOp .FloorDiv) (rI (fun _ j => j ≠ 0 ∧ j.natAbs.log2 < 9000) fun i j => .int (i.fdiv j)) := opI fun i j _ _ _ _ _ hc q =>
  PyProof.Rows.floordiv_int hc.1 q (.inl (PyProof.noPylong_of_log2 hc.2))
section
variable {X : Cx} {c : C0} {γ α β ρ : Type} {G : EnvT γ} [Rp α] [Rp β] [Rp ρ] {a b e : Expr} {pos : Pos} {fi fj : γ → Xc Int}
theorem fe_add (ha : FE X c G a fi) (hb : FE X c G b fj) : FE X c G (.BinOp a .Add b pos) (fun g => (fi g).bind fun i => (fj g).bind fun j => Xc.ok (i + j)) :=
  two (fun h1 h2 => pe_op op_add h1 h2) ha hb fun s r1 r2 p => ⟨_, _, r1, r2, p.ret s rfl⟩
theorem fe_sub (ha : FE X c G a fi) (hb : FE X c G b fj) : FE X c G (.BinOp a .Sub b pos) (fun g => (fi g).bind fun i => (fj g).bind fun j => Xc.ok (i - j)) :=
  two (fun h1 h2 => pe_op op_sub h1 h2) ha hb fun s r1 r2 p => ⟨_, _, r1, r2, p.ret s rfl⟩
theorem fe_mul (ha : FE X c G a fi) (hb : FE X c G b fj) : FE X c G (.BinOp a .Mult b pos) (fun g => (fi g).bind fun i => (fj g).bind fun j => mulX i j) :=
  two (fun h1 h2 => pe_op op_mulZ h1 h2) ha hb fun {F H x y i j Q E} s r1 r2 p => by
    unfold mulX at p
    by_cases h : MulC i j
    · rw [if_pos h] at p; exact ⟨_, _, r1, r2, h, p.ret s rfl⟩
    · rw [if_neg h] at p; exact p.elim
theorem fe_fdv (ha : FE X c G a fi) (hb : FE X c G b fj) : FE X c G (.BinOp a .FloorDiv b pos) (fun g => (fi g).bind fun i => (fj g).bind fun j => fdvX i j) :=
  two (fun h1 h2 => pe_op op_fdivZ h1 h2) ha hb fun {F H x y i j Q E} s r1 r2 p => by
    unfold fdvX at p
    by_cases h : j ≠ 0 ∧ j.natAbs.log2 < 9000
    · rw [if_pos h] at p; exact ⟨_, _, r1, r2, h, p.ret s rfl⟩
    · rw [if_neg h] at p; exact p.elim
theorem fe_mod (ha : FE X c G a fi) (hb : FE X c G b fj) : FE X c G (.BinOp a .Mod b pos) (fun g => (fi g).bind fun i => (fj g).bind fun j => modX i j) :=
  two (fun h1 h2 => pe_op op_modN h1 h2) ha hb fun {F H x y i j Q E} s r1 r2 p => by
    unfold modX at p
    by_cases h : j ≠ 0
    · rw [if_pos h] at p; exact ⟨_, _, r1, r2, h, p.ret s rfl⟩
    · rw [if_neg h] at p; exact p.elim
theorem fe_pow (ha : FE X c G a fi) (hb : FE X c G b fj) : FE X c G (.BinOp a .Pow b pos) (fun g => (fi g).bind fun i => (fj g).bind fun j => powX i j) :=
  two (fun h1 h2 => pe_op op_pow h1 h2) ha hb fun {F H x y i j Q E} s r1 r2 p => by
    unfold powX at p
    by_cases h : 0 ≤ j ∧ j ≤ 1000000 ∧ i.natAbs < 2 ^ 64
    · rw [if_pos h] at p; exact ⟨_, _, r1, r2, h, p.ret s rfl⟩
    · rw [if_neg h] at p; exact p.elim
theorem fe_neg (ha : FE X c G a fi) : FE X c G (.UnaryOp .USub a pos) (fun g => (fi g).bind fun i => Xc.ok (-i)) :=
  one (fun h => pe_un un_neg h) ha fun s r p => ⟨_, r, p.ret s rfl⟩

/-! comparisons of ints -/
theorem fe_lt (ha : FE X c G a fi) (hb : FE X c G b fj) : FE X c G (.Compare a [.Lt] [b] pos) (fun g => (fi g).bind fun i => (fj g).bind fun j => Xc.ok (decide (i < j))) :=
  two (fun h1 h2 => pe_cmpR op_lt h1 h2 (nomark _)) ha hb fun s r1 r2 p => ⟨_, _, r1, r2, p.ret s rfl⟩
theorem fe_le (ha : FE X c G a fi) (hb : FE X c G b fj) : FE X c G (.Compare a [.LtE] [b] pos) (fun g => (fi g).bind fun i => (fj g).bind fun j => Xc.ok (decide (i ≤ j))) :=
  two (fun h1 h2 => pe_cmpR op_le h1 h2 (nomark _)) ha hb fun s r1 r2 p => ⟨_, _, r1, r2, p.ret s rfl⟩
theorem fe_gt (ha : FE X c G a fi) (hb : FE X c G b fj) : FE X c G (.Compare a [.Gt] [b] pos) (fun g => (fi g).bind fun i => (fj g).bind fun j => Xc.ok (decide (j < i))) :=
  two (fun h1 h2 => pe_cmpR op_gt h1 h2 (nomark _)) ha hb fun s r1 r2 p => ⟨_, _, r1, r2, p.ret s rfl⟩
theorem fe_ge (ha : FE X c G a fi) (hb : FE X c G b fj) : FE X c G (.Compare a [.GtE] [b] pos) (fun g => (fi g).bind fun i => (fj g).bind fun j => Xc.ok (decide (j ≤ i))) :=
  two (fun h1 h2 => pe_cmpR op_ge h1 h2 (nomark _)) ha hb fun s r1 r2 p => ⟨_, _, r1, r2, p.ret s rfl⟩
theorem ft_lt (ha : FE X c G a fi) (hb : FE X c G b fj) : FT X c G (.Compare a [.Lt] [b] pos) (fun g => (fi g).bind fun i => (fj g).bind fun j => Xc.ok (decide (i < j))) :=
  twoT (fun h1 h2 => pt_cmpR op_lt h1 h2 (nomark _)) ha hb fun s r1 r2 p => ⟨_, _, r1, r2, _, rfl, p.ret s⟩
theorem ft_le (ha : FE X c G a fi) (hb : FE X c G b fj) : FT X c G (.Compare a [.LtE] [b] pos) (fun g => (fi g).bind fun i => (fj g).bind fun j => Xc.ok (decide (i ≤ j))) :=
  twoT (fun h1 h2 => pt_cmpR op_le h1 h2 (nomark _)) ha hb fun s r1 r2 p => ⟨_, _, r1, r2, _, rfl, p.ret s⟩
theorem ft_gt (ha : FE X c G a fi) (hb : FE X c G b fj) : FT X c G (.Compare a [.Gt] [b] pos) (fun g => (fi g).bind fun i => (fj g).bind fun j => Xc.ok (decide (j < i))) :=
  twoT (fun h1 h2 => pt_cmpR op_gt h1 h2 (nomark _)) ha hb fun s r1 r2 p => ⟨_, _, r1, r2, _, rfl, p.ret s⟩
theorem ft_ge (ha : FE X c G a fi) (hb : FE X c G b fj) : FT X c G (.Compare a [.GtE] [b] pos) (fun g => (fi g).bind fun i => (fj g).bind fun j => Xc.ok (decide (j ≤ i))) :=
  twoT (fun h1 h2 => pt_cmpR op_ge h1 h2 (nomark _)) ha hb fun s r1 r2 p => ⟨_, _, r1, r2, _, rfl, p.ret s⟩
end

/-! ### equality of scalars -/
class ScalR (α : Type) [Rp α] where
  dec : DecidableEq α
  toV : α → V
  eq : ∀ {K F v} {a : α}, Rp.is K F v a → v = toV a
  sc : ∀ a b : α, scal (toV a) (toV b) = true
  inj : ∀ a b : α, toV a = toV b → a = b
instance : ScalR Int := ⟨inferInstance, .int, fun h => h, fun _ _ => rfl, fun _ _ h => V.int.inj h⟩
instance : ScalR Bool := ⟨inferInstance, .bl, fun h => h, fun _ _ => rfl, fun _ _ h => V.bl.inj h⟩
instance : ScalR Str := ⟨inferInstance, .str, fun h => h.1, fun _ _ => rfl, fun _ _ h => V.str.inj h⟩
instance instDecScal {α : Type} [Rp α] [s : ScalR α] : DecidableEq α := s.dec
section
variable {X : Cx} {c : C0} {γ α β ρ : Type} {G : EnvT γ} [Rp α] [Rp β] [Rp ρ] {a b e : Expr} {pos : Pos}
theorem dec_scal [s : ScalR α] (a b : α) : decide (ScalR.toV a = ScalR.toV b) = (@decide (a = b) (s.dec a b)) := by
  by_cases h : a = b
  · subst h; simp
  · have h2 : ¬ ScalR.toV a = ScalR.toV b := fun e => h (ScalR.inj _ _ e)
    rw [decide_eq_false h2, decide_eq_false h]
theorem fe_eq [s : ScalR α] {fa fb : γ → Xc α} (ha : FE X c G a fa) (hb : FE X c G b fb) : FE X c G (.Compare a [.Eq] [b] pos) (fun g => (fa g).bind fun i => (fb g).bind fun j => Xc.ok (@decide (i = j) (s.dec i j))) :=
  two (fun h1 h2 => pe_cmpR op_eq h1 h2 (nomark _)) ha hb fun {F H x y i j Q E} z r1 r2 p => by
    rw [ScalR.eq r1, ScalR.eq r2]
    exact ⟨ScalR.sc i j, by rw [dec_scal]; exact p.ret z rfl⟩
theorem fe_ne [s : ScalR α] {fa fb : γ → Xc α} (ha : FE X c G a fa) (hb : FE X c G b fb) : FE X c G (.Compare a [.NotEq] [b] pos) (fun g => (fa g).bind fun i => (fb g).bind fun j => Xc.ok (!@decide (i = j) (s.dec i j))) :=
  two (fun h1 h2 => pe_cmpR op_ne h1 h2 (nomark _)) ha hb fun {F H x y i j Q E} z r1 r2 p => by
    rw [ScalR.eq r1, ScalR.eq r2]
    exact ⟨ScalR.sc i j, by rw [dec_scal]; exact p.ret z rfl⟩
theorem ft_eq [s : ScalR α] {fa fb : γ → Xc α} (ha : FE X c G a fa) (hb : FE X c G b fb) : FT X c G (.Compare a [.Eq] [b] pos) (fun g => (fa g).bind fun i => (fb g).bind fun j => Xc.ok (@decide (i = j) (s.dec i j))) :=
  twoT (fun h1 h2 => pt_cmpR op_eq h1 h2 (nomark _)) ha hb fun {F H x y i j Q E} z r1 r2 p => by
    rw [ScalR.eq r1, ScalR.eq r2]
    exact ⟨ScalR.sc i j, _, rfl, by rw [dec_scal]; exact p.ret z⟩
theorem ft_ne [s : ScalR α] {fa fb : γ → Xc α} (ha : FE X c G a fa) (hb : FE X c G b fb) : FT X c G (.Compare a [.NotEq] [b] pos) (fun g => (fa g).bind fun i => (fb g).bind fun j => Xc.ok (!@decide (i = j) (s.dec i j))) :=
  twoT (fun h1 h2 => pt_cmpR op_ne h1 h2 (nomark _)) ha hb fun {F H x y i j Q E} z r1 r2 p => by
    rw [ScalR.eq r1, ScalR.eq r2]
    exact ⟨ScalR.sc i j, _, rfl, by rw [dec_scal]; exact p.ret z⟩

/-! ### None -/
theorem opt_non {K : PySem.W.Frag} {F : Hp} {v : V} {o : Option α} (h : Rp.is K F v o) : decide (v = .non) = o.isNone := by
  cases o with
  | none => have h : v = .non := h; subst h; rfl
  | some a => have h : v ≠ .non := h.1; simp [h]
theorem fe_isN {fa : γ → Xc (Option α)} {j p} (ha : FE X c G a fa) : FE X c G (.Compare a [.Is] [.Constant .none j p] pos) (fun g => (fa g).bind fun i => Xc.ok i.isNone) :=
  PE.imp (pe_cmpR op_isN ha pe_non (nomark _)) fun σ H Q ⟨F, g, w, q, h⟩ => by
    refine ⟨F, g, w, q, ?_⟩
    cases e1 : fa g with
    | ok i => intro v F1 H1 w1 r1; simp only [e1] at h; exact ⟨rfl, by rw [opt_non r1]; exact (Po.on h w1).ret w1.s rfl⟩
    | er c' fs => simp only [e1] at h; exact h
    | no => simp only [e1] at h; exact h
theorem fe_notN {fa : γ → Xc (Option α)} {j p} (ha : FE X c G a fa) : FE X c G (.Compare a [.IsNot] [.Constant .none j p] pos) (fun g => (fa g).bind fun i => Xc.ok (!i.isNone)) :=
  PE.imp (pe_cmpR op_notN ha pe_non (nomark _)) fun σ H Q ⟨F, g, w, q, h⟩ => by
    refine ⟨F, g, w, q, ?_⟩
    cases e1 : fa g with
    | ok i => intro v F1 H1 w1 r1; simp only [e1] at h; exact ⟨rfl, by rw [opt_non r1]; exact (Po.on h w1).ret w1.s rfl⟩
    | er c' fs => simp only [e1] at h; exact h
    | no => simp only [e1] at h; exact h
theorem ft_isN {fa : γ → Xc (Option α)} {j p} (ha : FE X c G a fa) : FT X c G (.Compare a [.Is] [.Constant .none j p] pos) (fun g => (fa g).bind fun i => Xc.ok i.isNone) :=
  PT.imp (pt_cmpR op_isN ha pe_non (nomark _)) fun σ H Q ⟨F, g, w, q, h⟩ => by
    refine ⟨F, g, w, q, ?_⟩
    cases e1 : fa g with
    | ok i => intro v F1 H1 w1 r1; simp only [e1] at h; exact ⟨rfl, _, rfl, by rw [opt_non r1]; exact (PoB.on h w1).ret w1.s⟩
    | er c' fs => simp only [e1] at h; exact h
    | no => simp only [e1] at h; exact h
theorem ft_notN {fa : γ → Xc (Option α)} {j p} (ha : FE X c G a fa) : FT X c G (.Compare a [.IsNot] [.Constant .none j p] pos) (fun g => (fa g).bind fun i => Xc.ok (!i.isNone)) :=
  PT.imp (pt_cmpR op_notN ha pe_non (nomark _)) fun σ H Q ⟨F, g, w, q, h⟩ => by
    refine ⟨F, g, w, q, ?_⟩
    cases e1 : fa g with
    | ok i => intro v F1 H1 w1 r1; simp only [e1] at h; exact ⟨rfl, _, rfl, by rw [opt_non r1]; exact (PoB.on h w1).ret w1.s⟩
    | er c' fs => simp only [e1] at h; exact h
    | no => simp only [e1] at h; exact h
/-- a value known to be there -/
def someX {α : Type} (o : Option α) : Xc α := match o with
  | some a => .ok a
  | none => .no
theorem fe_some {fa : γ → Xc (Option α)} (ha : FE X c G a fa) : FE X c G a (fun g => (fa g).bind someX) :=
  PE.imp ha fun σ H Q ⟨F, g, w, q, h⟩ => by
    refine ⟨F, g, w, q, ?_⟩
    cases e1 : fa g with
    | ok i =>
      simp only [e1] at h
      cases i with
      | none => exact h.elim
      | some i => intro v F1 H1 w1 r1; exact h v F1 H1 w1 r1.2
    | er c' fs => simp only [e1] at h; exact h
    | no => simp only [e1] at h; exact h
/-- a value as one that may be there -/
class NotNone (α : Type) [Rp α] : Prop where
  ne : ∀ {K F v} {a : α}, Rp.is K F v a → v ≠ .non
instance : NotNone Int := ⟨fun h => by have h : _ = V.int _ := h; subst h; intro z; cases z⟩
instance : NotNone Bool := ⟨fun h => by have h : _ = V.bl _ := h; subst h; intro z; cases z⟩
instance : NotNone Str := ⟨fun h => by have h : _ = V.str _ := h.1; subst h; intro z; cases z⟩
instance {α : Type} [Rp α] : NotNone (List α) := ⟨fun ⟨p, xs, h, _⟩ => by subst h; intro z; cases z⟩
instance {α : Type} [Rp α] : NotNone (Tu α) := ⟨fun ⟨p, xs, h, _⟩ => by subst h; intro z; cases z⟩
instance {α β : Type} [Rp α] [Rp β] : NotNone (α × β) := ⟨fun ⟨p, x, y, h, _⟩ => by subst h; intro z; cases z⟩
instance {α β γ : Type} [Rp α] [Rp β] [Rp γ] : NotNone (T3 α β γ) := ⟨fun ⟨p, x, y, _, h, _⟩ => by subst h; intro z; cases z⟩
instance {α β γ δ : Type} [Rp α] [Rp β] [Rp γ] [Rp δ] : NotNone (T4 α β γ δ) := ⟨fun ⟨p, x, y, _, _, h, _⟩ => by subst h; intro z; cases z⟩
theorem fe_opt [NotNone α] {fa : γ → Xc α} (ha : FE X c G a fa) : FE X c G a (fun g => (fa g).bind fun i => Xc.ok (some i)) :=
  PE.imp ha fun σ H Q ⟨F, g, w, q, h⟩ => by
    refine ⟨F, g, w, q, ?_⟩
    cases e1 : fa g with
    | ok i => simp only [e1] at h; exact fun v F1 H1 w1 r1 => h v F1 H1 w1 ⟨NotNone.ne r1, r1⟩
    | er c' fs => simp only [e1] at h; exact h
    | no => simp only [e1] at h; exact h
theorem fe_nopt {fa : γ → Xc Unit} (ha : FE X c G a fa) : FE X c G a (fun g => (fa g).bind fun _ => Xc.ok (none : Option α)) :=
  PE.imp ha fun σ H Q ⟨F, g, w, q, h⟩ => by
    refine ⟨F, g, w, q, ?_⟩
    cases e1 : fa g with
    | ok i => simp only [e1] at h; exact fun v F1 H1 w1 r1 => h v F1 H1 w1 r1
    | er c' fs => simp only [e1] at h; exact h
    | no => simp only [e1] at h; exact h

/-! ### tests -/
variable {rest : List Expr} {fa fb : γ → Xc Bool}
theorem ft_val (ha : FE X c G a fa) (he : ∀ whole, isTrue a X.env whole = (do let v ← whole; standAt a.pos; holding [v] (truthy v)) := by intro _; rfl) : FT X c G a fa :=
  PT.imp (pt_val ha he) fun σ H Q ⟨F, g, w, q, h⟩ => by
    refine ⟨F, g, w, q, ?_⟩
    cases e1 : fa g with
    | ok i => intro v F1 H1 w1 r1; rw [e1] at h; exact ⟨i, r1, h F1 H1 w1⟩
    | er c' fs => rw [e1] at h; exact h
    | no => rw [e1] at h; exact h
theorem ft_not (ha : FT X c G a fa) : FT X c G (.UnaryOp .Not a pos) (fun g => (fa g).bind fun i => Xc.ok (!i)) :=
  PT.imp (pt_not ha) fun σ H Q ⟨F, g, w, q, h⟩ => by
    refine ⟨F, g, w, q, ?_⟩
    cases e1 : fa g with
    | ok i => intro F1 H1 w1; simp only [e1] at h; exact h F1 H1 w1
    | er c' fs => simp only [e1] at h; exact h
    | no => simp only [e1] at h; exact h
/-- a test in a chain of and, or -/
def FW (X : Cx) (c : C0) (G : EnvT γ) (e : Expr) (f : γ → Xc Bool) : Prop := PW X e (tT X.K c G f)
theorem ft_w (h : FW X c G e fa) : FT X c G e fa := PW.pt h
theorem fw_and1 (ha : FT X c G a fa) : FW X c G (.BoolOp .And [a] pos) fa := pw_and1 ha
theorem fw_or1 (ha : FT X c G a fa) : FW X c G (.BoolOp .Or [a] pos) fa := pw_or1 ha
theorem PW.imp {e : Expr} {t t' : TT} (h : PW X e t) (i : ∀ σ H Q, t' σ H Q → t σ H Q) : PW X e t' := ⟨fun wh pins s σ H Q I q => h.run wh pins s σ H Q I (i σ H Q q)⟩
theorem fw_and (ha : FT X c G a fa) (hb : FW X c G (.BoolOp .And (b :: rest) pos) fb) : FW X c G (.BoolOp .And (a :: b :: rest) pos) (fun g => (fa g).bind fun i => if i = true then fb g else Xc.ok false) :=
  PW.imp (pw_and ha hb) fun σ H Q ⟨F, g, w, q, h⟩ => by
    refine ⟨F, g, w, q, ?_⟩
    cases e1 : fa g with
    | ok i =>
      intro F1 H1 w1
      simp only [e1] at h
      cases i with
      | true => exact iteT ⟨F1, g, w.trans w1, G.mono q w1, PoB.on h w1⟩
      | false => exact iteF ((PoB.on h w1).ret w1.s)
    | er c' fs => simp only [e1] at h; exact h
    | no => simp only [e1] at h; exact h
theorem fw_or (ha : FT X c G a fa) (hb : FW X c G (.BoolOp .Or (b :: rest) pos) fb) : FW X c G (.BoolOp .Or (a :: b :: rest) pos) (fun g => (fa g).bind fun i => if i = true then Xc.ok true else fb g) :=
  PW.imp (pw_or ha hb) fun σ H Q ⟨F, g, w, q, h⟩ => by
    refine ⟨F, g, w, q, ?_⟩
    cases e1 : fa g with
    | ok i =>
      intro F1 H1 w1
      simp only [e1] at h
      cases i with
      | true => exact iteT ((PoB.on h w1).ret w1.s)
      | false => exact iteF ⟨F1, g, w.trans w1, G.mono q w1, PoB.on h w1⟩
    | er c' fs => simp only [e1] at h; exact h
    | no => simp only [e1] at h; exact h
/-- .. as values -/
theorem fe_one {op} (h : FE X c G a fa) : FE X c G (.BoolOp op [a] pos) fa := pe_one h
theorem fe_and (ha : FE X c G a fa) (hb : FE X c G (.BoolOp .And (b :: rest) pos) fb) : FE X c G (.BoolOp .And (a :: b :: rest) pos) (fun g => (fa g).bind fun i => if i = true then fb g else Xc.ok false) :=
  PE.imp (pe_and ha hb) fun σ H Q ⟨F, g, w, q, h⟩ => by
    refine ⟨F, g, w, q, ?_⟩
    cases e1 : fa g with
    | ok i =>
      intro v F1 H1 w1 r1
      simp only [e1] at h
      refine ⟨i, r1, ?_⟩
      cases i with
      | true => exact iteT ⟨F1, g, w.trans w1, G.mono q w1, Po.on h w1⟩
      | false => exact iteF ((Po.on h w1).ret w1.s rfl)
    | er c' fs => simp only [e1] at h; exact h
    | no => simp only [e1] at h; exact h
theorem fe_or (ha : FE X c G a fa) (hb : FE X c G (.BoolOp .Or (b :: rest) pos) fb) : FE X c G (.BoolOp .Or (a :: b :: rest) pos) (fun g => (fa g).bind fun i => if i = true then Xc.ok true else fb g) :=
  PE.imp (pe_or ha hb) fun σ H Q ⟨F, g, w, q, h⟩ => by
    refine ⟨F, g, w, q, ?_⟩
    cases e1 : fa g with
    | ok i =>
      intro v F1 H1 w1 r1
      simp only [e1] at h
      refine ⟨i, r1, ?_⟩
      cases i with
      | true => exact iteT ((Po.on h w1).ret w1.s rfl)
      | false => exact iteF ⟨F1, g, w.trans w1, G.mono q w1, Po.on h w1⟩
    | er c' fs => simp only [e1] at h; exact h
    | no => simp only [e1] at h; exact h
theorem fe_not (ha : FE X c G a fa) : FE X c G (.UnaryOp .Not a pos) (fun g => (fa g).bind fun i => Xc.ok (!i)) :=
  PE.imp (pe_not ha) fun σ H Q ⟨F, g, w, q, h⟩ => by
    refine ⟨F, g, w, q, ?_⟩
    cases e1 : fa g with
    | ok i => intro v F1 H1 w1 r1; simp only [e1] at h; exact ⟨i, r1, (Po.on h w1).ret w1.s rfl⟩
    | er c' fs => simp only [e1] at h; exact h
    | no => simp only [e1] at h; exact h
theorem fe_if {t : Expr} {ft : γ → Xc Bool} {f1 f2 : γ → Xc α} (ht : FT X c G t ft) (ha : FE X c G a f1) (hb : FE X c G b f2) : FE X c G (.IfExp t a b pos) (fun g => (ft g).bind fun i => if i = true then f1 g else f2 g) :=
  PE.imp (pe_ifExp ht ha hb) fun σ H Q ⟨F, g, w, q, h⟩ => by
    refine ⟨F, g, w, q, ?_⟩
    cases e1 : ft g with
    | ok i =>
      intro F1 H1 w1
      simp only [e1] at h
      cases i with
      | true => exact iteT ⟨F1, g, w.trans w1, G.mono q w1, Po.on h w1⟩
      | false => exact iteF ⟨F1, g, w.trans w1, G.mono q w1, Po.on h w1⟩
    | er c' fs => simp only [e1] at h; exact h
    | no => simp only [e1] at h; exact h
end
end FL

/-! FL3: arguments, displays, lists of one's own, subscripts, slices, texts, built-in calls. -/
namespace FL
open PySem L2
/-! ### arguments -/
class Rps (αs : Type) where
  isL : PySem.W.Frag → Hp → List V → αs → Prop
  mono : ∀ {K F F' vs as}, Same F F' → isL K F vs as → isL K F' vs as
instance : Rps Unit := ⟨fun _ _ vs _ => vs = [], fun _ h => h⟩
instance {α αs : Type} [Rp α] [Rps αs] : Rps (α × αs) := ⟨fun K F vs a => ∃ v r, vs = v :: r ∧ Rp.is K F v a.1 ∧ Rps.isL K F r a.2, fun s ⟨v, r, e, h, t⟩ => ⟨v, r, e, Rp.mono s h, Rps.mono s t⟩⟩
def PoA {αs : Type} [Rps αs] (K : PySem.W.Frag) (F H : Hp) (Q : List V → Hp → Prop) (E : XK) (m : Xc αs) : Prop := match m with
  | .ok a => ∀ vs F' H', Wd F H F' H' → Rps.isL K F' vs a → Q vs H'
  | .er c fs => ErP K F H E c fs
  | .no => False
theorem PoA.on {αs : Type} [Rps αs] {K : PySem.W.Frag} {F H F' H' : Hp} {Q : List V → Hp → Prop} {E : XK} {m : Xc αs} (h : PoA K F H Q E m) (w : Wd F H F' H') : PoA K F' H' Q E m := by
  cases m with
  | ok a => exact fun v F2 H2 w2 r => h v F2 H2 (w.trans w2) r
  | er c fs => exact ErP.on h w
  | no => exact h
/-- what a list of one's own gives: a new list, not frozen -/
def PoO {α : Type} [Rp α] (K : PySem.W.Frag) (F H : Hp) (Q : VK) (E : XK) (m : Xc (List α)) : Prop := match m with
  | .ok l => ∀ p xs F' H', Wd F H F' H' → H p = none → F' p = none → H' p = some (.lst xs) → l.length ≤ sizeLine → Al K F' xs l → Q (.ref p) H'
  | .er c fs => ErP K F H E c fs
  | .no => False
theorem PoO.on {α : Type} [Rp α] {K : PySem.W.Frag} {F H F' H' : Hp} {Q : VK} {E : XK} {m : Xc (List α)} (h : PoO K F H Q E m) (w : Wd F H F' H') : PoO K F' H' Q E m := by
  cases m with
  | ok a => exact fun p xs F2 H2 w2 n => h p xs F2 H2 (w.trans w2) (w.h.free n)
  | er c fs => exact ErP.on h w
  | no => exact h
/-- to freeze a list -/
theorem Wd.fz {F H F' H' : Hp} {p : Addr} {xs : List V} (w : Wd F H F' H') (n : H p = none) (f : F' p = none) (h : H' p = some (.lst xs)) : Wd F H (upd F' p (.lst xs)) H' :=
  ⟨w.f.trans (same_new f), w.h, fun b u e => by
    by_cases q : b = p
    · subst q; rw [upd_same] at e; rw [h]; exact e
    · rw [upd_ne q] at e; exact w.s b u e, fun b h' e => by
    by_cases q : b = p
    · subst q; exact n
    · rw [upd_ne q] at h'; exact w.n b h' e⟩
theorem Wd.ns {F H F' H' : Hp} (w : Wd F H F' H') (s : Same F H) {p : Addr} (n : H p = none) : F p = none := s.free n
section
variable {X : Cx} {c : C0} {γ α β δ αs : Type} {G : EnvT γ} [Rp α] [Rp β] [Rp δ] [Rps αs] {a b e : Expr} {pos : Pos} {es : List Expr}
def tA (K : PySem.W.Frag) (c : C0) (G : EnvT γ) (f : γ → Xc αs) : TA := fun σ H Q => ∃ F g, Wd c.F0 c.H0 F H ∧ G.rel K c.H0 F H σ g ∧ PoA K F H Q (WE c.W σ) (f g)
def FA (X : Cx) (c : C0) (G : EnvT γ) (es : List Expr) (f : γ → Xc αs) : Prop := PA X es (tA X.K c G f)
def tO (K : PySem.W.Frag) (c : C0) (G : EnvT γ) (f : γ → Xc (List α)) : TE := fun σ H Q => ∃ F g, Wd c.F0 c.H0 F H ∧ G.rel K c.H0 F H σ g ∧ PoO K F H Q (WE c.W σ) (f g)
/-- e computes a list that is new and one's own -/
def FO (X : Cx) (c : C0) (G : EnvT γ) (e : Expr) (f : γ → Xc (List α)) : Prop := PE X e (tO X.K c G f)
theorem PA.imp {t t' : TA} (h : PA X es t) (i : ∀ σ H Q, t' σ H Q → t σ H Q) : PA X es t' := ⟨fun pos pins s σ H Q I q => h.run pos pins s σ H Q I (i σ H Q q)⟩
theorem fa_nil : FA X c G [] (fun _ => Xc.ok ()) := PA.imp pa_nil fun σ H Q ⟨F, g, w, q, h⟩ => h [] F H (Wd.refl w.s) rfl
theorem fa_cons {f : γ → Xc α} {fs : γ → Xc αs} (ha : FE X c G e f) (hr : FA X c G es fs) (hs : starEach (e :: es) X.env = (false, eval e X.env) :: starEach es X.env := by rfl) :
    FA X c G (e :: es) (fun g => (f g).bind fun i => (fs g).bind fun r => Xc.ok (i, r)) :=
  PA.imp (pa_cons ha hr hs) fun σ H Q ⟨F, g, w, q, h⟩ => by
    refine ⟨F, g, w, q, ?_⟩
    cases e1 : f g with
    | ok i =>
      intro v F1 H1 w1 r1
      simp only [e1] at h
      have h : PoA X.K F H Q (WE c.W σ) ((fs g).bind fun r => Xc.ok (i, r)) := h
      refine ⟨F1, g, w.trans w1, G.mono q w1, ?_⟩
      cases e2 : fs g with
      | ok r =>
        intro vs F2 H2 w2 r2
        simp only [e2] at h
        exact h (v :: vs) F2 H2 (w1.trans w2) ⟨v, vs, rfl, Rp.mono w2.f r1, r2⟩
      | er c' fs => simp only [e2] at h; exact ErP.on h w1
      | no => simp only [e2] at h; exact h
    | er c' fs => simp only [e1] at h; exact h
    | no => simp only [e1] at h; exact h
/-- an own list as a frozen one -/
theorem fe_fz {f : γ → Xc (List α)} (h : FO X c G e f) : FE X c G e f :=
  PE.imp h fun σ H Q ⟨F, g, w, q, p⟩ => by
    refine ⟨F, g, w, q, ?_⟩
    cases e1 : f g with
    | ok l =>
      intro p1 xs F1 H1 w1 n f1 h1 hl r
      rw [e1] at p
      exact p (.ref p1) _ H1 (w1.fz n f1 h1) ⟨p1, xs, rfl, SqL.of upd_same, hl, r.mono (same_new f1)⟩
    | er c' fs => rw [e1] at p; exact p
    | no => rw [e1] at p; exact p
theorem FO.cast {f f' : γ → Xc (List α)} (h : FO X c G e f) (i : ∀ g, f' g = f g) : FO X c G e f' := by
  rw [show f' = f from funext i]; exact h
end

/-! ### displays -/
def PoH {α : Type} [Rp α] (K : PySem.W.Frag) (F H : Hp) (Q : List V → Hp → Prop) (E : XK) (m : Xc (List α)) : Prop := match m with
  | .ok a => ∀ vs F' H', Wd F H F' H' → Al K F' vs a → Q vs H'
  | .er c fs => ErP K F H E c fs
  | .no => False
theorem PoH.on {α : Type} [Rp α] {K : PySem.W.Frag} {F H F' H' : Hp} {Q : List V → Hp → Prop} {E : XK} {m : Xc (List α)} (h : PoH K F H Q E m) (w : Wd F H F' H') : PoH K F' H' Q E m := by
  cases m with
  | ok a => exact fun v F2 H2 w2 r => h v F2 H2 (w.trans w2) r
  | er c fs => exact ErP.on h w
  | no => exact h
section
variable {X : Cx} {c : C0} {γ α β δ ε : Type} {G : EnvT γ} [Rp α] [Rp β] [Rp δ] [Rp ε] {a b e d e' : Expr} {pos : Pos} {es : List Expr}
def tH (K : PySem.W.Frag) (c : C0) (G : EnvT γ) (f : γ → Xc (List α)) : TA := fun σ H Q => ∃ F g, Wd c.F0 c.H0 F H ∧ G.rel K c.H0 F H σ g ∧ PoH K F H Q (WE c.W σ) (f g)
/-- expressions in a row, all of one kind -/
def FH (X : Cx) (c : C0) (G : EnvT γ) (es : List Expr) (f : γ → Xc (List α)) : Prop := PA X es (tH X.K c G f)
theorem fh_nil : FH X c G [] (fun _ => Xc.ok ([] : List α)) := PA.imp pa_nil fun σ H Q ⟨F, g, w, q, h⟩ => h [] F H (Wd.refl w.s) .nil
theorem fh_cons {f : γ → Xc α} {fs : γ → Xc (List α)} (ha : FE X c G e f) (hr : FH X c G es fs) (hs : starEach (e :: es) X.env = (false, eval e X.env) :: starEach es X.env := by rfl) :
    FH X c G (e :: es) (fun g => (f g).bind fun i => (fs g).bind fun r => Xc.ok (i :: r)) :=
  PA.imp (pa_cons ha hr hs) fun σ H Q ⟨F, g, w, q, h⟩ => by
    refine ⟨F, g, w, q, ?_⟩
    cases e1 : f g with
    | ok i =>
      intro v F1 H1 w1 r1
      simp only [e1] at h
      have h : PoH X.K F H Q (WE c.W σ) ((fs g).bind fun r => Xc.ok (i :: r)) := h
      refine ⟨F1, g, w.trans w1, G.mono q w1, ?_⟩
      cases e2 : fs g with
      | ok r =>
        intro vs F2 H2 w2 r2
        simp only [e2] at h
        exact h (v :: vs) F2 H2 (w1.trans w2) (.cons (Rp.mono w2.f r1) r2)
      | er c' fs => simp only [e2] at h; exact ErP.on h w1
      | no => simp only [e2] at h; exact h
    | er c' fs => simp only [e1] at h; exact h
    | no => simp only [e1] at h; exact h
theorem small_line {n : Nat} (h : n ≤ 1000) : n ≤ sizeLine := Nat.le_trans h (by rw [sizeLine_eq]; decide)
@[irreducible] def szX {α : Type} (l : List α) : Xc (List α) := if l.length ≤ sizeLine then .ok l else .no
theorem fe_tup2 {x1} {fa : γ → Xc α} {fb : γ → Xc β} (ha : FE X c G a fa) (hb : FE X c G b fb) (hs : starEach [a, b] X.env = (false, eval a X.env) :: starEach [b] X.env := by rfl) (hs2 : starEach [b] X.env = (false, eval b X.env) :: starEach [] X.env := by rfl) :
    FE X c G (.Tuple [a, b] x1 pos) (fun g => (fa g).bind fun i => (fb g).bind fun j => Xc.ok (i, j)) :=
  PE.imp (pe_tup (fa_cons ha (fa_cons hb fa_nil hs2) hs)) fun σ H Q ⟨F, g, w, q, p⟩ => by
    refine ⟨F, g, w, q, ?_⟩
    cases e1 : fa g with
    | ok i =>
      cases e2 : fb g with
      | ok j =>
        simp only [e1, e2] at p ⊢
        intro vs F1 H1 w1 r1
        obtain ⟨v, r, e3, q1, ⟨u, r2, e4, q2, e5⟩⟩ := r1
        subst e5 e4 e3
        refine ⟨small_line (by decide : 2 ≤ 1000), fun l hl => ?_⟩
        have w2 := Wd.new (o := .tup [v, u]) w1.s hl
        exact p (.ref l) _ _ (w1.trans w2) ⟨l, v, u, rfl, SqT.of upd_same, Rp.mono w2.f q1, Rp.mono w2.f q2⟩
      | er c' fs => simp only [e1, e2] at p ⊢; exact p
      | no => simp only [e1, e2] at p ⊢; exact p
    | er c' fs => simp only [e1] at p ⊢; exact p
    | no => simp only [e1] at p ⊢; exact p
theorem fe_tup3 {x1} {fa : γ → Xc α} {fb : γ → Xc β} {fd : γ → Xc δ} (ha : FE X c G a fa) (hb : FE X c G b fb) (hd : FE X c G d fd) (hs : starEach [a, b, d] X.env = (false, eval a X.env) :: starEach [b, d] X.env := by rfl)
    (hs2 : starEach [b, d] X.env = (false, eval b X.env) :: starEach [d] X.env := by rfl) (hs3 : starEach [d] X.env = (false, eval d X.env) :: starEach [] X.env := by rfl) :
    FE X c G (.Tuple [a, b, d] x1 pos) (fun g => (fa g).bind fun i => (fb g).bind fun j => (fd g).bind fun m => Xc.ok (T3.mk i j m)) :=
  PE.imp (pe_tup (fa_cons ha (fa_cons hb (fa_cons hd fa_nil hs3) hs2) hs)) fun σ H Q ⟨F, g, w, q, p⟩ => by
    refine ⟨F, g, w, q, ?_⟩
    cases e1 : fa g with
    | ok i =>
      cases e2 : fb g with
      | ok j =>
        cases e3 : fd g with
        | ok m =>
          simp only [e1, e2, e3] at p ⊢
          intro vs F1 H1 w1 r1
          obtain ⟨v, r, y1, q1, ⟨u, r2, y2, q2, ⟨z, r3, y3, q3, y4⟩⟩⟩ := r1
          subst y4 y3 y2 y1
          refine ⟨small_line (by decide : 3 ≤ 1000), fun l hl => ?_⟩
          have w2 := Wd.new (o := .tup [v, u, z]) w1.s hl
          exact p (.ref l) _ _ (w1.trans w2) ⟨l, v, u, z, rfl, SqT.of upd_same, Rp.mono w2.f q1, Rp.mono w2.f q2, Rp.mono w2.f q3⟩
        | er c' fs => simp only [e1, e2, e3] at p ⊢; exact p
        | no => simp only [e1, e2, e3] at p ⊢; exact p
      | er c' fs => simp only [e1, e2] at p ⊢; exact p
      | no => simp only [e1, e2] at p ⊢; exact p
    | er c' fs => simp only [e1] at p ⊢; exact p
    | no => simp only [e1] at p ⊢; exact p
theorem fe_tup4 {x1} {fa : γ → Xc α} {fb : γ → Xc β} {fd : γ → Xc δ} {fe : γ → Xc ε} (ha : FE X c G a fa) (hb : FE X c G b fb) (hd : FE X c G d fd) (he : FE X c G e' fe) (hs : starEach [a, b, d, e'] X.env = (false, eval a X.env) :: starEach [b, d, e'] X.env := by rfl)
    (hs2 : starEach [b, d, e'] X.env = (false, eval b X.env) :: starEach [d, e'] X.env := by rfl) (hs3 : starEach [d, e'] X.env = (false, eval d X.env) :: starEach [e'] X.env := by rfl) (hs4 : starEach [e'] X.env = (false, eval e' X.env) :: starEach [] X.env := by rfl) :
    FE X c G (.Tuple [a, b, d, e'] x1 pos) (fun g => (fa g).bind fun i => (fb g).bind fun j => (fd g).bind fun m => (fe g).bind fun n => Xc.ok (T4.mk i j m n)) :=
  PE.imp (pe_tup (fa_cons ha (fa_cons hb (fa_cons hd (fa_cons he fa_nil hs4) hs3) hs2) hs)) fun σ H Q ⟨F, g, w, q, p⟩ => by
    refine ⟨F, g, w, q, ?_⟩
    cases e1 : fa g with
    | ok i =>
      cases e2 : fb g with
      | ok j =>
        cases e3 : fd g with
        | ok m =>
          cases e4 : fe g with
          | ok n =>
            simp only [e1, e2, e3, e4] at p ⊢
            intro vs F1 H1 w1 r1
            obtain ⟨v, r, y1, q1, ⟨u, r2, y2, q2, ⟨z, r3, y3, q3, ⟨t, r4, y4, q4, y5⟩⟩⟩⟩ := r1
            subst y5 y4 y3 y2 y1
            refine ⟨small_line (by decide : 4 ≤ 1000), fun l hl => ?_⟩
            have w2 := Wd.new (o := .tup [v, u, z, t]) w1.s hl
            exact p (.ref l) _ _ (w1.trans w2) ⟨l, v, u, z, t, rfl, SqT.of upd_same, Rp.mono w2.f q1, Rp.mono w2.f q2, Rp.mono w2.f q3, Rp.mono w2.f q4⟩
          | er c' fs => simp only [e1, e2, e3, e4] at p ⊢; exact p
          | no => simp only [e1, e2, e3, e4] at p ⊢; exact p
        | er c' fs => simp only [e1, e2, e3] at p ⊢; exact p
        | no => simp only [e1, e2, e3] at p ⊢; exact p
      | er c' fs => simp only [e1, e2] at p ⊢; exact p
      | no => simp only [e1, e2] at p ⊢; exact p
    | er c' fs => simp only [e1] at p ⊢; exact p
    | no => simp only [e1] at p ⊢; exact p
/-- a tuple of items of one kind -/
theorem fe_tupU {x1} {fs : γ → Xc (List α)} (h : FH X c G es fs) : FE X c G (.Tuple es x1 pos) (fun g => (fs g).bind fun l => (szX l).bind fun l => Xc.ok (tu l)) :=
  PE.imp (pe_tup h) fun σ H Q ⟨F, g, w, q, p⟩ => by
    refine ⟨F, g, w, q, ?_⟩
    cases e1 : fs g with
    | ok l =>
      intro vs F1 H1 w1 r1
      simp only [e1] at p
      have p : Po X.K F H Q (WE c.W σ) ((szX l).bind fun l => Xc.ok (tu l)) := p
      unfold szX at p
      by_cases hz : l.length ≤ sizeLine
      · rw [if_pos hz] at p
        refine ⟨by rw [r1.len]; exact hz, fun t ht => ?_⟩
        have w2 := Wd.new (o := .tup vs) w1.s ht
        exact p (.ref t) _ _ (w1.trans w2) ⟨t, vs, rfl, SqT.of upd_same, hz, r1.mono w2.f⟩
      · rw [if_neg hz] at p; exact p.elim
    | er c' fs => simp only [e1] at p; exact p
    | no => simp only [e1] at p; exact p
theorem fo_lst {fs : γ → Xc (List α)} (h : FH X c G es fs) : FO X c G (.List es pos) (fun g => (fs g).bind szX) :=
  PE.imp (pe_lst h) fun σ H Q ⟨F, g, w, q, p⟩ => by
    refine ⟨F, g, w, q, ?_⟩
    cases e1 : fs g with
    | ok l =>
      intro vs F1 H1 w1 r1
      simp only [e1] at p
      have p : PoO X.K F H Q (WE c.W σ) (szX l) := p
      unfold szX at p
      by_cases hz : l.length ≤ sizeLine
      · rw [if_pos hz] at p
        refine ⟨by rw [r1.len]; exact hz, fun t ht => ?_⟩
        exact p t vs F1 _ (w1.trans (Wd.newO w1.s ht)) (w1.h.free ht) (w1.s.free ht) upd_same hz r1
      · rw [if_neg hz] at p; exact p.elim
    | er c' fs => simp only [e1] at p; exact p
    | no => simp only [e1] at p; exact p
theorem fo_nil : FO X c G (.List [] pos) (fun _ => Xc.ok ([] : List α)) :=
  PE.imp (pe_lst pa_nil) fun σ H Q ⟨F, g, w, q, p⟩ => by
    refine ⟨Nat.zero_le _, fun l hl => ?_⟩
    exact p l [] F _ (Wd.newO w.s hl) hl (w.s.free hl) upd_same (Nat.zero_le _) .nil
end

/-! ### subscripts -/
@[irreducible] def getX {α : Type} (l : List α) (i : Int) : Xc α := match atI l i with
  | some a => .ok a
  | none => .no
theorem atI_al {α : Type} [Rp α] {K : PySem.W.Frag} {F : Hp} {xs : List V} {l : List α} {i : Int} {a : α} (r : Al K F xs l) (h : atI l i = some a) : ∃ v, atI xs i = some v ∧ Rp.is K F v a := by
  unfold atI at h ⊢
  rw [r.len]
  cases e : ixN l.length i with
  | none => rw [e] at h; cases h
  | some j =>
    rw [e] at h
    exact r.get' (show l[j]? = some a from h)
@[irreducible] def chX (z : Str) (i : Int) : Xc Str := match atI z.cps.toList i with
  | some k => .ok ⟨#[k]⟩
  | none => .no
theorem one_le_line : 1 ≤ sizeLine := by rw [sizeLine_eq]; decide
section
variable {X : Cx} {c : C0} {γ α β δ τ : Type} {G : EnvT γ} [Rp α] [Rp β] [Rp δ] {a b e : Expr} {pos : Pos} {es : List Expr}
theorem fe_ixL {fa : γ → Xc (List α)} {fi : γ → Xc Int} (ha : FE X c G a fa) (hb : FE X c G b fi) (hs : PlainIx b := by exact fun _ _ => rfl) : FE X c G (.Subscript a b pos) (fun g => (fa g).bind fun l => (fi g).bind fun i => getX l i) :=
  two (fun h1 h2 => pe_ix ix_list h1 h2 hs) ha hb fun {F H x y l i Q E} s r1 r2 p => by
    obtain ⟨q, xs, e, hq, z, r⟩ := r1
    unfold getX at p
    cases h : atI l i with
    | none => rw [h] at p; exact p.elim
    | some v =>
      rw [h] at p
      obtain ⟨u, hu, ru⟩ := atI_al r h
      exact ⟨q, xs, i, u, e, r2, Same.seq s hq, hu, p.ret s ru⟩
theorem fe_ixU {fa : γ → Xc (Tu α)} {fi : γ → Xc Int} (ha : FE X c G a fa) (hb : FE X c G b fi) (hs : PlainIx b := by exact fun _ _ => rfl) : FE X c G (.Subscript a b pos) (fun g => (fa g).bind fun l => (fi g).bind fun i => getX (Tu.l l) i) :=
  two (fun h1 h2 => pe_ix ix_tup h1 h2 hs) ha hb fun {F H x y l i Q E} s r1 r2 p => by
    obtain ⟨q, xs, e, hq, z, r⟩ := r1
    unfold getX at p
    cases h : atI (Tu.l l) i with
    | none => rw [h] at p; exact p.elim
    | some v =>
      rw [h] at p
      obtain ⟨u, hu, ru⟩ := atI_al r h
      exact ⟨q, xs, i, u, e, r2, Same.seqT s hq, hu, p.ret s ru⟩
theorem fe_ixS {fa : γ → Xc Str} {fi : γ → Xc Int} (ha : FE X c G a fa) (hb : FE X c G b fi) (hs : PlainIx b := by exact fun _ _ => rfl) : FE X c G (.Subscript a b pos) (fun g => (fa g).bind fun l => (fi g).bind fun i => chX l i) :=
  two (fun h1 h2 => pe_ix ix_str h1 h2 hs) ha hb fun {F H x y l i Q E} s r1 r2 p => by
    unfold chX at p
    cases h : atI l.cps.toList i with
    | none => rw [h] at p; exact p.elim
    | some v =>
      rw [h] at p
      exact ⟨l, i, v, r1.1, r2, r1.2, h, p.ret s ⟨rfl, one_le_line⟩⟩
/-- t[k] of a written place -/
theorem fe_itm {fa : γ → Xc τ} [Rp τ] {π : τ → α} {k : Int} {j p} (hπ : ∀ {K F v} {t : τ}, Rp.is K F v t → ∃ q xs u, v = .ref q ∧ SqT K F q xs ∧ atI xs k = some u ∧ Rp.is K F u (π t)) (ha : FE X c G a fa) :
    FE X c G (.Subscript a (.Constant (.int k) j p) pos) (fun g => (fa g).bind fun t => Xc.ok (π t)) :=
  PE.imp (pe_ix ix_tup ha pe_int (fun _ _ => rfl)) fun σ H Q ⟨F, g, w, q, h⟩ => by
    refine ⟨F, g, w, q, ?_⟩
    cases e1 : fa g with
    | ok t =>
      intro v F1 H1 w1 r1
      simp only [e1] at h
      obtain ⟨q, xs, u, e, hq, hu, r⟩ := hπ r1
      exact ⟨q, xs, k, u, e, rfl, Same.seqT w1.s hq, hu, (Po.on h w1).ret w1.s r⟩
    | er c' fs => simp only [e1] at h; exact h
    | no => simp only [e1] at h; exact h
variable {ε ζ : Type} [Rp ε] [Rp ζ] {j : Nat} {p : Pos}
theorem fe_p0 {fa : γ → Xc (α × β)} (ha : FE X c G a fa) : FE X c G (.Subscript a (.Constant (.int 0) j p) pos) (fun g => (fa g).bind fun t => Xc.ok t.1) :=
  fe_itm (fun h => by obtain ⟨q, x, y, e, h, r1, r2⟩ := h; exact ⟨q, _, x, e, h, atI_nat (j := 0) rfl, r1⟩) ha
theorem fe_p1 {fa : γ → Xc (α × β)} (ha : FE X c G a fa) : FE X c G (.Subscript a (.Constant (.int 1) j p) pos) (fun g => (fa g).bind fun t => Xc.ok t.2) :=
  fe_itm (fun h => by obtain ⟨q, x, y, e, h, r1, r2⟩ := h; exact ⟨q, _, y, e, h, atI_nat (j := 1) rfl, r2⟩) ha
theorem fe_t0 {fa : γ → Xc (T3 α β ε)} (ha : FE X c G a fa) : FE X c G (.Subscript a (.Constant (.int 0) j p) pos) (fun g => (fa g).bind fun t => Xc.ok t.a) :=
  fe_itm (fun h => by obtain ⟨q, x, y, z, e, h, r1, r2, r3⟩ := h; exact ⟨q, _, x, e, h, atI_nat (j := 0) rfl, r1⟩) ha
theorem fe_t1 {fa : γ → Xc (T3 α β ε)} (ha : FE X c G a fa) : FE X c G (.Subscript a (.Constant (.int 1) j p) pos) (fun g => (fa g).bind fun t => Xc.ok t.b) :=
  fe_itm (fun h => by obtain ⟨q, x, y, z, e, h, r1, r2, r3⟩ := h; exact ⟨q, _, y, e, h, atI_nat (j := 1) rfl, r2⟩) ha
theorem fe_t2 {fa : γ → Xc (T3 α β ε)} (ha : FE X c G a fa) : FE X c G (.Subscript a (.Constant (.int 2) j p) pos) (fun g => (fa g).bind fun t => Xc.ok t.c) :=
  fe_itm (fun h => by obtain ⟨q, x, y, z, e, h, r1, r2, r3⟩ := h; exact ⟨q, _, z, e, h, atI_nat (j := 2) rfl, r3⟩) ha
theorem fe_q0 {fa : γ → Xc (T4 α β ε ζ)} (ha : FE X c G a fa) : FE X c G (.Subscript a (.Constant (.int 0) j p) pos) (fun g => (fa g).bind fun t => Xc.ok t.a) :=
  fe_itm (fun h => by obtain ⟨q, x, y, z, u, e, h, r1, r2, r3, r4⟩ := h; exact ⟨q, _, x, e, h, atI_nat (j := 0) rfl, r1⟩) ha
theorem fe_q1 {fa : γ → Xc (T4 α β ε ζ)} (ha : FE X c G a fa) : FE X c G (.Subscript a (.Constant (.int 1) j p) pos) (fun g => (fa g).bind fun t => Xc.ok t.b) :=
  fe_itm (fun h => by obtain ⟨q, x, y, z, u, e, h, r1, r2, r3, r4⟩ := h; exact ⟨q, _, y, e, h, atI_nat (j := 1) rfl, r2⟩) ha
theorem fe_q2 {fa : γ → Xc (T4 α β ε ζ)} (ha : FE X c G a fa) : FE X c G (.Subscript a (.Constant (.int 2) j p) pos) (fun g => (fa g).bind fun t => Xc.ok t.c) :=
  fe_itm (fun h => by obtain ⟨q, x, y, z, u, e, h, r1, r2, r3, r4⟩ := h; exact ⟨q, _, z, e, h, atI_nat (j := 2) rfl, r3⟩) ha
theorem fe_q3 {fa : γ → Xc (T4 α β ε ζ)} (ha : FE X c G a fa) : FE X c G (.Subscript a (.Constant (.int 3) j p) pos) (fun g => (fa g).bind fun t => Xc.ok t.d) :=
  fe_itm (fun h => by obtain ⟨q, x, y, z, u, e, h, r1, r2, r3, r4⟩ := h; exact ⟨q, _, u, e, h, atI_nat (j := 3) rfl, r4⟩) ha
end

/-! ### slices -/
section
variable {X : Cx} {c : C0} {γ α β δ τ : Type} {G : EnvT γ} [Rp α] [Rp β] [Rp δ] {a b e : Expr} {pos p2 : Pos} {lo hi : Option Expr}
/-- a part of a slice -/
def PoP (K : PySem.W.Frag) (F H : Hp) (Q : Option Int → Hp → Prop) (E : XK) (m : Xc (Option Int)) : Prop := match m with
  | .ok b => ∀ F' H', Wd F H F' H' → Q b H'
  | .er c fs => ErP K F H E c fs
  | .no => False
def FP (X : Cx) (c : C0) (G : EnvT γ) (e : Option Expr) (f : γ → Xc (Option Int)) : Prop := PO X e (fun σ H Q => ∃ F g, Wd c.F0 c.H0 F H ∧ G.rel X.K c.H0 F H σ g ∧ PoP X.K F H Q (WE c.W σ) (f g))
theorem fp_none : FP X c G none (fun _ => Xc.ok none) := ⟨fun pins s σ H Q I ⟨F, g, w, q, h⟩ => po_none.run pins s σ H Q I (h F H (Wd.refl w.s))⟩
theorem fp_some {f : γ → Xc Int} (h : FE X c G e f) : FP X c G (some e) (fun g => (f g).bind fun i => Xc.ok (some i)) := ⟨fun pins s σ H Q I ⟨F, g, w, q, p⟩ => (po_some h).run pins s σ H Q I (by
  refine ⟨F, g, w, q, ?_⟩
  cases e1 : f g with
  | ok i => intro v F1 H1 w1 r1; simp only [e1] at p; exact ⟨i, r1, p F1 H1 w1⟩
  | er c' fs => simp only [e1] at p; exact p
  | no => simp only [e1] at p; exact p)⟩
theorem slc {f : γ → Xc α} {fl fh : γ → Xc (Option Int)} {op : α → Option Int → Option Int → Xc β} {r : V → Option Int → Option Int → Hp → VK → Prop} (hr : SlR X r)
    (hop : ∀ {F H x i l u Q E}, Same F H → Rp.is X.K F x i → Po X.K F H Q E (op i l u) → r x l u H Q) (ha : FE X c G a f) (hl : FP X c G lo fl) (hu : FP X c G hi fh) :
    FE X c G (.Subscript a (.Slice lo hi none p2) pos) (fun g => (f g).bind fun i => (fl g).bind fun l => (fh g).bind fun u => op i l u) :=
  PE.imp (pe_slice hr ha hl hu) fun σ H Q ⟨F, g, w, q, p⟩ => by
    refine ⟨F, g, w, q, ?_⟩
    cases e1 : f g with
    | ok i =>
      intro v F1 H1 w1 r1
      simp only [e1] at p
      have p : Po X.K F H Q (WE c.W σ) ((fl g).bind fun l => (fh g).bind fun u => op i l u) := p
      refine ⟨F1, g, w.trans w1, G.mono q w1, ?_⟩
      cases e2 : fl g with
      | ok l =>
        intro F2 H2 w2
        simp only [e2] at p
        have p : Po X.K F H Q (WE c.W σ) ((fh g).bind fun u => op i l u) := p
        refine ⟨F2, g, (w.trans w1).trans w2, G.mono (G.mono q w1) w2, ?_⟩
        cases e3 : fh g with
        | ok u =>
          intro F3 H3 w3
          simp only [e3] at p
          exact hop w3.s (Rp.mono (w2.trans w3).f r1) (Po.on (show Po X.K F H Q (WE c.W σ) (op i l u) from p) ((w1.trans w2).trans w3))
        | er c' fs => simp only [e3] at p; exact ErP.on (show ErP X.K F H (WE c.W σ) c' fs from p) (w1.trans w2)
        | no => simp only [e3] at p; exact p
      | er c' fs => simp only [e2] at p; exact ErP.on (show ErP X.K F H (WE c.W σ) c' fs from p) w1
      | no => simp only [e2] at p; exact p
    | er c' fs => simp only [e1] at p; exact p
    | no => simp only [e1] at p; exact p
/-- xs[l:u] of any list -/
@[irreducible] def cutL {α : Type} (xs : List α) (lo hi : Option Int) : List α := (xs.drop (HT.sIx xs.length 0 lo)).take (HT.sIx xs.length xs.length hi - HT.sIx xs.length 0 lo)
theorem cutL_al {K : PySem.W.Frag} {F : Hp} {xs : List V} {l : List α} {lo hi : Option Int} (r : Al K F xs l) : Al K F (cutV xs lo hi) (cutL l lo hi) := by
  unfold cutV cutL
  rw [r.len]
  exact (r.drop _).take _
theorem cutL_len (l : List α) (lo hi : Option Int) : (cutL l lo hi).length ≤ l.length := by
  unfold cutL
  rw [List.length_take, List.length_drop]
  omega
theorem fe_slS {f : γ → Xc Str} {fl fh : γ → Xc (Option Int)} (ha : FE X c G a f) (hl : FP X c G lo fl) (hu : FP X c G hi fh) :
    FE X c G (.Subscript a (.Slice lo hi none p2) pos) (fun g => (f g).bind fun i => (fl g).bind fun l => (fh g).bind fun u => Xc.ok (cutS i l u)) :=
  slc sl_str (fun {F H x i l u Q E} s r p => by exact ⟨i, r.1, r.2, p.ret s ⟨rfl, Nat.le_trans (cutS_length _ _ _) r.2⟩⟩) ha hl hu
theorem fe_slL {f : γ → Xc (List α)} {fl fh : γ → Xc (Option Int)} (ha : FE X c G a f) (hl : FP X c G lo fl) (hu : FP X c G hi fh) :
    FE X c G (.Subscript a (.Slice lo hi none p2) pos) (fun g => (f g).bind fun i => (fl g).bind fun l => (fh g).bind fun u => Xc.ok (cutL i l u)) :=
  slc sl_list (fun {F H x i l u Q E} s h p => by
    obtain ⟨q, xs, e, hq, z, r⟩ := h
    exact ⟨q, xs, e, Same.seq s hq, fun k hk => p (.ref k) _ _ (Wd.new s hk) ⟨k, _, rfl, SqL.of upd_same, Nat.le_trans (cutL_len _ _ _) z, (cutL_al r).mono (same_new (s.free hk))⟩⟩) ha hl hu
theorem fe_slU {f : γ → Xc (Tu α)} {fl fh : γ → Xc (Option Int)} (ha : FE X c G a f) (hl : FP X c G lo fl) (hu : FP X c G hi fh) :
    FE X c G (.Subscript a (.Slice lo hi none p2) pos) (fun g => (f g).bind fun i => (fl g).bind fun l => (fh g).bind fun u => Xc.ok (tu (cutL (Tu.l i) l u))) :=
  slc sl_tupA (fun {F H x i l u Q E} s h p => by
    obtain ⟨q, xs, e, hq, z, r⟩ := h
    refine ⟨q, xs, e, Same.seqT s hq, fun hw => ?_, fun hw k hk => ?_⟩
    · refine p.ret s ⟨q, xs, rfl, hq, Nat.le_trans (cutL_len _ _ _) z, ?_⟩
      have e1 : cutL (Tu.l i) l u = (Tu.l i) := by
        unfold cutL
        rw [r.len] at hw
        rw [hw.1, hw.2, Nat.sub_zero, List.drop_zero, List.take_length]
      rw [e1]; exact r
    · exact p (.ref k) _ _ (Wd.new s hk) ⟨k, _, rfl, SqT.of upd_same, Nat.le_trans (cutL_len _ _ _) z, (cutL_al r).mono (same_new (s.free hk))⟩) ha hl hu
end
end FL

/-! FL4: built-in calls, texts, tuples joined, lists of one's own read. -/
namespace FL
open PySem L2
section
variable {X : Cx} {c : C0} {γ α β ρ αs : Type} {G : EnvT γ} [Rp α] [Rp β] [Rp ρ] [Rps αs] {a b e : Expr} {pos p p2 : Pos} {es : List Expr}
/-- a call of a built-in thing by its arguments -/
theorem callA {r : List V → Hp → VK → Prop} {op : αs → Xc ρ} {fs : γ → Xc αs} (h : ∀ {t : TA}, PA X es t → PE X e (tCB r t)) (hA : FA X c G es fs)
    (hop : ∀ {F H vs as Q E}, Same F H → Rps.isL X.K F vs as → Po X.K F H Q E (op as) → r vs H Q) : FE X c G e (fun g => (fs g).bind op) :=
  PE.imp (h hA) fun σ H Q ⟨F, g, w, q, p⟩ => by
    refine ⟨F, g, w, q, ?_⟩
    cases e1 : fs g with
    | ok as => intro vs F1 H1 w1 r1; simp only [e1] at p; exact hop w1.s r1 (Po.on (show Po X.K F H Q (WE c.W σ) (op as) from p) w1)
    | er c' fs => simp only [e1] at p; exact p
    | no => simp only [e1] at p; exact p
theorem callAO {r : List V → Hp → VK → Prop} {op : αs → Xc (List ρ)} {fs : γ → Xc αs} (h : ∀ {t : TA}, PA X es t → PE X e (tCB r t)) (hA : FA X c G es fs)
    (hop : ∀ {F H vs as Q E}, Same F H → Rps.isL X.K F vs as → PoO X.K F H Q E (op as) → r vs H Q) : FO X c G e (fun g => (fs g).bind op) :=
  PE.imp (h hA) fun σ H Q ⟨F, g, w, q, p⟩ => by
    refine ⟨F, g, w, q, ?_⟩
    cases e1 : fs g with
    | ok as => intro vs F1 H1 w1 r1; simp only [e1] at p; exact hop w1.s r1 (PoO.on (show PoO X.K F H Q (WE c.W σ) (op as) from p) w1)
    | er c' fs => simp only [e1] at p; exact p
    | no => simp only [e1] at p; exact p
/-- one argument -/
theorem call1 {r : List V → Hp → VK → Prop} {op : α → Xc ρ} {fa : γ → Xc α} (h : ∀ {t : TA}, PA X [a] t → PE X e (tCB r t)) (ha : FE X c G a fa) (hs : starEach [a] X.env = (false, eval a X.env) :: starEach [] X.env := by rfl)
    (hop : ∀ {F H v i Q E}, Same F H → Rp.is X.K F v i → Po X.K F H Q E (op i) → r [v] H Q) : FE X c G e (fun g => (fa g).bind op) :=
  FE.cast (callA (op := fun (as : α × Unit) => op as.1) h (fa_cons ha fa_nil hs) fun {F H vs as Q E} s r p => by
    obtain ⟨v, r', e1, r1, e2⟩ := r
    subst e2 e1
    exact hop s r1 p) fun g => by cases fa g <;> rfl
theorem call1O {r : List V → Hp → VK → Prop} {op : α → Xc (List ρ)} {fa : γ → Xc α} (h : ∀ {t : TA}, PA X [a] t → PE X e (tCB r t)) (ha : FE X c G a fa) (hs : starEach [a] X.env = (false, eval a X.env) :: starEach [] X.env := by rfl)
    (hop : ∀ {F H v i Q E}, Same F H → Rp.is X.K F v i → PoO X.K F H Q E (op i) → r [v] H Q) : FO X c G e (fun g => (fa g).bind op) :=
  FO.cast (callAO (op := fun (as : α × Unit) => op as.1) h (fa_cons ha fa_nil hs) fun {F H vs as Q E} s r p => by
    obtain ⟨v, r', e1, r1, e2⟩ := r
    subst e2 e1
    exact hop s r1 p) fun g => by cases fa g <;> rfl
theorem call2 {r : List V → Hp → VK → Prop} {op : α → β → Xc ρ} {fa : γ → Xc α} {fb : γ → Xc β} (h : ∀ {t : TA}, PA X [a, b] t → PE X e (tCB r t)) (ha : FE X c G a fa) (hb : FE X c G b fb)
    (hs : starEach [a, b] X.env = (false, eval a X.env) :: starEach [b] X.env := by rfl) (hs2 : starEach [b] X.env = (false, eval b X.env) :: starEach [] X.env := by rfl)
    (hop : ∀ {F H v u i j Q E}, Same F H → Rp.is X.K F v i → Rp.is X.K F u j → Po X.K F H Q E (op i j) → r [v, u] H Q) : FE X c G e (fun g => (fa g).bind fun i => (fb g).bind fun j => op i j) :=
  FE.cast (callA (op := fun (as : α × β × Unit) => op as.1 as.2.1) h (fa_cons ha (fa_cons hb fa_nil hs2) hs) fun {F H vs as Q E} s r p => by
    obtain ⟨v, r', e1, r1, u, r'', e2, r2, e3⟩ := r
    subst e3 e2 e1
    exact hop s r1 r2 p) fun g => by cases fa g <;> first | rfl | (cases fb g <;> rfl)

/-! ### len -/
class HasLen (α : Type) [Rp α] where
  len : α → Nat
  is : ∀ {K F H v} {a : α}, Same F H → Rp.is K F v a → LenV K v H (len a)
instance : HasLen Str := ⟨Str.length, fun {K F H v a} s h => by obtain ⟨h1, h2⟩ := h; subst h1; exact ⟨h2, rfl⟩⟩
instance {α : Type} [Rp α] : HasLen (List α) := ⟨List.length, fun {K F H v a} s h => by obtain ⟨q, xs, e, hq, z, r⟩ := h; subst e; exact .inl ⟨xs, Same.seq s hq, r.len.symm⟩⟩
instance {α : Type} [Rp α] : HasLen (Tu α) := ⟨fun t => t.l.length, fun {K F H v a} s h => by obtain ⟨q, xs, e, hq, z, r⟩ := h; subst e; exact .inr ⟨xs, Same.seqT s hq, r.len.symm⟩⟩
theorem fe_len [HasLen α] {fa : γ → Xc α} (ha : FE X c G a fa) (hm : X.mg "len" = none) (hg : Gl X "len" := by rfl) (hs : starEach [a] X.env = (false, eval a X.env) :: starEach [] X.env := by rfl) :
    FE X c G (.Call (.Name "len" p) [a] [] pos) (fun g => (fa g).bind fun i => Xc.ok ((HasLen.len i : Nat) : Int)) :=
  call1 (r := fun xs H Q => ∃ x n, xs = [x] ∧ LenV X.K x H n ∧ Q (.int n) H) (fun h => pe_callB call_len hg hm PySem.boot_len h (he := hs)) ha hs fun {F H v i Q E} s r p => by
    exact ⟨v, _, rfl, HasLen.is s r, p.ret s rfl⟩

/-! ### numbers -/
@[irreducible] def absI (i : Int) : Int := if i < 0 then -i else i
theorem fe_abs {fa : γ → Xc Int} (ha : FE X c G a fa) (hm : X.mg "abs" = none) (hg : Gl X "abs" := by rfl) (hs : starEach [a] X.env = (false, eval a X.env) :: starEach [] X.env := by rfl) :
    FE X c G (.Call (.Name "abs" p) [a] [] pos) (fun g => (fa g).bind fun i => Xc.ok (absI i)) :=
  call1 (fun h => pe_callB call_abs hg hm (by decide +kernel) h (he := hs)) ha hs fun {F H v i Q E} s r p => by
    have r : v = .int i := r
    subst r
    exact ⟨i, rfl, p.ret s (by first | rfl | (unfold absI; rfl) | (unfold gcdI; rfl))⟩
theorem fe_intI {fa : γ → Xc Int} (ha : FE X c G a fa) (hm : X.mg "int" = none) (hg : Gl X "int" := by rfl) (hs : starEach [a] X.env = (false, eval a X.env) :: starEach [] X.env := by rfl) :
    FE X c G (.Call (.Name "int" p) [a] [] pos) (fun g => (fa g).bind fun i => Xc.ok i) :=
  call1 (fun h => pe_callTy call_int1 hg hm PyProof.Rows.boot_int h (he := hs)) ha hs fun {F H v i Q E} s r p => by
    have r : v = .int i := r
    subst r
    exact .inl ⟨i, rfl, p.ret s rfl⟩
def b2i (b : Bool) : Int := if b = true then 1 else 0
theorem fe_intB {fa : γ → Xc Bool} (ha : FE X c G a fa) (hm : X.mg "int" = none) (hg : Gl X "int" := by rfl) (hs : starEach [a] X.env = (false, eval a X.env) :: starEach [] X.env := by rfl) :
    FE X c G (.Call (.Name "int" p) [a] [] pos) (fun g => (fa g).bind fun i => Xc.ok (b2i i)) :=
  call1 (fun h => pe_callTy call_int1 hg hm PyProof.Rows.boot_int h (he := hs)) ha hs fun {F H v i Q E} s r p => by
    have r : v = .bl i := r
    subst r
    exact .inr ⟨i, rfl, p.ret s rfl⟩
@[irreducible] def intX (z : Str) : Xc Int := if z.length ≤ 640 then (match PySem.intText? z with
  | some n => .ok n
  | none => .no) else .no
theorem fe_intS {fa : γ → Xc Str} (ha : FE X c G a fa) (hm : X.mg "int" = none) (hg : Gl X "int" := by rfl) (hs : starEach [a] X.env = (false, eval a X.env) :: starEach [] X.env := by rfl) :
    FE X c G (.Call (.Name "int" p) [a] [] pos) (fun g => (fa g).bind intX) :=
  call1 (fun h => pe_callTy call_int_str hg hm PyProof.Rows.boot_int h (he := hs)) ha hs fun {F H v i Q E} s r p => by
    have r : v = .str i := r.1
    subst r
    unfold intX at p
    by_cases hz : i.length ≤ 640
    · rw [if_pos hz] at p
      cases e1 : PySem.intText? i with
      | none => rw [e1] at p; exact p.elim
      | some n => rw [e1] at p; exact ⟨i, n, rfl, e1, hz, p.ret s rfl⟩
    · rw [if_neg hz] at p; exact p.elim
@[irreducible] def gcdI (i j : Int) : Int := ((Nat.gcd i.natAbs j.natAbs : Nat) : Int)
theorem fe_gcd {fa fb : γ → Xc Int} (ha : FE X c G a fa) (hb : FE X c G b fb) (hm : X.mg "gcd" = some (.builtin "math.gcd")) (hg : Gl X "gcd" := by rfl) (hs : starEach [a, b] X.env = (false, eval a X.env) :: starEach [b] X.env := by rfl)
    (hs2 : starEach [b] X.env = (false, eval b X.env) :: starEach [] X.env := by rfl) (hpl : (backTo pos (starEach [b] X.env)).any (·.1) = false := by rfl) :
    FE X c G (.Call (.Name "gcd" p) [a, b] [] pos) (fun g => (fa g).bind fun i => (fb g).bind fun j => Xc.ok (gcdI i j)) :=
  call2 (fun h => pe_callBfun cr_gcd hg hm h (he := hs) (hpl := hpl)) ha hb hs hs2 fun {F H v u i j Q E} s r1 r2 p => by
    have r1 : v = .int i := r1
    have r2 : u = .int j := r2
    subst r1 r2
    exact ⟨i, j, rfl, p.ret s (by first | rfl | (unfold absI; rfl) | (unfold gcdI; rfl))⟩
theorem fe_bits {fa : γ → Xc Int} (ha : FE X c G a fa) {apos : Pos} (hbase : attributeBase a "bit_length" X.env (eval a X.env) = eval a X.env := by rfl) (hline : (apos.endLine == pos.line) = true := by rfl) :
    FE X c G (.Call (.Attribute a "bit_length" apos) [] [] pos) (fun g => (fa g).bind fun i => Xc.ok ((Builtin.Int.intBits i : Nat) : Int)) :=
  one (r := fun x H1 Q => ∃ i, x = .int i ∧ Q (.int (Builtin.Int.intBits i : Nat)) H1) (fun h => pe_bits h hbase hline) ha fun {F H x i Q E} s r p => by exact ⟨i, r, p.ret s rfl⟩

/-! ### texts -/
@[irreducible] def strX (i : Int) : Xc Str := if i.natAbs.log2 < 1920 then .ok (Str.ofString (toString i)) else .no
theorem fe_strI {fa : γ → Xc Int} (ha : FE X c G a fa) (hm : X.mg "str" = none) (hg : Gl X "str" := by rfl) (hs : starEach [a] X.env = (false, eval a X.env) :: starEach [] X.env := by rfl) :
    FE X c G (.Call (.Name "str" p) [a] [] pos) (fun g => (fa g).bind strX) :=
  call1 (fun h => pe_callTy call_str_int hg hm PyProof.Rows.boot_str h (he := hs)) ha hs fun {F H v i Q E} s r p => by
    have r : v = .int i := r
    subst r
    unfold strX at p
    by_cases hz : i.natAbs.log2 < 1920
    · rw [if_pos hz] at p; exact ⟨i, rfl, hz, p.ret s ⟨rfl, int_text_fits hz⟩⟩
    · rw [if_neg hz] at p; exact p.elim
@[irreducible] def catS (x y : Str) : Xc Str := if x.length + y.length ≤ sizeLine then .ok (x ++ y) else .no
theorem app_len (x y : Str) : (x ++ y).length = x.length + y.length := by
  show (x.cps ++ y.cps).size = x.cps.size + y.cps.size
  rw [Array.size_append]
theorem fe_catS {fa fb : γ → Xc Str} (ha : FE X c G a fa) (hb : FE X c G b fb) : FE X c G (.BinOp a .Add b pos) (fun g => (fa g).bind fun i => (fb g).bind fun j => catS i j) :=
  two (fun h1 h2 => pe_op op_add_str h1 h2) ha hb fun {F H x y i j Q E} s r1 r2 p => by
    unfold catS at p
    by_cases h : i.length + j.length ≤ sizeLine
    · rw [if_pos h] at p; exact ⟨_, _, r1.1, r2.1, h, p.ret s ⟨rfl, by rw [app_len]; exact h⟩⟩
    · rw [if_neg h] at p; exact p.elim
/-- one sign within a text -/
@[irreducible] def inSg (x : Str) (z : Str) : Xc Bool := match x.cps.toList with
  | [k] => .ok (decide (k ∈ z.cps.toList))
  | _ => .no
theorem sg_of {x : Str} {k : Nat} (h : x.cps.toList = [k]) : x = ⟨#[k]⟩ := by
  obtain ⟨⟨l⟩⟩ := x
  simp only at h
  subst h
  rfl
theorem fe_inSg {fa fb : γ → Xc Str} (ha : FE X c G a fa) (hb : FE X c G b fb) (hm : behindInMarks .In b = false := by rfl) : FE X c G (.Compare a [.In] [b] pos) (fun g => (fa g).bind fun i => (fb g).bind fun j => inSg i j) :=
  two (fun h1 h2 => pe_cmpR op_in_sign h1 h2 hm) ha hb fun {F H x y i j Q E} s r1 r2 p => by
    unfold inSg at p
    split at p
    · rename_i k hk
      exact ⟨k, j, by rw [r1.1, sg_of hk], r2.1, p.ret s rfl⟩
    · exact p.elim
theorem fe_ninSg {fa fb : γ → Xc Str} (ha : FE X c G a fa) (hb : FE X c G b fb) (hm : behindInMarks .NotIn b = false := by rfl) : FE X c G (.Compare a [.NotIn] [b] pos) (fun g => (fa g).bind fun i => (fb g).bind fun j => (inSg i j).bind fun t => Xc.ok (!t)) :=
  two (fun h1 h2 => pe_cmpR op_notIn_sign h1 h2 hm) ha hb fun {F H x y i j Q E} s r1 r2 p => by
    unfold inSg at p
    split at p
    · rename_i k hk
      exact ⟨k, j, by rw [r1.1, sg_of hk], r2.1, Po.ret (by exact p) s rfl⟩
    · exact p.elim
theorem ft_inSg {fa fb : γ → Xc Str} (ha : FE X c G a fa) (hb : FE X c G b fb) (hm : behindInMarks .In b = false := by rfl) : FT X c G (.Compare a [.In] [b] pos) (fun g => (fa g).bind fun i => (fb g).bind fun j => inSg i j) :=
  twoT (fun h1 h2 => pt_cmpR op_in_sign h1 h2 hm) ha hb fun {F H x y i j Q E} s r1 r2 p => by
    unfold inSg at p
    split at p
    · rename_i k hk
      exact ⟨k, j, by rw [r1.1, sg_of hk], r2.1, _, rfl, p.ret s⟩
    · exact p.elim
theorem ft_ninSg {fa fb : γ → Xc Str} (ha : FE X c G a fa) (hb : FE X c G b fb) (hm : behindInMarks .NotIn b = false := by rfl) : FT X c G (.Compare a [.NotIn] [b] pos) (fun g => (fa g).bind fun i => (fb g).bind fun j => (inSg i j).bind fun t => Xc.ok (!t)) :=
  twoT (fun h1 h2 => pt_cmpR op_notIn_sign h1 h2 hm) ha hb fun {F H x y i j Q E} s r1 r2 p => by
    unfold inSg at p
    split at p
    · rename_i k hk
      exact ⟨k, j, by rw [r1.1, sg_of hk], r2.1, _, rfl, PoB.ret (by exact p) s⟩
    · exact p.elim
/-- a method of a text with one argument -/
theorem strM1 {apos : Pos} {name : Str} {id : String} {r : V → List V → Hp → VK → Prop} {op : Str → α → Xc ρ} {fa : γ → Xc Str} {fb : γ → Xc α} (h : ∀ {to te : TE}, PE X a to → PE X b te → PE X (.Call (.Attribute a name apos) [b] [] pos) (tM1 r to te))
    (ha : FE X c G a fa) (hb : FE X c G b fb) (hop : ∀ {F H x y i j Q E}, Same F H → i.length ≤ sizeLine → x = .str i → Rp.is X.K F y j → Po X.K F H Q E (op i j) → r x [y] H Q) :
    FE X c G (.Call (.Attribute a name apos) [b] [] pos) (fun g => (fa g).bind fun i => (fb g).bind fun j => op i j) :=
  PE.imp (h ha hb) fun σ H Q ⟨F, g, w, q, p⟩ => by
    refine ⟨F, g, w, q, ?_⟩
    cases e1 : fa g with
    | ok i =>
      intro v F1 H1 w1 r1
      simp only [e1] at p
      have p : Po X.K F H Q (WE c.W σ) ((fb g).bind fun j => op i j) := p
      refine ⟨⟨i, r1.1⟩, F1, g, w.trans w1, G.mono q w1, ?_⟩
      cases e2 : fb g with
      | ok j =>
        intro u F2 H2 w2 r2
        simp only [e2] at p
        exact hop w2.s r1.2 r1.1 r2 (Po.on (show Po X.K F H Q (WE c.W σ) (op i j) from p) (w1.trans w2))
      | er c' fs => simp only [e2] at p; exact ErP.on (show ErP X.K F H (WE c.W σ) c' fs from p) w1
      | no => simp only [e2] at p; exact p
    | er c' fs => simp only [e1] at p; exact p
    | no => simp only [e1] at p; exact p
theorem fe_startswith {apos : Pos} {fa fb : γ → Xc Str} (ha : FE X c G a fa) (hb : FE X c G b fb) (hs : starEach [b] X.env = [(false, eval b X.env)] := by rfl) (hbase : attributeBase a "startswith" X.env (eval a X.env) = eval a X.env := by rfl)
    (hline : (apos.endLine == pos.line) = true := by rfl) : FE X c G (.Call (.Attribute a "startswith" apos) [b] [] pos) (fun g => (fa g).bind fun i => (fb g).bind fun j => Xc.ok (Txt.startswith i j)) :=
  strM1 (id := "str.startswith") (fun h1 h2 => pe_m1 F.slot_str_startswith F.type_str_startswith mt_startswith h1 h2 hs hbase hline) ha hb fun {F H x y i j Q E} s hi hx hy p => by exact ⟨i, j, hx, by rw [hy.1], p.ret s rfl⟩
theorem fe_find {apos : Pos} {fa fb : γ → Xc Str} (ha : FE X c G a fa) (hb : FE X c G b fb) (hs : starEach [b] X.env = [(false, eval b X.env)] := by rfl) (hbase : attributeBase a "find" X.env (eval a X.env) = eval a X.env := by rfl)
    (hline : (apos.endLine == pos.line) = true := by rfl) : FE X c G (.Call (.Attribute a "find" apos) [b] [] pos) (fun g => (fa g).bind fun i => (fb g).bind fun j => Xc.ok (Txt.find i j)) :=
  strM1 (id := "str.find") (fun h1 h2 => pe_m1 F.slot_str_find F.type_str_find mt_find h1 h2 hs hbase hline) ha hb fun {F H x y i j Q E} s hi hx hy p => by exact ⟨i, j, hx, by rw [hy.1], p.ret s rfl⟩
/-- text.partition(sep): three texts -/
@[irreducible] def partX (x y : Str) : Xc (T3 Str Str Str) := if (y.length == 0) = false ∧ (Txt.partition x y).1.length ≤ sizeLine ∧ (Txt.partition x y).2.1.length ≤ sizeLine ∧ (Txt.partition x y).2.2.length ≤ sizeLine then .ok (show T3 Str Str Str from Txt.partition x y) else .no
theorem fe_partition {apos : Pos} {fa fb : γ → Xc Str} (ha : FE X c G a fa) (hb : FE X c G b fb) (hs : starEach [b] X.env = [(false, eval b X.env)] := by rfl) (hbase : attributeBase a "partition" X.env (eval a X.env) = eval a X.env := by rfl)
    (hline : (apos.endLine == pos.line) = true := by rfl) : FE X c G (.Call (.Attribute a "partition" apos) [b] [] pos) (fun g => (fa g).bind fun i => (fb g).bind fun j => partX i j) :=
  strM1 (id := "str.partition") (fun h1 h2 => pe_partition h1 h2 hs hbase hline) ha hb fun {F H x y i j Q E} s hi hx hy p => by
    unfold partX at p
    by_cases h : (j.length == 0) = false ∧ (Txt.partition i j).1.length ≤ sizeLine ∧ (Txt.partition i j).2.1.length ≤ sizeLine ∧ (Txt.partition i j).2.2.length ≤ sizeLine
    · rw [if_pos h] at p
      exact ⟨i, j, hx, by rw [hy.1], h.1, hi, fun k hk => p (.ref k) _ _ (Wd.new s hk) ⟨k, _, _, _, rfl, SqT.of upd_same, ⟨rfl, h.2.1⟩, ⟨rfl, h.2.2.1⟩, ⟨rfl, h.2.2.2⟩⟩⟩
    · rw [if_neg h] at p; exact p.elim
end

/-! ### isinstance, by a built-in class -/
class HasTy (α : Type) [Rp α] where
  ty : α → String
  is : ∀ {K F H v} {a : α}, Same F H → Rp.is K F v a → TyX K H v (.type (ty a))
theorem tyx_seqL {K : PySem.W.Frag} {H : Hp} {q : Addr} {xs : List V} (h : SqL K H q xs) : TyX K H (.ref q) (.type "list") := by
  rcases h with (h | ⟨o, h⟩) | ⟨o, its, n, h, c, _⟩
  · exact .base (.lst h)
  · exact .base (.frz h)
  · exact .kList h c
theorem tyx_seqT {K : PySem.W.Frag} {H : Hp} {q : Addr} {xs : List V} (h : SqT K H q xs) : TyX K H (.ref q) (.type "tuple") := by
  rcases h with (h | ⟨o, h⟩) | ⟨o, its, n, h, c, _⟩
  · exact .base (.tup h)
  · exact .fTuple h
  · exact .kTuple h c
instance : HasTy Int := ⟨fun _ => "int", fun s h => by have h : _ = V.int _ := h; subst h; exact .base (.int _)⟩
instance : HasTy Bool := ⟨fun _ => "bool", fun s h => by have h : _ = V.bl _ := h; subst h; exact .base (.bl _)⟩
instance : HasTy Str := ⟨fun _ => "str", fun s h => by have h : _ = V.str _ := h.1; subst h; exact .base (.str _)⟩
instance {α : Type} [Rp α] : HasTy (List α) := ⟨fun _ => "list", fun s h => by obtain ⟨q, xs, e, hq, z, r⟩ := h; subst e; exact tyx_seqL (Same.seq s hq)⟩
instance {α : Type} [Rp α] : HasTy (Tu α) := ⟨fun _ => "tuple", fun s h => by obtain ⟨q, xs, e, hq, z, r⟩ := h; subst e; exact tyx_seqT (Same.seqT s hq)⟩
instance {α β : Type} [Rp α] [Rp β] : HasTy (α × β) := ⟨fun _ => "tuple", fun s h => by obtain ⟨q, x, y, e, hq, _⟩ := h; subst e; exact tyx_seqT (Same.seqT s hq)⟩
instance {α β γ : Type} [Rp α] [Rp β] [Rp γ] : HasTy (T3 α β γ) := ⟨fun _ => "tuple", fun s h => by obtain ⟨q, x, y, z, e, hq, _⟩ := h; subst e; exact tyx_seqT (Same.seqT s hq)⟩
def tyD : PyData → String
  | .none => "NoneType"
  | .bool _ => "bool"
  | .int _ => "int"
  | .str _ => "str"
  | .list _ => "list"
  | .tuple _ => "tuple"
  | _ => "?"
instance : HasTy PyData := ⟨tyD, fun {K F H v a} s h => by
  obtain ⟨h, _⟩ := h
  cases h with
  | non => exact .base .non
  | bl b => exact .base (.bl b)
  | int i => exact .base (.int i)
  | str x => exact .base (.str x)
  | lst h _ => exact tyx_seqL (Same.seq s h)
  | tup h _ => exact tyx_seqT (Same.seqT s h)⟩
@[irreducible] def isiX (t T : String) : Xc Bool := match kitB t T with
  | some b => .ok b
  | none => .no
theorem fe_isi {X : Cx} {c : C0} {γ α : Type} {G : EnvT γ} [Rp α] {a : Expr} {pos p p2 : Pos} [HasTy α] {fa : γ → Xc α} {T : Str} {U : String} (ha : FE X c G a fa) (hm : X.mg "isinstance" = none) (hmT : X.mg T = none) (hvT : bootBuiltins T = some (.type U) := by decide +kernel)
    (hg : Gl X "isinstance" := by rfl) (hgT : Gl X T := by rfl) (hn : T ≠ "__name__" := by decide) (hd : (T == ("__debug__" : Str)) = false := by decide)
    (hs : starEach [a, .Name T p2] X.env = (false, eval a X.env) :: starEach [.Name T p2] X.env := by rfl) (hs2 : starEach [.Name T p2] X.env = (false, eval (.Name T p2) X.env) :: starEach [] X.env := by rfl)
    (hpl : (backTo pos (starEach [.Name T p2] X.env)).any (·.1) = false := by rfl) : FE X c G (.Call (.Name "isinstance" p) [a, .Name T p2] [] pos) (fun g => (fa g).bind fun i => isiX (HasTy.ty i) U) :=
  PE.imp (pe_callB call_isi hg hm PyProof.Rows.boot_isinstance (pa_cons ha (pa_cons (pe_bltn (v := .ty U) hgT hmT hvT rfl hn hd) pa_nil hs2) hs) (he := hs) (hpl := hpl)) fun σ H Q ⟨F, g, w, q, h⟩ => by
    refine ⟨F, g, w, q, ?_⟩
    cases e1 : fa g with
    | ok i =>
      intro v F1 H1 w1 r1
      simp only [e1] at h
      have h : Po X.K F H Q (WE c.W σ) (isiX (HasTy.ty i) U) := h
      unfold isiX at h
      cases e2 : kitB (HasTy.ty i) U with
      | none => rw [e2] at h; exact h.elim
      | some b =>
        rw [e2] at h
        exact ⟨v, .ty U, .type (HasTy.ty i), .type U, b, rfl, .ty U, HasTy.is w1.s r1, kit_ty e2, (Po.on h w1).ret w1.s rfl⟩
    | er c' fs => simp only [e1] at h; exact h
    | no => simp only [e1] at h; exact h
end FL

/-! FL5: statements: stores, ifs, returns, loops. -/
namespace FL
open PySem L2
/-- behind a statement: the frozen heap has grown, the world is the entry's -/
structure Ws (c : C0) (F F' H' : Hp) : Prop where
  f : Same F F'
  w : Wd c.F0 c.H0 F' H'
theorem Ws.trans {c : C0} {F F1 H1 F2 H2 : Hp} (a : Ws c F F1 H1) (b : Ws c F1 F2 H2) : Ws c F F2 H2 := ⟨a.f.trans b.f, b.w⟩
theorem Ws.of {c : C0} {F H F1 H1 : Hp} (w : Wd c.F0 c.H0 F H) (a : Wd F H F1 H1) : Ws c F F1 H1 := ⟨a.f, w.trans a⟩
theorem Ws.refl {c : C0} {F H : Hp} (w : Wd c.F0 c.H0 F H) : Ws c F F H := ⟨Same.refl _, w⟩
/-- the slots that a statement may store into -/
structure Ag (M : Nat → Bool) (σ σ' : St) : Prop where
  at_ : ∀ i : Nat, M i = false → σ'[i]? = σ[i]?
  len : σ'.length = σ.length
theorem Ag.refl {M : Nat → Bool} {σ : St} : Ag M σ σ := ⟨fun _ _ => rfl, rfl⟩
theorem Ag.trans {M : Nat → Bool} {σ σ1 σ2 : St} (a : Ag M σ σ1) (b : Ag M σ1 σ2) : Ag M σ σ2 := ⟨fun i h => (b.at_ i h).trans (a.at_ i h), b.len.trans a.len⟩
theorem Ag.set {M : Nat → Bool} {σ : St} {i : Nat} {v : Option V} (h : M i = true) : Ag M σ (σ.set i v) := ⟨fun j hj => by
  by_cases e : i = j
  · subst e; rw [h] at hj; cases hj
  · rw [List.getElem?_set_ne e], List.length_set⟩
theorem Ag.imp {M M' : Nat → Bool} {σ σ' : St} (a : Ag M σ σ') (h : ∀ i, M i = true → M' i = true) : Ag M' σ σ' := ⟨fun i hi => a.at_ i (by
  cases e : M i with
  | false => rfl
  | true => rw [h i e] at hi; cases hi), a.len⟩
/-- .. with what statements lean on -/
structure C1 extends C0 where
  M : Nat → Bool
section
variable {γ γ' γ1 γ2 : Type}
/-- the outcome of a statement that only goes on -/
def PoN (K : PySem.W.Frag) (c : C1) (G' : EnvT γ') (D : Ends) (F H : Hp) (σ : St) (m : Xc γ') : Prop := match m with
  | .ok g' => ∀ σ' F' H', Ws c.toC0 F F' H' → Ag c.M σ σ' → G'.rel K c.H0 F' H' σ' g' → D.nx σ' H'
  | .er cc fs => ∀ σ' F' H', Ws c.toC0 F F' H' → Ag c.M σ σ' → ErP K F' H' (WE c.W σ') cc fs
  | .no => False
def tN (K : PySem.W.Frag) (c : C1) (G : EnvT γ) (G' : EnvT γ') (m : γ → Xc γ') : TS := fun D σ H => ∃ F g, Wd c.F0 c.H0 F H ∧ G.rel K c.H0 F H σ g ∧ PoN K c G' D F H σ (m g)
/-- a statement (a block) that goes on: what the slots hold behind it -/
def FN (X : Cx) (c : C1) (G : EnvT γ) (st : Stmt) (G' : EnvT γ') (m : γ → Xc γ') : Prop := PS X st (tN X.K c G G' m)
def FNs (X : Cx) (c : C1) (G : EnvT γ) (sts : List Stmt) (G' : EnvT γ') (m : γ → Xc γ') : Prop := PSs X sts (tN X.K c G G' m)
theorem PS.imp {X : Cx} {st : Stmt} {t t' : TS} (h : PS X st t) (i : ∀ D σ H, t' D σ H → t D σ H) : PS X st t' := ⟨fun pins s σ H D I q => h.run pins s σ H D I (i D σ H q)⟩
theorem PSs.imp {X : Cx} {st : List Stmt} {t t' : TS} (h : PSs X st t) (i : ∀ D σ H, t' D σ H → t D σ H) : PSs X st t' := ⟨fun pins s σ H D I q => h.run pins s σ H D I (i D σ H q)⟩
theorem PoN.on {K : PySem.W.Frag} {c : C1} {G' : EnvT γ'} {D : Ends} {F H F1 H1 : Hp} {σ σ1 : St} {m : Xc γ'} (h : PoN K c G' D F H σ m) (s : Same F F1) (a : Ag c.M σ σ1) : PoN K c G' D F1 H1 σ1 m := by
  cases m with
  | ok g => exact fun σ' F' H' w b r => h σ' F' H' ⟨s.trans w.f, w.w⟩ (a.trans b) r
  | er cc fs => exact fun σ' F' H' w b => h σ' F' H' ⟨s.trans w.f, w.w⟩ (a.trans b)
  | no => exact h
/-- an exception of an expression within -/
theorem PoN.er {K : PySem.W.Frag} {c : C1} {G' : EnvT γ'} {D : Ends} {F H : Hp} {σ : St} {cc : Str} {fs : List (Str × V)} (h : PoN K c G' D F H σ (.er cc fs)) (w : Wd c.F0 c.H0 F H) : ErP K F H (WE c.W σ) cc fs :=
  h σ F H (Ws.refl w) Ag.refl
end
section
variable {X : Cx} {c : C1} {γ γ' γ1 γ2 α β ρ αs : Type} {G : EnvT γ} {G' : EnvT γ'} {G1 : EnvT γ1} {G2 : EnvT γ2} [Rp α] [Rp β] [Rp ρ] [Rps αs] {a b e : Expr} {st : Stmt} {sts : List Stmt} {pos p p2 : Pos}
theorem FN.cast {m m' : γ → Xc γ'} (h : FN X c G st G' m) (i : ∀ g, m' g = m g) : FN X c G st G' m' := by rw [show m' = m from funext i]; exact h
theorem FNs.cast {m m' : γ → Xc γ'} (h : FNs X c G sts G' m) (i : ∀ g, m' g = m g) : FNs X c G sts G' m' := by rw [show m' = m from funext i]; exact h
theorem fns_nil : FNs X c G [] G (fun g => Xc.ok g) := PSs.imp pss_nil fun D σ H ⟨F, g, w, q, h⟩ => h σ F H (Ws.refl w) Ag.refl q
theorem fns_one {m : γ → Xc γ'} (h : FN X c G st G' m) : FNs X c G [st] G' m := pss_one h
theorem fns_cons {m1 : γ → Xc γ1} {m2 : γ1 → Xc γ2} (h1 : FN X c G st G1 m1) (h2 : FNs X c G1 sts G2 m2) : FNs X c G (st :: sts) G2 (fun g => (m1 g).bind m2) :=
  PSs.imp (pss_cons h1 h2) fun D σ H ⟨F, g, w, q, h⟩ => by
    refine ⟨F, g, w, q, ?_⟩
    cases e1 : m1 g with
    | ok g1 =>
      intro σ1 F1 H1 w1 a1 q1
      simp only [e1] at h
      exact ⟨F1, g1, w1.w, q1, PoN.on (show PoN X.K c G2 D F H σ (m2 g1) from h) w1.f a1⟩
    | er c' fs => simp only [e1] at h; exact h
    | no => simp only [e1] at h; exact h
/-- x = e -/
theorem fn_set (i : Nat) {x : Str} {p' : Pos} {ψ : γ → α → γ'} [P : Put G i α G' ψ] {fa : γ → Xc α} (hM : c.M i = true) (ha : FE X c.toC0 G e fa) (hN : X.N.Nodup) (hi : X.N[i]? = some x := by rfl) (hx : Loc X.env.scope x := by first | exact Or.inl rfl | exact Or.inr rfl)
    (hs : swapsWith e (some (.Name x p')) pos.line X.env = pure false := by rfl) (hf : X.fn x = true ∨ X.env.scope.names.lookup x = some .local := by first | exact .inl rfl | exact .inr rfl) :
    FN X c G (.Assign [.Name x p'] e pos) G' (fun g => (fa g).bind fun v => Xc.ok (ψ g v)) :=
  PS.imp (ps_set hN hi hx ha hs hf) fun D σ H ⟨F, g, w, q, h⟩ => by
    refine ⟨F, g, w, q, ?_⟩
    cases e1 : fa g with
    | ok v =>
      intro u F1 H1 w1 r1
      simp only [e1] at h
      exact h (σ.set i (some u)) F1 H1 (Ws.of w w1) (Ag.set hM) (P.put (G.mono q w1) r1)
    | er c' fs => simp only [e1] at h; exact PoN.er h w
    | no => simp only [e1] at h; exact h
theorem fn_expr {fa : γ → Xc α} (ha : FE X c.toC0 G e fa) (hs : swapsWith e none pos.line X.env = pure false := by rfl) : FN X c G (.Expr e pos) G (fun g => (fa g).bind fun _ => Xc.ok g) :=
  PS.imp (ps_expr ha hs) fun D σ H ⟨F, g, w, q, h⟩ => by
    refine ⟨F, g, w, q, ?_⟩
    cases e1 : fa g with
    | ok v => intro u F1 H1 w1 r1; simp only [e1] at h; exact h σ F1 H1 (Ws.of w w1) Ag.refl (G.mono q w1)
    | er c' fs => simp only [e1] at h; exact PoN.er h w
    | no => simp only [e1] at h; exact h
theorem fn_pass : FN X c G (.Pass pos) G (fun g => Xc.ok g) := PS.imp ps_pass fun D σ H ⟨F, g, w, q, h⟩ => h σ F H (Ws.refl w) Ag.refl q
theorem fn_if {ft : γ → Xc Bool} {mA mB : γ → Xc γ'} {tA tB : List Stmt} (ht : FT X c.toC0 G e ft) (hA : FNs X c G tA G' mA) (hB : FNs X c G tB G' mB) : FN X c G (.If e tA tB pos) G' (fun g => (ft g).bind fun b => if b = true then mA g else mB g) :=
  PS.imp (ps_if ht hA hB) fun D σ H ⟨F, g, w, q, h⟩ => by
    refine ⟨F, g, w, q, ?_⟩
    cases e1 : ft g with
    | ok b =>
      intro F1 H1 w1
      simp only [e1] at h
      cases b with
      | true => exact iteT ⟨F1, g, w.trans w1, G.mono q w1, PoN.on h w1.f Ag.refl⟩
      | false => exact iteF ⟨F1, g, w.trans w1, G.mono q w1, PoN.on h w1.f Ag.refl⟩
    | er c' fs => simp only [e1] at h; exact PoN.er h w
    | no => simp only [e1] at h; exact h
end

/-! ### weakening of the slots -/
class Sub {γ γ' : Type} (G : EnvT γ) (G' : EnvT γ') (h : outParam (γ → γ')) : Prop where
  sub : ∀ {K H0 F H σ g}, G.rel K H0 F H σ g → G'.rel K H0 F H σ (h g)
  own : ∀ {K H0 F H σ g p}, G.rel K H0 F H σ g → p ∈ G'.own σ → p ∈ G.own σ
instance subNl : Sub nl nl (fun g => g) := ⟨fun h => h, fun _ h => h⟩
section
variable {α β γ γ' : Type} [Rp α] [Rp β] (G : EnvT γ) (G' : EnvT γ') (h : γ → γ') [S : Sub G G' h]
instance subVa : Sub (va α G) (va α G') (fun g => (g.1, h g.2)) := ⟨fun ⟨v, σ', e, r, q⟩ => ⟨v, σ', e, r, S.sub q⟩, fun ⟨v, σ', e, r, q⟩ m => by subst e; exact S.own q m⟩
instance subUn : Sub (un G) (un G') (fun g => h g) := ⟨fun ⟨v, σ', e, q⟩ => ⟨v, σ', e, S.sub q⟩, fun ⟨v, σ', e, q⟩ m => by subst e; exact S.own q m⟩
instance subOw : Sub (ow α G) (ow α G') (fun g => (g.1, h g.2)) := ⟨fun ⟨p, σ', xs, e, h0, f, hh, z, r, n, q⟩ => ⟨p, σ', xs, e, h0, f, hh, z, r, fun m => n (S.own q m), S.sub q⟩, fun ⟨p, σ', xs, e, h0, f, hh, z, r, n, q⟩ m => by
  subst e
  rcases List.mem_append.mp m with m | m
  · exact List.mem_append_left _ m
  · exact List.mem_append_right _ (S.own q m)⟩
instance subVaUn : Sub (va α G) (un G') (fun g => h g.2) := ⟨fun ⟨v, σ', e, r, q⟩ => ⟨_, σ', e, S.sub q⟩, fun ⟨v, σ', e, r, q⟩ m => by subst e; exact S.own q m⟩
instance subOwUn : Sub (ow α G) (un G') (fun g => h g.2) := ⟨fun ⟨p, σ', xs, e, h0, f, hh, z, r, n, q⟩ => ⟨_, σ', e, S.sub q⟩, fun ⟨p, σ', xs, e, h0, f, hh, z, r, n, q⟩ m => by subst e; exact List.mem_append_right _ (S.own q m)⟩
instance subOpt [NotNone α] : Sub (va α G) (va (Option α) G') (fun g => (some g.1, h g.2)) := ⟨fun ⟨v, σ', e, r, q⟩ => ⟨v, σ', e, ⟨NotNone.ne r, r⟩, S.sub q⟩, fun ⟨v, σ', e, r, q⟩ m => by subst e; exact S.own q m⟩
instance subNon : Sub (va Unit G) (va (Option α) G') (fun g => (none, h g.2)) := ⟨fun ⟨v, σ', e, r, q⟩ => ⟨v, σ', e, r, S.sub q⟩, fun ⟨v, σ', e, r, q⟩ m => by subst e; exact S.own q m⟩
end
section
variable {X : Cx} {c : C1} {γ γ' γ1 γ2 : Type} {G : EnvT γ} {G' : EnvT γ'} {G1 : EnvT γ1} {st : Stmt} {sts : List Stmt}
theorem PoN.sub {K : PySem.W.Frag} {h : γ1 → γ'} [S : Sub G1 G' h] {D : Ends} {F H : Hp} {σ : St} {m : Xc γ1} (p : PoN K c G' D F H σ (m.bind fun g => Xc.ok (h g))) : PoN K c G1 D F H σ m := by
  cases m with
  | ok g => exact fun σ' F' H' w a r => p σ' F' H' w a (S.sub r)
  | er cc fs => exact p
  | no => exact p
theorem fns_sub {m : γ → Xc γ1} {h : γ1 → γ'} (H : FNs X c G sts G1 m) [S : Sub G1 G' h] : FNs X c G sts G' (fun g => (m g).bind fun r => Xc.ok (h r)) :=
  PSs.imp H fun D σ H ⟨F, g, w, q, p⟩ => ⟨F, g, w, q, PoN.sub p⟩
theorem fn_pre {m : γ1 → Xc γ'} {h : γ → γ1} (H : FN X c G1 st G' m) [S : Sub G G1 h] : FN X c G st G' (fun g => m (h g)) :=
  PS.imp H fun D σ H ⟨F, g, w, q, p⟩ => ⟨F, h g, w, S.sub q, p⟩
theorem fns_pre {m : γ1 → Xc γ'} {h : γ → γ1} (H : FNs X c G1 sts G' m) [S : Sub G G1 h] : FNs X c G sts G' (fun g => m (h g)) :=
  PSs.imp H fun D σ H ⟨F, g, w, q, p⟩ => ⟨F, h g, w, S.sub q, p⟩
end

/-! ### statements that may return (or leave a loop's turn): with what follows -/
/-- what a return hands out -/
structure Rt (ρ : Type) where
  rr : PySem.W.Frag → Hp → Hp → Hp → V → ρ → Prop
def rtF (ρ : Type) [Rp ρ] : Rt ρ := ⟨fun K _ F _ v r => Rp.is K F v r⟩
def rtO (α : Type) [Rp α] : Rt (List α) := ⟨fun K H0 F H v l => ∃ p xs, v = .ref p ∧ H0 p = none ∧ F p = none ∧ H p = some (.lst xs) ∧ l.length ≤ sizeLine ∧ Al K F xs l⟩
/-- outcomes -/
structure Out (τ ρ β : Type) where
  sem : τ → (ρ → Prop) → (β → Prop) → (β → Prop) → Prop
  mono : ∀ {t P P' B B' C C'}, (∀ r, P r → P' r) → (∀ b, B b → B' b) → (∀ b, C b → C' b) → sem t P B C → sem t P' B' C'
  ret : ρ → τ
  hret : ∀ {r P B C}, sem (ret r) P B C → P r
/-- a def's: it returns -/
def outD (ρ : Type) : Out ρ ρ Unit := ⟨fun r P _ _ => P r, fun h _ _ p => h _ p, id, fun h => h⟩
/-- a loop's turn -/
inductive Lp (β ρ : Type) where
  | ct (b : β)
  | bk (b : β)
  | rt (r : ρ)
def Lp.sem {β ρ : Type} (t : Lp β ρ) (P : ρ → Prop) (B C : β → Prop) : Prop := match t with
  | .ct b => C b
  | .bk b => B b
  | .rt r => P r
def outL (β ρ : Type) : Out (Lp β ρ) ρ β := ⟨Lp.sem, fun {t _ _ _ _ _ _} h1 h2 h3 p => by cases t with
  | ct b => exact h3 _ p
  | bk b => exact h2 _ p
  | rt r => exact h1 _ p, .rt, fun h => h⟩
structure C2 (τ ρ β : Type) extends C1 where
  O : Out τ ρ β
  R : Rt ρ
  GB : EnvT β
section
variable {τ ρ β γ γ' γ1 γ2 : Type}
def Done (K : PySem.W.Frag) (c : C2 τ ρ β) (D : Ends) (F : Hp) (σ : St) (m : Xc τ) : Prop := match m with
  | .ok t => c.O.sem t (fun r => ∀ v F' H', Ws c.toC0 F F' H' → c.R.rr K c.H0 F' H' v r → D.rt v H') (fun b => ∀ σ' F' H', Ws c.toC0 F F' H' → Ag c.M σ σ' → c.GB.rel K c.H0 F' H' σ' b → D.bk σ' H') (fun b => ∀ σ' F' H', Ws c.toC0 F F' H' → Ag c.M σ σ' → c.GB.rel K c.H0 F' H' σ' b → D.ct σ' H')
  | .er cc fs => ∀ σ' F' H', Ws c.toC0 F F' H' → Ag c.M σ σ' → ErP K F' H' (WE c.W σ') cc fs
  | .no => False
theorem Done.on {K : PySem.W.Frag} {c : C2 τ ρ β} {D : Ends} {F F1 : Hp} {σ σ1 : St} {m : Xc τ} (h : Done K c D F σ m) (s : Same F F1) (a : Ag c.M σ σ1) : Done K c D F1 σ1 m := by
  cases m with
  | ok t => exact c.O.mono (fun r p v F' H' w => p v F' H' ⟨s.trans w.f, w.w⟩) (fun b p σ' F' H' w b => p σ' F' H' ⟨s.trans w.f, w.w⟩ (a.trans b)) (fun b p σ' F' H' w b => p σ' F' H' ⟨s.trans w.f, w.w⟩ (a.trans b)) h
  | er cc fs => exact fun σ' F' H' w b => h σ' F' H' ⟨s.trans w.f, w.w⟩ (a.trans b)
  | no => exact h
theorem Done.er {K : PySem.W.Frag} {c : C2 τ ρ β} {D : Ends} {F H : Hp} {σ : St} {cc : Str} {fs : List (Str × V)} (h : Done K c D F σ (.er cc fs)) (w : Wd c.F0 c.H0 F H) : ErP K F H (WE c.W σ) cc fs := h σ F H (Ws.refl w) Ag.refl
def tS (K : PySem.W.Frag) (c : C2 τ ρ β) (G : EnvT γ) (G' : EnvT γ') (f : γ → (γ' → Xc τ) → Xc τ) : TS := fun D σ H => ∃ F g k, Wd c.F0 c.H0 F H ∧ G.rel K c.H0 F H σ g ∧ Done K c D F σ (f g k) ∧
  ∀ g' σ' F' H', Ws c.toC0 F F' H' → Ag c.M σ σ' → G'.rel K c.H0 F' H' σ' g' → Done K c D F' σ' (k g') → D.nx σ' H'
def FS (X : Cx) (c : C2 τ ρ β) (G : EnvT γ) (st : Stmt) (G' : EnvT γ') (f : γ → (γ' → Xc τ) → Xc τ) : Prop := PS X st (tS X.K c G G' f)
def FSs (X : Cx) (c : C2 τ ρ β) (G : EnvT γ) (sts : List Stmt) (G' : EnvT γ') (f : γ → (γ' → Xc τ) → Xc τ) : Prop := PSs X sts (tS X.K c G G' f)
end
section
variable {X : Cx} {τ ρ β γ γ' γ1 γ2 α αs : Type} {c : C2 τ ρ β} {G : EnvT γ} {G' : EnvT γ'} {G1 : EnvT γ1} {G2 : EnvT γ2} [Rp α] [Rps αs] {a b e : Expr} {st : Stmt} {sts : List Stmt} {pos p p2 : Pos}
theorem FS.cast {f f' : γ → (γ' → Xc τ) → Xc τ} (h : FS X c G st G' f) (i : ∀ g k, f' g k = f g k) : FS X c G st G' f' := by rw [show f' = f from funext fun g => funext (i g)]; exact h
theorem FSs.cast {f f' : γ → (γ' → Xc τ) → Xc τ} (h : FSs X c G sts G' f) (i : ∀ g k, f' g k = f g k) : FSs X c G sts G' f' := by rw [show f' = f from funext fun g => funext (i g)]; exact h
theorem fs_n {m : γ → Xc γ'} (h : FN X c.toC1 G st G' m) : FS X c G st G' (fun g k => (m g).bind k) :=
  PS.imp h fun D σ H ⟨F, g, k, w, q, d, n⟩ => by
    refine ⟨F, g, w, q, ?_⟩
    cases e1 : m g with
    | ok g' => intro σ' F' H' w1 a1 q1; simp only [e1] at d; exact n g' σ' F' H' w1 a1 q1 (Done.on (show Done X.K c D F σ (k g') from d) w1.f a1)
    | er c' fs => simp only [e1] at d; exact d
    | no => simp only [e1] at d; exact d
theorem fss_n {m : γ → Xc γ'} (h : FNs X c.toC1 G sts G' m) : FSs X c G sts G' (fun g k => (m g).bind k) :=
  PSs.imp h fun D σ H ⟨F, g, k, w, q, d, n⟩ => by
    refine ⟨F, g, w, q, ?_⟩
    cases e1 : m g with
    | ok g' => intro σ' F' H' w1 a1 q1; simp only [e1] at d; exact n g' σ' F' H' w1 a1 q1 (Done.on (show Done X.K c D F σ (k g') from d) w1.f a1)
    | er c' fs => simp only [e1] at d; exact d
    | no => simp only [e1] at d; exact d
theorem fss_nil : FSs X c G [] G (fun g k => k g) := PSs.imp pss_nil fun D σ H ⟨F, g, k, w, q, d, n⟩ => n g σ F H (Ws.refl w) Ag.refl q d
theorem fss_one {f : γ → (γ' → Xc τ) → Xc τ} (h : FS X c G st G' f) : FSs X c G [st] G' f := pss_one h
theorem fss_cons {f1 : γ → (γ1 → Xc τ) → Xc τ} {f2 : γ1 → (γ2 → Xc τ) → Xc τ} (h1 : FS X c G st G1 f1) (h2 : FSs X c G1 sts G2 f2) : FSs X c G (st :: sts) G2 (fun g k => f1 g fun g1 => f2 g1 k) :=
  PSs.imp (pss_cons h1 h2) fun D σ H ⟨F, g, k, w, q, d, n⟩ =>
    ⟨F, g, fun g1 => f2 g1 k, w, q, d, fun g1 σ1 F1 H1 w1 a1 q1 d1 => ⟨F1, g1, k, w1.w, q1, d1, fun g' σ' F' H' w2 a2 q2 d2 => n g' σ' F' H' (w1.trans w2) (a1.trans a2) q2 d2⟩⟩
theorem fs_set (i : Nat) {x : Str} {p' : Pos} {ψ : γ → α → γ'} [P : Put G i α G' ψ] {fa : γ → Xc α} (hM : c.M i = true) (ha : FE X c.toC0 G e fa) (hN : X.N.Nodup) (hi : X.N[i]? = some x := by rfl) (hx : Loc X.env.scope x := by first | exact Or.inl rfl | exact Or.inr rfl)
    (hs : swapsWith e (some (.Name x p')) pos.line X.env = pure false := by rfl) (hf : X.fn x = true ∨ X.env.scope.names.lookup x = some .local := by first | exact .inl rfl | exact .inr rfl) :
    FS X c G (.Assign [.Name x p'] e pos) G' (fun g k => (fa g).bind fun v => k (ψ g v)) :=
  FS.cast (fs_n (fn_set i hM ha hN hi hx hs hf)) fun g k => by
    cases fa g <;> rfl
theorem fs_expr {fa : γ → Xc α} (ha : FE X c.toC0 G e fa) (hs : swapsWith e none pos.line X.env = pure false := by rfl) : FS X c G (.Expr e pos) G (fun g k => (fa g).bind fun _ => k g) :=
  FS.cast (fs_n (fn_expr ha hs)) fun g k => by cases fa g <;> rfl
theorem fs_if {ft : γ → Xc Bool} {fA fB : γ → (γ' → Xc τ) → Xc τ} {tA tB : List Stmt} (ht : FT X c.toC0 G e ft) (hA : FSs X c G tA G' fA) (hB : FSs X c G tB G' fB) :
    FS X c G (.If e tA tB pos) G' (fun g k => (ft g).bind fun b => if b = true then fA g k else fB g k) :=
  PS.imp (ps_if ht hA hB) fun D σ H ⟨F, g, k, w, q, d, n⟩ => by
    refine ⟨F, g, w, q, ?_⟩
    cases e1 : ft g with
    | ok b =>
      intro F1 H1 w1
      simp only [e1] at d
      have n' : ∀ g' σ' F' H', Ws c.toC0 F1 F' H' → Ag c.M σ σ' → G'.rel X.K c.H0 F' H' σ' g' → Done X.K c D F' σ' (k g') → D.nx σ' H' := fun g' σ' F' H' w2 => n g' σ' F' H' ⟨w1.f.trans w2.f, w2.w⟩
      cases b with
      | true => exact iteT ⟨F1, g, k, w.trans w1, G.mono q w1, Done.on d w1.f Ag.refl, n'⟩
      | false => exact iteF ⟨F1, g, k, w.trans w1, G.mono q w1, Done.on d w1.f Ag.refl, n'⟩
    | er c' fs => simp only [e1] at d; exact Done.er d w
    | no => simp only [e1] at d; exact d
theorem fs_retG [Rp ρ] {fa : γ → Xc ρ} {rt : ρ → τ} (hO : c.O.ret = rt) (hR : c.R = rtF ρ) (ha : FE X c.toC0 G e fa) : FS X c G (.Return (some e) pos) G' (fun g _ => (fa g).bind fun v => Xc.ok (rt v)) :=
  PS.imp (ps_ret ha) fun D σ H ⟨F, g, k, w, q, d, n⟩ => by
    refine ⟨F, g, w, q, ?_⟩
    subst hO
    cases e1 : fa g with
    | ok v => intro u F1 H1 w1 r1; simp only [e1] at d; exact c.O.hret d u F1 H1 (Ws.of w w1) (by rw [hR]; exact r1)
    | er c' fs => simp only [e1] at d; exact Done.er d w
    | no => simp only [e1] at d; exact d
theorem fs_retGO {fa : γ → Xc (List α)} {c : C2 τ (List α) β} {rt : List α → τ} (hO : c.O.ret = rt) (hR : c.R = rtO α) (ha : FO X c.toC0 G e fa) : FS X c G (.Return (some e) pos) G' (fun g _ => (fa g).bind fun v => Xc.ok (rt v)) :=
  PS.imp (ps_ret ha) fun D σ H ⟨F, g, k, w, q, d, n⟩ => by
    refine ⟨F, g, w, q, ?_⟩
    subst hO
    cases e1 : fa g with
    | ok v => intro p xs F1 H1 w1 n1 f1 h1 z r1; simp only [e1] at d; exact c.O.hret d _ F1 H1 (Ws.of w w1) (by rw [hR]; exact ⟨p, xs, rfl, w.h.free n1, f1, h1, z, r1⟩)
    | er c' fs => simp only [e1] at d; exact Done.er d w
    | no => simp only [e1] at d; exact d
/-- a def's return; a return out of a loop's turn -/
theorem fs_ret {c : C2 ρ ρ Unit} [Rp ρ] {fa : γ → Xc ρ} (ha : FE X c.toC0 G e fa) (hO : c.O.ret = id := by rfl) (hR : c.R = rtF ρ := by rfl) : FS X c G (.Return (some e) pos) G' (fun g _ => fa g) :=
  FS.cast (fs_retG hO hR ha) fun g k => by cases fa g <;> rfl
theorem fs_retO {c : C2 (List α) (List α) Unit} {fa : γ → Xc (List α)} (ha : FO X c.toC0 G e fa) (hO : c.O.ret = id := by rfl) (hR : c.R = rtO α := by rfl) : FS X c G (.Return (some e) pos) G' (fun g _ => fa g) :=
  FS.cast (fs_retGO hO hR ha) fun g k => by cases fa g <;> rfl
theorem fs_retL {c : C2 (Lp β ρ) ρ β} [Rp ρ] {fa : γ → Xc ρ} (ha : FE X c.toC0 G e fa) (hO : c.O.ret = Lp.rt := by rfl) (hR : c.R = rtF ρ := by rfl) : FS X c G (.Return (some e) pos) G' (fun g _ => (fa g).bind fun v => Xc.ok (Lp.rt v)) := fs_retG hO hR ha
theorem fs_retLO {c : C2 (Lp β (List α)) (List α) β} {fa : γ → Xc (List α)} (ha : FO X c.toC0 G e fa) (hO : c.O.ret = Lp.rt := by rfl) (hR : c.R = rtO α := by rfl) : FS X c G (.Return (some e) pos) G' (fun g _ => (fa g).bind fun v => Xc.ok (Lp.rt v)) := fs_retGO hO hR ha
/-- behind a return nothing matters -/
theorem fss_sub {f : γ → (γ1 → Xc τ) → Xc τ} {h : γ1 → γ'} (H : FSs X c G sts G1 f) [S : Sub G1 G' h] : FSs X c G sts G' (fun g k => f g fun r => k (h r)) :=
  PSs.imp H fun D σ H ⟨F, g, k, w, q, d, n⟩ => ⟨F, g, fun r => k (h r), w, q, d, fun g' σ' F' H' w1 a1 q1 d1 => n (h g') σ' F' H' w1 a1 (S.sub q1) d1⟩
theorem fs_pre {f : γ1 → (γ' → Xc τ) → Xc τ} {h : γ → γ1} (H : FS X c G1 st G' f) [S : Sub G G1 h] : FS X c G st G' (fun g k => f (h g) k) :=
  PS.imp H fun D σ H ⟨F, g, k, w, q, d, n⟩ => ⟨F, h g, k, w, S.sub q, d, n⟩
theorem fss_pre {f : γ1 → (γ' → Xc τ) → Xc τ} {h : γ → γ1} (H : FSs X c G1 sts G' f) [S : Sub G G1 h] : FSs X c G sts G' (fun g k => f (h g) k) :=
  PSs.imp H fun D σ H ⟨F, g, k, w, q, d, n⟩ => ⟨F, h g, k, w, S.sub q, d, n⟩
end
end FL

/-! FL6: defs, calls, exceptions raised, loops. -/
namespace FL
open PySem L2
/-! ### a def's promise -/
/-- from a frozen heap F: the arguments stand for as; what comes back stands for m as -/
def PoR {ρ : Type} (R : Rt ρ) (K : PySem.W.Frag) (F H : Hp) (Q : VK) (E : XK) (m : Xc ρ) : Prop := match m with
  | .ok r => ∀ v F' H', Wd F H F' H' → R.rr K H F' H' v r → Q v H'
  | .er c fs => ErP K F H E c fs
  | .no => False
def spF {αs ρ : Type} [Rps αs] (K : PySem.W.Frag) (R : Rt ρ) (m : αs → Xc ρ) : Sp := fun vs H Q E => ∃ F as, Same F H ∧ Rps.isL K F vs as ∧ PoR R K F H Q E (m as)
/-- the number of arguments -/
class RpsN (αs : Type) [Rps αs] (n : outParam Nat) : Prop where
  len : ∀ {K F vs} {as : αs}, Rps.isL K F vs as → vs.length = n
instance : RpsN Unit 0 := ⟨fun h => by subst h; rfl⟩
instance {α αs : Type} [Rp α] [Rps αs] {n : Nat} [N : RpsN αs n] : RpsN (α × αs) (n + 1) := ⟨fun ⟨v, r, e, h, t⟩ => by subst e; simp [N.len t]⟩
/-- the slots at a def's entry: its arguments, then what has no value yet -/
class StartT (αs : Type) [Rps αs] {γ : outParam Type} (G : outParam (EnvT γ)) (h : outParam (αs → γ)) : Prop where
  st : ∀ {K H0 F H vs as k}, Rps.isL K F vs as → G.rel K H0 F H (vs.map some ++ List.replicate k none) (h as)
instance : StartT Unit nl (fun _ => ()) := ⟨fun _ => trivial⟩
instance {α αs γ : Type} [Rp α] [Rps αs] (G : EnvT γ) (h : αs → γ) [S : StartT αs G h] : StartT (α × αs) (va α G) (fun a => (a.1, h a.2)) := ⟨fun ⟨v, r, e, q, t⟩ => by subst e; exact ⟨v, _, rfl, q, S.st t⟩⟩
/-- n further slots -/
def uns : Nat → EnvT Unit
  | 0 => nl
  | n + 1 => un (uns n)
theorem uns_rel {K : PySem.W.Frag} {H0 F H : Hp} : ∀ (n : Nat) (σ : St), n ≤ σ.length → (uns n).rel K H0 F H σ ()
  | 0, _, _ => trivial
  | n + 1, [], h => by simp at h
  | n + 1, x :: σ, h => ⟨x, σ, rfl, uns_rel n σ (by simpa using h)⟩
/-- the slots at a def's entry, given by the arguments' kinds and the rest -/
class EntryT (αs : Type) [Rps αs] (n : Nat) {γ : outParam Type} (G : outParam (EnvT γ)) (h : outParam (αs → γ)) : Prop where
  st : ∀ {K H0 F H vs as k}, Rps.isL K F vs as → n ≤ k → G.rel K H0 F H (vs.map some ++ List.replicate k none) (h as)
instance entry0 : EntryT Unit 0 nl (fun _ => ()) := ⟨fun _ _ => trivial⟩
instance entryU {n : Nat} {γ : Type} {G : EnvT γ} {h : Unit → γ} [S : EntryT Unit n G h] : EntryT Unit (n + 1) (un G) (fun a => h a) := ⟨fun {K H0 F H vs as k} q hk => by
  have q : vs = [] := q
  subst q
  cases k with
  | zero => simp at hk
  | succ k => exact ⟨none, List.replicate k none, rfl, S.st (as := as) (show ([] : List V) = [] from rfl) (by omega)⟩⟩
instance entryA {α αs γ : Type} [Rp α] [Rps αs] {n : Nat} {G : EnvT γ} {h : αs → γ} [S : EntryT αs n G h] : EntryT (α × αs) n (va α G) (fun a => (a.1, h a.2)) := ⟨fun ⟨v, r, e, q, t⟩ hk => by subst e; exact ⟨v, _, rfl, q, S.st t hk⟩⟩

section
variable {P : Program} {w : World} {K : PySem.W.Frag} {mg : Str → Option Value} {base : Heap} {αs ρ γ γ' : Type} [Rps αs] {G : EnvT γ} {G' : EnvT γ'} {h : αs → γ}
/-- the context of a def's body -/
def cD (ρ : Type) (R : Rt ρ) (F H : Hp) (E : XK) : C2 ρ ρ Unit := { F0 := F, H0 := H, W := fun cls d _ H => E cls d H, M := fun _ => true, O := outD ρ, R := R, GB := nl }
/-- THE RULE for a def: its body by a derivation for any context of such a kind -/
theorem fn_def {x qual : Str} {params : Arguments} {body : List Stmt} {scope : Scope} {dvs : List V} {kws : List (Str × V)} {f : Addr} {fd : FuncData} {N ps : List Str} {k n pn : Nat} {R : Rt ρ} {m : αs → Xc ρ} {fm : γ → (γ' → Xc ρ) → Xc ρ}
    (Fd : FunD K x qual params body scope dvs kws f fd) (S : FnScope N ps scope) [RN : RpsN αs pn] (hpn : ps.length = pn) [ET : EntryT αs n G h] (hn : N.length = pn + n)
    (hb : ∀ (cdv : Value) (A : Around) (outer : List Env) (s : Shared) (F H : Hp) (E : XK), Room k (A.deeper (PyProof.Rows.envOfC qual scope s.heap.objs.size f cdv)) → 
      Takes (cxOf (L2.CX P w) P w K mg base N qual scope f cdv A outer s H E) (cD ρ R F H E).W →
      FSs (cxOf (L2.CX P w) P w K mg base N qual scope f cdv A outer s H E) (cD ρ R F H E) G body G' fm)
    (hm : ∀ as, m as = fm (h as) fun _ => .no) : FnOk P w K mg base (L2.CX P w) (k + 1) f fd ps (spF K R m) := by
  refine Fd.ok S (fun vs H Q E ⟨F, as, _, r, _⟩ => by rw [hpn]; exact RN.len r) fun cdv A outer s H vs Q E hr ⟨F, as, sm, r, p⟩ => ?_
  refine ⟨_, hb cdv A outer s F H E hr (takes_of rfl rfl rfl rfl), F, h as, fun _ => .no, Wd.refl sm, ?_, ?_, fun g' σ' F' H' _ _ _ d => d.elim⟩
  · unfold L2.start
    have e : N.length - vs.length = n := by rw [RN.len r, hn]; omega
    rw [e]
    exact ET.st r (Nat.le_refl _)
  · rw [hm as] at p
    revert p
    cases fm (h as) (fun _ => .no) with
    | ok t => exact fun p v F' H' w1 rr => p v F' H' w1.w rr
    | er cc fs => exact fun p σ' F' H' w1 _ => ErP.on p w1.w
    | no => exact fun p => p
end

/-! ### calls -/
section
variable {X : Cx} {c : C0} {γ α ρ αs : Type} {G : EnvT γ} [Rp α] [Rp ρ] [Rps αs] {a b e : Expr} {pos p : Pos} {es : List Expr} {k : Nat} {f : Addr} {fd : FuncData} {ps : List Str} {x : Str}
theorem fe_call {m : αs → Xc ρ} {fs : γ → Xc αs} (F : FnOk X.prog X.w X.K X.mg X.base (L2.CX X.prog X.w) k f fd ps (spF X.K (rtF ρ) m)) (tk : Takes X c.W) (hr : Room k X.A) (hm : X.mg x = some (.ref f)) (hk : PySem.W.keepIn X.K (.ref f) = true) (hb : Binds X.K fd ps [])
    (ha : FA X c G (e :: es) fs) (hg : Gl X x := by rfl) (hdb : (x == ("__debug__" : Str)) = false := by decide) (he : starEach (e :: es) X.env = (false, eval e X.env) :: starEach es X.env := by rfl) (hpl : (backTo pos (starEach es X.env)).any (·.1) = false := by rfl) :
    FE X c G (.Call (.Name x p) (e :: es) [] pos) (fun g => (fs g).bind m) :=
  PE.imp (pe_callS (E := WE c.W) F hr hg hm hk hb (fun σ => passAt tk σ) ha hdb he hpl) fun σ H Q ⟨F, g, w, q, h⟩ => by
    refine ⟨F, g, w, q, ?_⟩
    cases e1 : fs g with
    | ok as =>
      intro vs F1 H1 w1 r1
      simp only [e1] at h
      have h : Po X.K F H Q (WE c.W σ) (m as) := h
      refine ⟨F1, as, w1.s, r1, ?_⟩
      revert h
      cases m as with
      | ok r => exact fun h v F2 H2 w2 rr => h v F2 H2 (w1.trans w2) rr
      | er cc fs => exact fun h => ErP.on h w1
      | no => exact fun h => h
    | er c' fs => simp only [e1] at h; exact h
    | no => simp only [e1] at h; exact h
theorem fo_call {m : αs → Xc (List ρ)} {fs : γ → Xc αs} (F : FnOk X.prog X.w X.K X.mg X.base (L2.CX X.prog X.w) k f fd ps (spF X.K (rtO ρ) m)) (tk : Takes X c.W) (hr : Room k X.A) (hm : X.mg x = some (.ref f)) (hk : PySem.W.keepIn X.K (.ref f) = true) (hb : Binds X.K fd ps [])
    (ha : FA X c G (e :: es) fs) (hg : Gl X x := by rfl) (hdb : (x == ("__debug__" : Str)) = false := by decide) (he : starEach (e :: es) X.env = (false, eval e X.env) :: starEach es X.env := by rfl) (hpl : (backTo pos (starEach es X.env)).any (·.1) = false := by rfl) :
    FO X c G (.Call (.Name x p) (e :: es) [] pos) (fun g => (fs g).bind m) :=
  PE.imp (pe_callS (E := WE c.W) F hr hg hm hk hb (fun σ => passAt tk σ) ha hdb he hpl) fun σ H Q ⟨F, g, w, q, h⟩ => by
    refine ⟨F, g, w, q, ?_⟩
    cases e1 : fs g with
    | ok as =>
      intro vs F1 H1 w1 r1
      simp only [e1] at h
      have h : PoO X.K F H Q (WE c.W σ) (m as) := h
      refine ⟨F1, as, w1.s, r1, ?_⟩
      revert h
      cases m as with
      | ok r =>
        intro h v F2 H2 w2 rr
        obtain ⟨p, xs, e, n, f1, h1, z, al⟩ := rr
        subst e
        exact h p xs F2 H2 (w1.trans w2) (w1.h.free n) f1 h1 z al
      | er cc fs => exact fun h => ErP.on h w1
      | no => exact fun h => h
    | er c' fs => simp only [e1] at h; exact h
    | no => simp only [e1] at h; exact h
end

/-! ### raise -/
section
variable {X : Cx} {τ ρ β γ γ' : Type} {c : C2 τ ρ β} {G : EnvT γ} {G' : EnvT γ'} {pos pos2 p p2 : Pos} {j : Nat}
/-- raise X('..'), X a plain class over ValueError -/
theorem fs_raise {x m : Str} (hc : X.calm = true) (tk : Takes X c.W) (q : PySem.W.excIn X.K (He.ga X.K x) He.veBase "ValueError.__new__" = true) (gC : X.mg x = some (.ref (He.ga X.K x))) (kC : PySem.W.keepIn X.K (.ref (He.ga X.K x)) = true)
    (h1 : PySem.W.subIn X.K (.ref (He.ga X.K x)) (.type "BaseException") = some true) (h2 : PySem.W.typeIn X.K (.ref (He.ga X.K x)) = some (.type "type")) (hg : Gl X x := by rfl) (hdb : (x == ("__debug__" : Str)) = false := by decide) :
    FS X c G (.Raise (some (.Call (.Name x p) [.Constant (.str m) j p2] [] pos)) none pos2) G' (fun _ _ => Xc.er x []) :=
  PS.imp (ps_raise hc tk (pmk_own PySem.F.excBase_ValueError q gC kC (raises_own h1 h2) hg hdb)) fun D σ H ⟨F, g, k, w, q, d, n⟩ => by
    exact d σ F H (Ws.refl w) Ag.refl F H (Wd.refl w.s)
end
end FL

/-! FL7: defs by their names. -/
namespace FL
open PySem L2
/-- the module's def x keeps the promise sp -/
structure Dk (P : Program) (w : World) (K : PySem.W.Frag) (mg : Str → Option Value) (base : Heap) (x : Str) (ps : List Str) (k : Nat) (sp : Sp) : Prop where
  ex : ∃ fd, FnOk P w K mg base (L2.CX P w) k (He.ga K x) fd ps sp ∧ Binds K fd ps []
  mg : mg x = some (.ref (He.ga K x))
  kp : PySem.W.keepIn K (.ref (He.ga K x)) = true
section
variable {X : Cx} {c : C0} {γ α ρ αs : Type} {G : EnvT γ} [Rp α] [Rp ρ] [Rps αs] {a b e : Expr} {pos p : Pos} {es : List Expr} {k j : Nat} {ps : List Str} {x : Str}
theorem fe_cal {m : αs → Xc ρ} {fs : γ → Xc αs} (D : Dk X.prog X.w X.K X.mg X.base x ps j (spF X.K (rtF ρ) m)) (tk : Takes X c.W) (hr : Room k X.A) (ha : FA X c G (e :: es) fs) (hjk : j ≤ k := by decide)
    (hg : Gl X x := by rfl) (hdb : (x == ("__debug__" : Str)) = false := by decide) (he : starEach (e :: es) X.env = (false, eval e X.env) :: starEach es X.env := by rfl) (hpl : (backTo pos (starEach es X.env)).any (·.1) = false := by rfl) :
    FE X c G (.Call (.Name x p) (e :: es) [] pos) (fun g => (fs g).bind m) := by
  obtain ⟨⟨fd, F, B⟩, h1, h2⟩ := D
  exact fe_call F tk (hr.mono hjk) h1 h2 B ha hg hdb he hpl
theorem fo_cal {m : αs → Xc (List ρ)} {fs : γ → Xc αs} (D : Dk X.prog X.w X.K X.mg X.base x ps j (spF X.K (rtO ρ) m)) (tk : Takes X c.W) (hr : Room k X.A) (ha : FA X c G (e :: es) fs) (hjk : j ≤ k := by decide)
    (hg : Gl X x := by rfl) (hdb : (x == ("__debug__" : Str)) = false := by decide) (he : starEach (e :: es) X.env = (false, eval e X.env) :: starEach es X.env := by rfl) (hpl : (backTo pos (starEach es X.env)).any (·.1) = false := by rfl) :
    FO X c G (.Call (.Name x p) (e :: es) [] pos) (fun g => (fs g).bind m) := by
  obtain ⟨⟨fd, F, B⟩, h1, h2⟩ := D
  exact fo_call F tk (hr.mono hjk) h1 h2 B ha hg hdb he hpl
end
/-- a plain class of errors over ValueError -/
structure Xk (K : PySem.W.Frag) (mg : Str → Option Value) (x : Str) : Prop where
  q : PySem.W.excIn K (He.ga K x) He.veBase "ValueError.__new__" = true
  kp : PySem.W.keepIn K (.ref (He.ga K x)) = true
  h1 : PySem.W.subIn K (.ref (He.ga K x)) (.type "BaseException") = some true
  h2 : PySem.W.typeIn K (.ref (He.ga K x)) = some (.type "type")
  mg : mg x = some (.ref (He.ga K x))
section
variable {X : Cx} {τ ρ β γ γ' : Type} {c : C2 τ ρ β} {G : EnvT γ} {G' : EnvT γ'} {pos pos2 p p2 : Pos} {j : Nat}
theorem fs_rai {x m : Str} (tk : Takes X c.W) (k : Xk X.K X.mg x) (hc : X.calm = true := by rfl) (hg : Gl X x := by rfl) (hdb : (x == ("__debug__" : Str)) = false := by decide) :
    FS X c G (.Raise (some (.Call (.Name x p) [.Constant (.str m) j p2] [] pos)) none pos2) G' (fun _ _ => Xc.er x []) := fs_raise hc tk k.q k.mg k.kp k.h1 k.h2 hg hdb
end
end FL

/-! FL8: lists of one's own: stored, read, grown, changed by place, returned. -/
namespace FL
open PySem L2
/-- the slot i holds a list of one's own -/
class AtO {γ : Type} (G : EnvT γ) (i : Nat) (α : outParam Type) (r : outParam (Rp α)) (π : outParam (γ → List α)) (put : outParam (γ → List α → γ)) : Prop where
  get : ∀ {K H0 F H σ g}, G.rel K H0 F H σ g → ∃ p xs, σ[i]? = some (some (.ref p)) ∧ p ∈ G.own σ ∧ H p = some (.lst xs) ∧ (π g).length ≤ sizeLine ∧ @Al α r K F xs (π g)
  set : ∀ {K H0 F H σ g p ys l}, G.rel K H0 F H σ g → σ[i]? = some (some (.ref p)) → l.length ≤ sizeLine → @Al α r K F ys l → G.rel K H0 F (upd H p (.lst ys)) σ (put g l)
instance {α γ : Type} [r : Rp α] (G : EnvT γ) : AtO (ow α G) 0 α r (fun g => g.1) (fun g l => (l, g.2)) := ⟨fun ⟨p, σ', xs, e, h0, f, h, z, q, n, t⟩ => ⟨p, xs, by subst e; rfl, by subst e; simp [ow, adr], h, z, q⟩,
  fun {K H0 F H σ g b ys l} ⟨p, σ', xs, e, h0, f, h, z, q, n, t⟩ e2 hz hl => by
    subst e
    have e3 : p = b := by simpa using e2
    subst e3
    exact ⟨p, σ', ys, rfl, h0, f, upd_same, hz, hl, n, G.mu t n⟩⟩
instance {α β γ : Type} [Rp β] [r : Rp α] (G : EnvT γ) (i : Nat) (π : γ → List α) (put : γ → List α → γ) [a : AtO G i α r π put] : AtO (va β G) (i + 1) α r (fun g => π g.2) (fun g l => (g.1, put g.2 l)) := ⟨fun ⟨v, σ', e, _, q⟩ => by
  obtain ⟨p, xs, e2, m, q2⟩ := a.get q
  exact ⟨p, xs, by subst e; exact e2, by subst e; exact m, q2⟩, fun ⟨v, σ', e, w, q⟩ e2 hz hl => ⟨v, σ', e, w, a.set q (by subst e; exact e2) hz hl⟩⟩
instance {α γ : Type} [r : Rp α] (G : EnvT γ) (i : Nat) (π : γ → List α) (put : γ → List α → γ) [a : AtO G i α r π put] : AtO (un G) (i + 1) α r (fun g => π g) (fun g l => put g l) := ⟨fun ⟨v, σ', e, q⟩ => by
  obtain ⟨p, xs, e2, m, q2⟩ := a.get q
  exact ⟨p, xs, by subst e; exact e2, by subst e; exact m, q2⟩, fun ⟨v, σ', e, q⟩ e2 hz hl => ⟨v, σ', e, a.set q (by subst e; exact e2) hz hl⟩⟩
instance {α β γ : Type} [Rp β] [r : Rp α] (G : EnvT γ) (i : Nat) (π : γ → List α) (put : γ → List α → γ) [a : AtO G i α r π put] : AtO (ow β G) (i + 1) α r (fun g => π g.2) (fun g l => (g.1, put g.2 l)) := ⟨fun ⟨p, σ', xs, e, h0, f, h, z, w, n, q⟩ => by
  obtain ⟨b, ys, e2, m, q2⟩ := a.get q
  exact ⟨b, ys, by subst e; exact e2, by subst e; exact List.mem_append_right _ m, q2⟩, fun {K H0 F H σ g b ys l} ⟨p, σ', xs, e, h0, f, h, z, w, n, q⟩ e2 hz hl => by
  subst e
  obtain ⟨b', _, e3, m, _⟩ := a.get q
  have e4 : b' = b := by
    have e2 : σ'[i]? = some (some (.ref b)) := e2
    rw [e3] at e2
    injection e2 with e2
    injection e2 with e2
    injection e2
  subst e4
  have ne : p ≠ b' := fun z => n (by rw [z]; exact m)
  exact ⟨p, σ', xs, rfl, h0, f, by rw [upd_ne ne]; exact h, z, w, n, a.set q e3 hz hl⟩⟩
/-- a new list of one's own goes to the slot i -/
class PutO {γ : Type} (G : EnvT γ) (i : Nat) (α : Type) [Rp α] {δ : outParam Type} (G' : outParam (EnvT δ)) (ψ : outParam (γ → List α → δ)) : Prop where
  put : ∀ {K H0 F H σ g p xs l}, G.rel K H0 F H σ g → p ∉ G.own σ → H0 p = none → F p = none → H p = some (.lst xs) → l.length ≤ sizeLine → Al K F xs l → G'.rel K H0 F H (σ.set i (some (.ref p))) (ψ g l)
  own : ∀ {K H0 F H σ g p} {b : Addr}, G.rel K H0 F H σ g → p ∈ G'.own (σ.set i (some (.ref b))) → p = b ∨ p ∈ G.own σ
instance {α β γ : Type} [Rp α] [Rp β] (G : EnvT γ) : PutO (va β G) 0 α (ow α G) (fun g l => (l, g.2)) := ⟨fun ⟨v, σ', e, _, q⟩ n h0 f h z r => ⟨_, σ', _, by subst e; rfl, h0, f, h, z, r, by subst e; exact n, q⟩,
  fun ⟨v, σ', e, _, q⟩ m => by
    subst e
    rcases List.mem_append.mp m with m | m
    · exact .inl (by simpa [adr] using m)
    · exact .inr m⟩
instance {α γ : Type} [Rp α] (G : EnvT γ) : PutO (un G) 0 α (ow α G) (fun g l => (l, g)) := ⟨fun ⟨v, σ', e, q⟩ n h0 f h z r => ⟨_, σ', _, by subst e; rfl, h0, f, h, z, r, by subst e; exact n, q⟩,
  fun ⟨v, σ', e, q⟩ m => by
    subst e
    rcases List.mem_append.mp m with m | m
    · exact .inl (by simpa [adr] using m)
    · exact .inr m⟩
instance {α β γ : Type} [Rp α] [Rp β] (G : EnvT γ) : PutO (ow β G) 0 α (ow α G) (fun g l => (l, g.2)) := ⟨fun ⟨p, σ', xs, e, _, _, _, _, _, nn, q⟩ n h0 f h z r => ⟨_, σ', _, by subst e; rfl, h0, f, h, z, r, by subst e; exact fun m => n (List.mem_append_right _ m), q⟩,
  fun ⟨p, σ', xs, e, _, _, _, _, _, nn, q⟩ m => by
    subst e
    rcases List.mem_append.mp m with m | m
    · exact .inl (by simpa [adr] using m)
    · exact .inr (List.mem_append_right _ m)⟩
instance {α β γ δ : Type} [Rp α] [Rp β] (G : EnvT γ) (i : Nat) (G' : EnvT δ) (ψ : γ → List α → δ) [P : PutO G i α G' ψ] : PutO (va β G) (i + 1) α (va β G') (fun g a => (g.1, ψ g.2 a)) :=
  ⟨fun ⟨v, σ', e, w, q⟩ n h0 f h z r => ⟨v, σ'.set i _, by subst e; rfl, w, P.put q (by subst e; exact n) h0 f h z r⟩, fun ⟨v, σ', e, w, q⟩ h => by subst e; exact P.own q h⟩
instance {α γ δ : Type} [Rp α] (G : EnvT γ) (i : Nat) (G' : EnvT δ) (ψ : γ → List α → δ) [P : PutO G i α G' ψ] : PutO (un G) (i + 1) α (un G') (fun g a => ψ g a) :=
  ⟨fun ⟨v, σ', e, q⟩ n h0 f h z r => ⟨v, σ'.set i _, by subst e; rfl, P.put q (by subst e; exact n) h0 f h z r⟩, fun ⟨v, σ', e, q⟩ h => by subst e; exact P.own q h⟩
instance {α β γ δ : Type} [Rp α] [Rp β] (G : EnvT γ) (i : Nat) (G' : EnvT δ) (ψ : γ → List α → δ) [P : PutO G i α G' ψ] : PutO (ow β G) (i + 1) α (ow β G') (fun g a => (g.1, ψ g.2 a)) :=
  ⟨fun ⟨p, σ', xs, e, h0', f', h', z', w, nn, q⟩ n h0 f h z r => by
    subst e
    refine ⟨p, σ'.set i _, xs, rfl, h0', f', h', z', w, fun m => ?_, P.put q (fun m => n (List.mem_append_right _ m)) h0 f h z r⟩
    rcases P.own q m with m | m
    · exact n (List.mem_append_left _ (by simp [adr, m]))
    · exact nn m, fun ⟨p, σ', xs, e, _, _, _, _, _, nn, q⟩ h => by
    subst e
    rcases List.mem_append.mp h with h | h
    · exact .inr (List.mem_append_left _ h)
    · rcases P.own q h with h | h
      · exact .inl h
      · exact .inr (List.mem_append_right _ h)⟩

section
variable {X : Cx} {c : C1} {γ γ' α β : Type} {G : EnvT γ} {G' : EnvT γ'} [Rp α] [Rp β] {a b e : Expr} {pos p1 p2 : Pos} {x : Str}
/-- x = [..], x's list one's own -/
theorem fn_setO (i : Nat) {p' : Pos} {ψ : γ → List α → γ'} [P : PutO G i α G' ψ] {fa : γ → Xc (List α)} (hM : c.M i = true) (ha : FO X c.toC0 G e fa) (hN : X.N.Nodup) (hi : X.N[i]? = some x := by rfl) (hx : Loc X.env.scope x := by first | exact Or.inl rfl | exact Or.inr rfl)
    (hs : swapsWith e (some (.Name x p')) pos.line X.env = pure false := by rfl) (hf : X.fn x = true ∨ X.env.scope.names.lookup x = some .local := by first | exact .inl rfl | exact .inr rfl) :
    FN X c G (.Assign [.Name x p'] e pos) G' (fun g => (fa g).bind fun v => Xc.ok (ψ g v)) :=
  PS.imp (ps_set hN hi hx ha hs hf) fun D σ H ⟨F, g, w, q, h⟩ => by
    refine ⟨F, g, w, q, ?_⟩
    cases e1 : fa g with
    | ok v =>
      intro p xs F1 H1 w1 n f1 h1 z r1
      simp only [e1] at h
      have q1 := G.mono q w1
      refine h (σ.set i (some (.ref p))) F1 H1 (Ws.of w w1) (Ag.set hM) (P.put q1 (fun m => ?_) (w.h.free n) f1 h1 z r1)
      obtain ⟨_, _, ys, hy⟩ := G.al q m
      rw [n] at hy
      cases hy
    | er c' fs => simp only [e1] at h; exact PoN.er h w
    | no => simp only [e1] at h; exact h
/-- x = [.. for ..] on one line, where the block stores it -/
theorem fn_setOL (i : Nat) {tx : γ → Xc (List α)} {st : Stmt} {te : TE} {ψ : γ → List α → γ'} [P : PutO G i α G' ψ] (hM : c.M i = true) (ha : ∀ σ H Q, tO X.K c.toC0 G tx σ H Q → te σ H Q) (hs : PS X st (tAsg te (gName i))) :
    FN X c G st G' (fun g => (tx g).bind fun v => Xc.ok (ψ g v)) :=
  PS.imp hs fun D σ H ⟨F, g, w, q, h⟩ => by
    refine ha σ H _ ⟨F, g, w, q, ?_⟩
    cases e1 : tx g with
    | ok v =>
      intro p xs F1 H1 w1 n f1 h1 z r1
      simp only [e1] at h
      have q1 := G.mono q w1
      refine h (σ.set i (some (.ref p))) F1 H1 (Ws.of w w1) (Ag.set hM) (P.put q1 (fun m => ?_) (w.h.free n) f1 h1 z r1)
      obtain ⟨_, _, ys, hy⟩ := G.al q m
      rw [n] at hy
      cases hy
    | er c' fs => simp only [e1] at h; exact PoN.er h w
    | no => simp only [e1] at h; exact h
theorem fn_setL (i : Nat) {tx : γ → Xc (List α)} {st : Stmt} {te : TE} {ψ : γ → List α → γ'} [P : Put G i (List α) G' ψ] (hM : c.M i = true) (ha : ∀ σ H Q, tO X.K c.toC0 G tx σ H Q → te σ H Q) (hs : PS X st (tAsg te (gName i))) :
    FN X c G st G' (fun g => (tx g).bind fun v => Xc.ok (ψ g v)) :=
  PS.imp hs fun D σ H ⟨F, g, w, q, h⟩ => by
    refine ha σ H _ ⟨F, g, w, q, ?_⟩
    cases e1 : tx g with
    | ok v =>
      intro p xs F1 H1 w1 n f1 h1 z r1
      simp only [e1] at h
      have w2 := w1.fz n f1 h1
      exact h (σ.set i (some (.ref p))) _ H1 (Ws.of w w2) (Ag.set hM) (P.put (G.mono q w2) ⟨p, xs, rfl, SqL.of upd_same, z, r1.mono (same_new f1)⟩)
    | er c' fs => simp only [e1] at h; exact PoN.er h w
    | no => simp only [e1] at h; exact h
/-- the world behind a change of a list of one's own -/
theorem Wd.mutd {F H F' H' : Hp} {p : Addr} {o : HO} (w : Wd F H F' H') (h0 : H p = none) (f : F' p = none) : Wd F H F' (upd H' p o) :=
  ⟨w.f, fun b u e => by rw [upd_ne (ne_of_none e h0)]; exact w.h b u e, fun b u e => by rw [upd_ne (ne_of_none e f)]; exact w.s b u e, w.n⟩
@[irreducible] def appX {α : Type} (l : List α) (a : α) : Xc (List α) := if l.length < sizeLine then .ok (l ++ [a]) else .no
/-- x.append(e) -/
theorem fn_append (i : Nat) {τ : Type} {r : Rp τ} {π : γ → List τ} {put : γ → List τ → γ} [A : AtO G i τ r π put] {fa : γ → Xc τ} {apos cpos : Pos} (ha : FE X c.toC0 G e fa) (hN : X.N[i]? = some x := by rfl) (hv : Vis X.env.scope x := by first | exact Or.inl rfl | exact Or.inr (Or.inl rfl) | exact Or.inr (Or.inr rfl))
    (hd : (x == ("__debug__" : Str)) = false := by decide) (hcd : (x == ("__classdict__" : Str)) = false := by decide) (hbase : attributeBase (.Name x p1) "append" X.env (eval (.Name x p1) X.env) = eval (.Name x p1) X.env := by rfl)
    (hfew : ((backTo cpos (starEach [e] X.env)).all (fun x => !x.1) && (backToKw cpos (keywordEach [] X.env)).all (fun x => x.1.isSome) && decide ([e].length + ([] : List Keyword).length + (if ([] : List Keyword).isEmpty then 0 else 1) < 30)) = true := by rfl)
    (hline : (apos.endLine == cpos.line) = true := by rfl) (hs : starEach [e] X.env = (false, eval e X.env) :: starEach [] X.env := by rfl) (hplain : (backTo cpos (starEach [] X.env)).any (·.1) = false := by rfl)
    (hsw : swapsWith (.Call (.Attribute (.Name x p1) "append" apos) [e] [] cpos) none pos.line X.env = pure false := by rfl) :
    FN X c G (.Expr (.Call (.Attribute (.Name x p1) "append" apos) [e] [] cpos) pos) G (fun g => (fa g).bind fun v => (appX (π g) v).bind fun l => Xc.ok (put g l)) :=
  PS.imp (ps_expr (pe_bm PySem.F.plainAttrs_list PySem.F.slot_list_append PySem.F.type_list_append mt_append (pe_var hN hv hd hcd) (pa_cons ha pa_nil hs) hbase hfew hline hs hplain) hsw) fun D σ H ⟨F, g, w, q, h⟩ => by
    obtain ⟨p, xs, e1, m, hp, z, al⟩ := A.get q
    refine ⟨.ref p, e1, .inl ⟨rfl, _, SqL.of hp⟩, F, g, w, q, ?_⟩
    cases e2 : fa g with
    | ok v =>
      intro u F1 H1 w1 r1
      simp only [e2] at h
      have h : PoN X.K c G D F H σ ((appX (π g) v).bind fun l => Xc.ok (put g l)) := h
      unfold appX at h
      by_cases hz : (π g).length < sizeLine
      · rw [if_pos hz] at h
        refine ⟨p, xs, u, rfl, rfl, w1.h _ _ hp, by rw [al.len]; exact hz, ?_⟩
        obtain ⟨h0, hf, _⟩ := G.al q m
        have q1 := G.mono q w1
        obtain ⟨_, hf1, _⟩ := G.al q1 m
        refine h σ F1 _ ⟨w1.f, (w.trans w1).mutd h0 hf1⟩ Ag.refl ?_
        exact A.set q1 e1 (by simp; omega) ((al.mono w1.f).snoc r1)
      · rw [if_neg hz] at h; exact h.elim
    | er c' fs => simp only [e2] at h; exact PoN.er h w
    | no => simp only [e2] at h; exact h
@[irreducible] def setX {α : Type} (l : List α) (i : Int) (a : α) : Xc (List α) := match ixN l.length i with
  | some j => .ok (l.set j a)
  | none => .no
/-- x[k] = e, x a list of one's own -/
theorem fn_setix (i : Nat) {τ : Type} {r : Rp τ} {π : γ → List τ} {put : γ → List τ → γ} [A : AtO G i τ r π put] {fa : γ → Xc τ} {fk : γ → Xc Int} {spos : Pos} {k : Expr} (ha : FE X c.toC0 G e fa) (hk : FE X c.toC0 G k fk) (hN : X.N[i]? = some x := by rfl)
    (hv : Vis X.env.scope x := by first | exact Or.inl rfl | exact Or.inr (Or.inl rfl) | exact Or.inr (Or.inr rfl))
    (hd : (x == ("__debug__" : Str)) = false := by decide) (hcd : (x == ("__classdict__" : Str)) = false := by decide)
    (hs : swapsWithSole [.Subscript (.Name x p1) k spos] e pos.line X.env = pure false := by rfl) (hw : swappedStores [.Subscript (.Name x p1) k spos] e X.env = pure none := by rfl)
    (h1 : (assignEach [.Subscript (.Name x p1) k spos] X.env).map (·.2) = [assign (.Subscript (.Name x p1) k spos) X.env] := by rfl) (hps : PG X (.Subscript (.Name x p1) k spos) (gSub (tVar i) (tF X.K c.toC0 G fk) rSetL)) :
    FN X c G (.Assign [.Subscript (.Name x p1) k spos] e pos) G (fun g => (fa g).bind fun v => (fk g).bind fun j => (setX (π g) j v).bind fun l => Xc.ok (put g l)) :=
  PS.imp (ps_asg ha hps hs hw h1) fun D σ H ⟨F, g, w, q, h⟩ => by
    refine ⟨F, g, w, q, ?_⟩
    cases e2 : fa g with
    | ok v =>
      intro u F1 H1 w1 r1
      simp only [e2] at h
      have h : PoN X.K c G D F H σ ((fk g).bind fun j => (setX (π g) j v).bind fun l => Xc.ok (put g l)) := h
      have q1 := G.mono q w1
      obtain ⟨p, xs, e1, m, hp, z, al⟩ := A.get q1
      refine ⟨.ref p, e1, F1, g, w.trans w1, q1, ?_⟩
      cases e3 : fk g with
      | ok j =>
        intro jv F2 H2 w2 r2
        simp only [e3] at h
        have h : PoN X.K c G D F H σ ((setX (π g) j v).bind fun l => Xc.ok (put g l)) := h
        unfold setX at h
        have q2 := G.mono q1 w2
        obtain ⟨h0, hf2, _⟩ := G.al q2 m
        cases e4 : ixN (π g).length j with
        | none => rw [e4] at h; exact h.elim
        | some n =>
          rw [e4] at h
          refine ⟨p, xs, j, n, rfl, r2, w2.h _ _ hp, by rw [al.len]; exact e4, ?_⟩
          refine h σ F2 _ ⟨w1.f.trans w2.f, ((w.trans w1).trans w2).mutd h0 hf2⟩ Ag.refl ?_
          exact A.set q2 e1 (by simp; exact z) ((al.mono w2.f).set (Rp.mono w2.f r1) n)
      | er c' fs =>
        simp only [e3] at h
        exact ErP.on (PoN.er h w) w1
      | no => simp only [e3] at h; exact h
    | er c' fs => simp only [e2] at h; exact PoN.er h w
    | no => simp only [e2] at h; exact h
end
end FL

/-! FL9: lists of one's own lent, returned; what is walked; for; comprehensions. -/
namespace FL
open PySem L2
/-! ### data without lists: it leans on no list -/
class RpT (α : Type) [Rp α] : Prop where
  down : ∀ {K F F' v} {a : α}, (∀ p o, F p = some o → (∀ xs, o ≠ HO.lst xs) → F' p = some o) → Rp.is K F v a → Rp.is K F' v a
instance : RpT Int := ⟨fun _ h => h⟩
instance : RpT Bool := ⟨fun _ h => h⟩
instance : RpT Str := ⟨fun _ h => h⟩
instance : RpT Unit := ⟨fun _ h => h⟩
instance {α : Type} [Rp α] [RpT α] : RpT (Option α) := ⟨fun {K F F' v a} s h => by
  cases a with
  | none => exact h
  | some a => exact ⟨h.1, RpT.down s h.2⟩⟩
theorem sqT_down {K : PySem.W.Frag} {F F' : Hp} {p : Addr} {xs : List V} (s : ∀ p o, F p = some o → (∀ xs, o ≠ HO.lst xs) → F' p = some o) (h : SqT K F p xs) : SqT K F' p xs := by
  rcases h with (h | ⟨o, h⟩) | h
  · exact .inl (.inl (s _ _ h fun _ z => nomatch z))
  · exact .inl (.inr ⟨o, s _ _ h fun _ z => nomatch z⟩)
  · exact .inr h
theorem al_down {α : Type} [Rp α] [RpT α] {K : PySem.W.Frag} {F F' : Hp} {vs : List V} {as : List α} (s : ∀ p o, F p = some o → (∀ xs, o ≠ HO.lst xs) → F' p = some o) (h : Al K F vs as) : Al K F' vs as := by
  induction h with
  | nil => exact .nil
  | cons h _ ih => exact .cons (RpT.down s h) ih
instance {α : Type} [Rp α] [RpT α] : RpT (Tu α) := ⟨fun s ⟨p, xs, e, h, z, r⟩ => ⟨p, xs, e, sqT_down s h, z, al_down s r⟩⟩
instance {α β : Type} [Rp α] [Rp β] [RpT α] [RpT β] : RpT (α × β) := ⟨fun s ⟨p, x, y, e, h, r1, r2⟩ => ⟨p, x, y, e, sqT_down s h, RpT.down s r1, RpT.down s r2⟩⟩
instance {α β γ : Type} [Rp α] [Rp β] [Rp γ] [RpT α] [RpT β] [RpT γ] : RpT (T3 α β γ) := ⟨fun s ⟨p, x, y, z, e, h, r1, r2, r3⟩ => ⟨p, x, y, z, e, sqT_down s h, RpT.down s r1, RpT.down s r2, RpT.down s r3⟩⟩
instance {α β γ δ : Type} [Rp α] [Rp β] [Rp γ] [Rp δ] [RpT α] [RpT β] [RpT γ] [RpT δ] : RpT (T4 α β γ δ) := ⟨fun s ⟨p, x, y, z, u, e, h, r1, r2, r3, r4⟩ => ⟨p, x, y, z, u, e, sqT_down s h, RpT.down s r1, RpT.down s r2, RpT.down s r3, RpT.down s r4⟩⟩
/-- the slots with the lists of one's own lent -/
class Bor {γ : Type} (G : EnvT γ) {δ : outParam Type} (G' : outParam (EnvT δ)) (h : outParam (γ → δ)) : Prop where
  bor : ∀ {K H0 F H F' σ g}, G.rel K H0 F H σ g → Same F F' → (∀ p, p ∈ G.own σ → F' p = H p) → G'.rel K H0 F' H σ (h g)
instance : Bor nl nl (fun g => g) := ⟨fun h _ _ => h⟩
section
variable {α γ δ : Type} [Rp α] (G : EnvT γ) (G' : EnvT δ) (h : γ → δ) [B : Bor G G' h]
instance : Bor (va α G) (va α G') (fun g => (g.1, h g.2)) := ⟨fun ⟨v, σ', e, r, q⟩ s m => by subst e; exact ⟨v, σ', rfl, Rp.mono s r, B.bor q s m⟩⟩
instance : Bor (un G) (un G') (fun g => h g) := ⟨fun ⟨v, σ', e, q⟩ s m => by subst e; exact ⟨v, σ', rfl, B.bor q s m⟩⟩
instance : Bor (ow α G) (va (List α) G') (fun g => (g.1, h g.2)) := ⟨fun {K H0 F H F' σ g} ⟨p, σ', xs, e, h0, f, hh, z, r, n, q⟩ s m => by
  subst e
  have hp : F' p = some (.lst xs) := by rw [m p (List.mem_append_left _ (by simp [adr])), hh]
  exact ⟨.ref p, σ', rfl, ⟨p, xs, rfl, SqL.of hp, z, r.mono s⟩, B.bor q s fun b hb => m b (List.mem_append_right _ hb)⟩⟩
end
section
variable {X : Cx} {c : C0} {γ δ α β : Type} {G : EnvT γ} {G' : EnvT δ} {h : γ → δ} [Rp α] [Rp β] {e : Expr}
open Classical in
theorem lend {K : PySem.W.Frag} {F H : Hp} {σ : St} {g : γ} [B : Bor G G' h] (w : Wd c.F0 c.H0 F H) (q : G.rel K c.H0 F H σ g) : ∃ F1, Wd c.F0 c.H0 F1 H ∧ G'.rel K c.H0 F1 H σ (h g) ∧
    (∀ F2 H2, Wd F1 H F2 H2 → ∃ F3, Wd F H F3 H2 ∧ (∀ p o, F2 p = some o → (∀ xs, o ≠ HO.lst xs) → F3 p = some o) ∧ ∀ p, F2 p = none → F3 p = none) ∧ Same F F1 := by
  have s1 : Same F fun a => if a ∈ G.own σ then H a else F a := fun b o e => by
    by_cases m : b ∈ G.own σ
    · obtain ⟨_, f, _⟩ := G.al q m
      rw [e] at f; cases f
    · simp only [if_neg m]; exact e
  refine ⟨fun a => if a ∈ G.own σ then H a else F a, ⟨w.f.trans s1, w.h, fun b o e => ?_, fun b hb e => ?_⟩, B.bor q s1 fun p m => by simp only [if_pos m], fun F2 H2 w2 => ⟨fun a => if a ∈ G.own σ then none else F2 a, ⟨fun b o e => ?_, w2.h, fun b o e => ?_, fun b hb e => ?_⟩, fun p o e hl => ?_, fun p e => ?_⟩, s1⟩
  · by_cases m : b ∈ G.own σ
    · simp only [if_pos m] at e; exact e
    · simp only [if_neg m] at e; exact w.s b o e
  · by_cases m : b ∈ G.own σ
    · exact (G.al q m).1
    · simp only [if_neg m] at hb; exact w.n b hb e
  · by_cases m : b ∈ G.own σ
    · obtain ⟨_, f, _⟩ := G.al q m
      rw [e] at f; cases f
    · simp only [if_neg m]; exact w2.f b o (s1 b o e)
  · by_cases m : b ∈ G.own σ
    · simp only [if_pos m] at e; cases e
    · simp only [if_neg m] at e; exact w2.s b o e
  · by_cases m : b ∈ G.own σ
    · simp only [if_pos m] at hb; exact absurd rfl hb
    · simp only [if_neg m] at hb
      exact w2.n b hb (by simp only [if_neg m]; exact e)
  · by_cases m : p ∈ G.own σ
    · obtain ⟨_, _, xs, hx⟩ := G.al q m
      have : F2 p = some (.lst xs) := w2.f p _ (by simp only [if_pos m]; exact hx)
      rw [this] at e
      exact absurd (Option.some.inj e).symm (hl xs)
    · simp only [if_neg m]; exact e
  · by_cases m : p ∈ G.own σ
    · simp only [if_pos m]
    · simp only [if_neg m]; exact e
theorem ErP.lend {K : PySem.W.Frag} {F H F1 : Hp} {E : XK} {cc : Str} {fs : List (Str × V)} (h : ErP K F H E cc fs) (k : ∀ F2 H2, Wd F1 H F2 H2 → ∃ F3, Wd F H F3 H2) : ErP K F1 H E cc fs := by
  cases fs with
  | nil => exact fun F' H' w => by obtain ⟨F3, w3⟩ := k F' H' w; exact h F3 H' w3
  | cons f fs => exact fun F' H' d w => by obtain ⟨F3, w3⟩ := k F' H' w; exact h F3 H' d w3
theorem fe_br [B : Bor G G' h] [RpT α] {f : δ → Xc α} (ha : FE X c G' e f) : FE X c G e (fun g => f (h g)) :=
  PE.imp ha fun σ H Q ⟨F, g, w, q, p⟩ => by
    obtain ⟨F1, w1, q1, k, _⟩ := lend (B := B) w q
    refine ⟨F1, h g, w1, q1, ?_⟩
    have p : Po X.K F H Q (WE c.W σ) (f (h g)) := p
    revert p
    cases f (h g) with
    | ok a =>
      intro p v F2 H2 w2 r2
      obtain ⟨F3, w3, d⟩ := k F2 H2 w2
      exact p v F3 H2 w3 (RpT.down d.1 r2)
    | er cc fs => exact fun p => ErP.lend p fun F2 H2 w2 => let ⟨F3, w3, _⟩ := k F2 H2 w2; ⟨F3, w3⟩
    | no => exact fun p => p
theorem ft_br [B : Bor G G' h] {f : δ → Xc Bool} (ha : FT X c G' e f) : FT X c G e (fun g => f (h g)) :=
  PT.imp ha fun σ H Q ⟨F, g, w, q, p⟩ => by
    obtain ⟨F1, w1, q1, k, _⟩ := lend (B := B) w q
    refine ⟨F1, h g, w1, q1, ?_⟩
    have p : PoB X.K F H Q (WE c.W σ) (f (h g)) := p
    revert p
    cases f (h g) with
    | ok a =>
      intro p F2 H2 w2
      obtain ⟨F3, w3, d⟩ := k F2 H2 w2
      exact p F3 H2 w3
    | er cc fs => exact fun p => ErP.lend p fun F2 H2 w2 => let ⟨F3, w3, _⟩ := k F2 H2 w2; ⟨F3, w3⟩
    | no => exact fun p => p
theorem fo_br [B : Bor G G' h] [RpT α] {f : δ → Xc (List α)} (ha : FO X c G' e f) : FO X c G e (fun g => f (h g)) :=
  PE.imp ha fun σ H Q ⟨F, g, w, q, p⟩ => by
    obtain ⟨F1, w1, q1, k, _⟩ := lend (B := B) w q
    refine ⟨F1, h g, w1, q1, ?_⟩
    have p : PoO X.K F H Q (WE c.W σ) (f (h g)) := p
    revert p
    cases f (h g) with
    | ok a =>
      intro p b xs F2 H2 w2 n f2 h2 z r2
      obtain ⟨F3, w3, d⟩ := k F2 H2 w2
      exact p b xs F3 H2 w3 n (d.2 b f2) h2 z (al_down d.1 r2)
    | er cc fs => exact fun p => ErP.lend p fun F2 H2 w2 => let ⟨F3, w3, _⟩ := k F2 H2 w2; ⟨F3, w3⟩
    | no => exact fun p => p
end
end FL

/-! FL10: what is walked; targets; for; comprehensions; returns of lists of one's own. -/
namespace FL
open PySem L2
/-- the walk J over the items of l, in the frozen heap F -/
structure Wk {α : Type} [Rp α] (K : PySem.W.Frag) (J : It) (F : Hp) (l : List α) : Prop where
  len : l.length ≤ sizeLine
  stop : ∀ F' H', Same F F' → Same F' H' → J.stop l.length H'
  go : ∀ i F' H', i < l.length → Same F F' → Same F' H' → J.go i H'
  yld : ∀ i a F' H' x H'', l[i]? = some a → Same F F' → Same F' H' → J.yld i H' x H'' → ∃ F'', Wd F' H' F'' H'' ∧ Rp.is K F'' x a
def PoI {α : Type} [Rp α] (K : PySem.W.Frag) (F H : Hp) (R : It → Hp → Prop) (E : XK) (m : Xc (List α)) : Prop := match m with
  | .ok l => ∀ J F' H', Wd F H F' H' → Wk K J F' l → R J H'
  | .er c fs => ErP K F H E c fs
  | .no => False
section
variable {X : Cx} {c : C0} {γ α β : Type} {G : EnvT γ} [Rp α] [Rp β] {e a b tg : Expr} {pos p : Pos}
def FI (X : Cx) (c : C0) (G : EnvT γ) (tg iter : Expr) (f : γ → Xc (List α)) : Prop := PI X tg iter fun σ H R => ∃ F g, Wd c.F0 c.H0 F H ∧ G.rel X.K c.H0 F H σ g ∧ PoI X.K F H R (WE c.W σ) (f g)
theorem PI.imp {iter : Expr} {t t' : TI} (h : PI X tg iter t) (i : ∀ σ H R, t' σ H R → t σ H R) : PI X tg iter t' := ⟨fun pins s σ H R I q => h.run pins s σ H R I (i σ H R q)⟩
theorem FI.cast {f f' : γ → Xc (List α)} (h : FI X c G tg e f) (i : ∀ g, f' g = f g) : FI X c G tg e f' := by rw [show f' = f from funext i]; exact h
theorem sqL_one {K : PySem.W.Frag} {H : Hp} {q : Addr} {xs ys : List V} {F : Hp} (s : Same F H) (h : SqL K F q xs) : SqL K H q xs := Same.seq s h
theorem fi_list {f : γ → Xc (List α)} (h : FE X c G e f) : FI X c G tg e f :=
  PI.imp (pi_list h) fun σ H R ⟨F, g, w, q, p⟩ => by
    refine ⟨F, g, w, q, ?_⟩
    cases e1 : f g with
    | ok l =>
      rintro v F1 H1 w1 ⟨b, xs, rfl, hx, hz, r⟩
      rw [e1] at p
      refine ⟨b, rfl, ⟨xs, Same.seq w1.s hx⟩, p (Itl X.K b) F1 H1 w1 ⟨hz, fun F' H' s1 s2 => ⟨xs, Same.seq (s1.trans s2) hx, Nat.le_of_eq r.len⟩, fun i F' H' hi s1 s2 => ?_, fun i a F' H' x H'' e2 s1 s2 y => ?_⟩⟩
      · obtain ⟨v, hv, _⟩ := r.get' (List.getElem?_eq_getElem hi)
        exact ⟨xs, v, Same.seq (s1.trans s2) hx, hv⟩
      · obtain ⟨rfl, y⟩ := y
        obtain ⟨v, hv, rv⟩ := r.get' e2
        have := y xs (Same.seq (s1.trans s2) hx)
        rw [hv] at this
        cases this
        exact ⟨F', Wd.refl s2, Rp.mono s1 rv⟩
    | er c' fs => rw [e1] at p; exact p
    | no => rw [e1] at p; exact p
theorem fi_tup {f : γ → Xc (Tu α)} (h : FE X c G e f) : FI X c G tg e (fun g => (f g).bind fun t => Xc.ok t.l) :=
  PI.imp (pi_tup h) fun σ H R ⟨F, g, w, q, p⟩ => by
    refine ⟨F, g, w, q, ?_⟩
    cases e1 : f g with
    | ok l =>
      rintro v F1 H1 w1 ⟨b, xs, rfl, hx, hz, r⟩
      simp only [e1] at p
      refine ⟨b, rfl, ⟨xs, Same.seqT w1.s hx⟩, p (Itt X.K b) F1 H1 w1 ⟨hz, fun F' H' s1 s2 => ⟨xs, Same.seqT (s1.trans s2) hx, Nat.le_of_eq r.len⟩, fun i F' H' hi s1 s2 => ?_, fun i a F' H' x H'' e2 s1 s2 y => ?_⟩⟩
      · obtain ⟨v, hv, _⟩ := r.get' (List.getElem?_eq_getElem hi)
        exact ⟨xs, v, Same.seqT (s1.trans s2) hx, hv⟩
      · obtain ⟨rfl, y⟩ := y
        obtain ⟨v, hv, rv⟩ := r.get' e2
        have := y xs (Same.seqT (s1.trans s2) hx)
        rw [hv] at this
        cases this
        exact ⟨F', Wd.refl s2, Rp.mono s1 rv⟩
    | er c' fs => simp only [e1] at p; exact p
    | no => simp only [e1] at p; exact p
/-- lo, lo + 1, .. below hi -/
@[irreducible] def rangeL (lo hi : Int) : List Int := (List.range (hi - lo).toNat).map fun i => lo + (i : Nat)
@[irreducible] def rngX (lo hi : Int) : Xc (List Int) := if -(2 ^ 62) ≤ lo ∧ lo < 2 ^ 62 ∧ -(2 ^ 62) ≤ hi ∧ hi < 2 ^ 62 ∧ (hi - lo).toNat ≤ sizeLine then .ok (rangeL lo hi) else .no
theorem rangeL_len (lo hi : Int) : (rangeL lo hi).length = (hi - lo).toNat := by simp [rangeL]
theorem rangeL_get {lo hi : Int} {i : Nat} {a : Int} (h : (rangeL lo hi)[i]? = some a) : a = lo + (i : Nat) ∧ i < (hi - lo).toNat := by
  have hi' : i < (rangeL lo hi).length := (List.getElem?_eq_some_iff.mp h).1
  rw [rangeL_len] at hi'
  unfold rangeL at h
  rw [List.getElem?_map, List.getElem?_range hi'] at h
  exact ⟨(Option.some.inj h).symm, hi'⟩
theorem wk_range {K : PySem.W.Frag} {F : Hp} {lo hi : Int} (hz : (hi - lo).toNat ≤ sizeLine) : Wk K (Itr lo (hi - lo).toNat) F (rangeL lo hi) :=
  ⟨by rw [rangeL_len]; exact hz, fun F' H' _ _ => by rw [rangeL_len]; exact Nat.le_refl _, fun i F' H' h _ _ => by rw [rangeL_len] at h; exact h, fun i a F' H' x H'' e s1 s2 y => by
    obtain ⟨rfl, rfl⟩ := y
    obtain ⟨rfl, _⟩ := rangeL_get e
    exact ⟨F', Wd.refl s2, rfl⟩⟩
theorem fi_range1 {f : γ → Xc Int} (h : FE X c G a f) (hm : X.mg "range" = none) (hg : Gl X "range" := by rfl) (hs : starEach [a] X.env = (false, eval a X.env) :: starEach [] X.env := by rfl) :
    FI X c G tg (.Call (.Name "range" p) [a] [] pos) (fun g => (f g).bind fun i => rngX 0 i) :=
  PI.imp (pi_range1 hg hm (pa_cons h pa_nil hs) (hs := hs)) fun σ H R ⟨F, g, w, q, p⟩ => by
    refine ⟨F, g, w, q, ?_⟩
    cases e1 : f g with
    | ok n =>
      intro v F1 H1 w1 r1
      have r1 : v = .int n := r1
      simp only [e1] at p
      have p : PoI X.K F H R (WE c.W σ) (rngX 0 n) := p
      unfold rngX at p
      by_cases hz : -(2 ^ 62) ≤ (0 : Int) ∧ (0 : Int) < 2 ^ 62 ∧ -(2 ^ 62) ≤ n ∧ n < 2 ^ 62 ∧ (n - 0).toNat ≤ sizeLine
      · rw [if_pos hz] at p
        refine ⟨n, by rw [r1], hz.2.2.1, hz.2.2.2.1, ?_⟩
        have k := p (Itr 0 (n - 0).toNat) F1 H1 w1 (wk_range hz.2.2.2.2)
        rw [Int.sub_zero] at k
        exact k
      · rw [if_neg hz] at p; exact p.elim
    | er c' fs => simp only [e1] at p; exact p
    | no => simp only [e1] at p; exact p
theorem fi_range2 {f1 f2 : γ → Xc Int} (h1 : FE X c G a f1) (h2 : FE X c G b f2) (hm : X.mg "range" = none) (hg : Gl X "range" := by rfl) (hs : starEach [a, b] X.env = (false, eval a X.env) :: starEach [b] X.env := by rfl)
    (hs2 : starEach [b] X.env = (false, eval b X.env) :: starEach [] X.env := by rfl) : FI X c G tg (.Call (.Name "range" p) [a, b] [] pos) (fun g => (f1 g).bind fun i => (f2 g).bind fun j => rngX i j) :=
  PI.imp (pi_range2 hg hm (pa_cons h1 (pa_cons h2 pa_nil hs2) hs) (hs := hs.trans (congrArg _ hs2)) (hs2 := hs2)) fun σ H R ⟨F, g, w, q, p⟩ => by
    refine ⟨F, g, w, q, ?_⟩
    cases e1 : f1 g with
    | ok i =>
      intro v F1 H1 w1 r1
      have r1 : v = .int i := r1
      simp only [e1] at p
      have p : PoI X.K F H R (WE c.W σ) ((f2 g).bind fun j => rngX i j) := p
      refine ⟨F1, g, w.trans w1, G.mono q w1, ?_⟩
      cases e2 : f2 g with
      | ok j =>
        intro u F2 H2 w2 r2
        have r2 : u = .int j := r2
        simp only [e2] at p
        have p : PoI X.K F H R (WE c.W σ) (rngX i j) := p
        unfold rngX at p
        by_cases hz : -(2 ^ 62) ≤ i ∧ i < 2 ^ 62 ∧ -(2 ^ 62) ≤ j ∧ j < 2 ^ 62 ∧ (j - i).toNat ≤ sizeLine
        · rw [if_pos hz] at p
          exact ⟨i, j, by rw [r1, r2], ⟨hz.1, hz.2.1, hz.2.2.1, hz.2.2.2.1⟩, p (Itr i (j - i).toNat) F2 H2 (w1.trans w2) (wk_range hz.2.2.2.2)⟩
        · rw [if_neg hz] at p; exact p.elim
      | er c' fs => simp only [e2] at p; exact ErP.on (show ErP X.K F H (WE c.W σ) c' fs from p) w1
      | no => simp only [e2] at p; exact p
    | er c' fs => simp only [e1] at p; exact p
    | no => simp only [e1] at p; exact p
/-- the signs of a text, one by one -/
@[irreducible] def signs (z : Str) : List Str := z.cps.toList.map fun k => (⟨#[k]⟩ : Str)
end
/-! ### targets -/
section
variable {X : Cx} {γ γ' α β : Type} {G : EnvT γ} {G' : EnvT γ'} [Rp α] [Rp β] {pos : Pos} {x y : Str}
/-- the target tg stores an item -/
def FG (X : Cx) (M : Nat → Bool) (G : EnvT γ) (tg : Expr) (G' : EnvT γ') (vs : List Nat) (ψ : γ → α → γ') : Prop := ∃ t, PG X tg t ∧ ∀ H0 F H σ g v a (Q : St → Hp → Prop), Same F H → G.rel X.K H0 F H σ g → Rp.is X.K F v a →
  (∀ σ', Ag M σ σ' → wipe σ' vs = wipe σ vs → G'.rel X.K H0 F H σ' (ψ g a) → Q σ' H) → t v σ H Q
theorem fg_name (i : Nat) {M : Nat → Bool} {p : Pos} {ψ : γ → α → γ'} [P : Put G i α G' ψ] (hM : M i = true) (hN : X.N.Nodup) (hi : X.N[i]? = some x := by rfl) (hx : Loc X.env.scope x := by first | exact Or.inl rfl | exact Or.inr rfl)
    (hf : X.fn x = true ∨ X.env.scope.names.lookup x = some .local := by first | exact .inl rfl | exact .inr rfl) : FG X M G (.Name x p) G' [i] ψ :=
  ⟨_, pg_name hN hi hx hf, fun H0 F H σ g v a Q s q r k => k _ (Ag.set hM) (by unfold wipe wipe; rw [List.set_set]) (P.put q r)⟩
theorem fg_pair (i j : Nat) {M : Nat → Bool} {p p1 p2 : Pos} {kk} {γ1 : Type} {G1 : EnvT γ1} {ψ1 : γ → α → γ1} {ψ2 : γ1 → β → γ'} [P1 : Put G i α G1 ψ1] [P2 : Put G1 j β G' ψ2] (hM : M i = true ∧ M j = true) (hc : X.calm = true) (hN : X.N.Nodup)
    (hi : X.N[i]? = some x := by rfl) (hx : Loc X.env.scope x := by first | exact Or.inl rfl | exact Or.inr rfl) (hj : X.N[j]? = some y := by rfl) (hy : Loc X.env.scope y := by first | exact Or.inl rfl | exact Or.inr rfl)
    (hf : X.fn x = true ∨ X.env.scope.names.lookup x = some .local := by first | exact .inl rfl | exact .inr rfl) (hf2 : X.fn y = true ∨ X.env.scope.names.lookup y = some .local := by first | exact .inl rfl | exact .inr rfl)
    (pt : PG X (.Tuple [.Name x p1, .Name y p2] kk p) (gTup X.K 2 (gCons (gName i) (gCons (gName j) gNil)))) : FG X M G (.Tuple [.Name x p1, .Name y p2] kk p) G' [i, j] (fun g (a : α × β) => ψ2 (ψ1 g a.1) a.2) :=
  ⟨_, pt, fun H0 F H σ g v a Q s q r k => by
    obtain ⟨b, u, z, rfl, h, r1, r2⟩ := r
    refine ⟨b, [u, z], rfl, Same.seqT s h, rfl, u, [z], rfl, z, [], rfl, rfl, ?_⟩
    refine k _ ((Ag.set hM.1).trans (Ag.set hM.2)) ?_ (P2.put (P1.put q r1) r2)
    show ((((σ.set i (some u)).set j (some z)).set j none).set i none) = (σ.set j none).set i none
    rw [List.set_set]
    by_cases e : i = j
    · subst e; rw [List.set_set, List.set_set, List.set_set]
    · rw [List.set_comm _ _ (fun z => e z.symm), List.set_comm _ _ e, List.set_comm (some u) none e, List.set_set, List.set_comm _ _ (fun z => e z.symm)]⟩
end
/-! ### for -/
def foldX {γ α : Type} (f : γ → α → Xc γ) : List α → γ → Xc γ
  | [], g => .ok g
  | a :: l, g => (f g a).bind (foldX f l)
def forX {γ α ρ : Type} (f : γ → α → Xc (Lp γ ρ)) : List α → γ → Xc (Sum γ ρ)
  | [], g => .ok (.inl g)
  | a :: l, g => (f g a).bind fun t => match t with
    | .ct g' => forX f l g'
    | .bk g' => .ok (.inl g')
    | .rt r => .ok (.inr r)
section
variable {X : Cx} {γ γb α β ρ τ : Type} {G : EnvT γ} {Gb : EnvT γb} [Rp α] {tg iter : Expr} {body : List Stmt} {pos : Pos} {vs : List Nat}
theorem fn_for {c : C1} {ψ : γ → α → γb} {fl : γ → Xc (List α)} {mb : γb → Xc γ} (po : PassesOwn (model X.prog X.w) X.A X.env X.xe) (hi : FI X c.toC0 G tg iter fl) (hg : FG X c.M G tg Gb vs ψ) (hb : FNs X c Gb body G mb)
    (hc : X.calm = true := by rfl) (hs : ∀ x, foldedSetIterable iter X.env x = pure x := by intro _; rfl) : FN X c G (.For tg iter body [] pos) G (fun g => (fl g).bind fun l => foldX (fun g a => mb (ψ g a)) l g) := by
  obtain ⟨t, pg, ht⟩ := hg
  refine PS.imp (ps_for po hc hi pg hb hs) fun D σ H ⟨F, g, w, q, p⟩ => ⟨F, g, w, q, ?_⟩
  cases e1 : fl g with
  | er c' fs => simp only [e1] at p; exact PoN.er p w
  | no => simp only [e1] at p; exact p
  | ok l =>
    intro J F1 H1 w1 wk
    simp only [e1] at p
    have p : PoN X.K c G D F H σ (foldX (fun g a => mb (ψ g a)) l g) := p
    refine ⟨fun i m σ' H' => m = l.length - i ∧ i ≤ l.length ∧ ∃ F' g', Ws c.toC0 F1 F' H' ∧ Ag c.M σ σ' ∧ G.rel X.K c.H0 F' H' σ' g' ∧ PoN X.K c G D F' H' σ' (foldX (fun g a => mb (ψ g a)) (l.drop i) g'),
      ⟨l.length, by simp, Nat.zero_le _, F1, g, Ws.refl (w.trans w1), Ag.refl, G.mono q w1, by simpa using p.on w1.f Ag.refl⟩, ?_⟩
    rintro i m σ' H' ⟨rfl, hi', F', g', ws, ag, q', p'⟩
    by_cases hlt : i < l.length
    · refine .inr ⟨wk.go i F' H' hlt ws.f ws.w.s, fun σ'' H'' => ∃ F' g', Ws c.toC0 F1 F' H'' ∧ Ag c.M σ σ'' ∧ G.rel X.K c.H0 F' H'' σ'' g' ∧ PoN X.K c G D F' H'' σ'' (foldX (fun g a => mb (ψ g a)) (l.drop (i + 1)) g'),
        fun σ'' H'' z => ⟨l.length - (i + 1), by omega, rfl, hlt, z⟩, fun x H'' y => ?_⟩
      obtain ⟨F2, w2, r2⟩ := wk.yld i l[i] F' H' x H'' (List.getElem?_eq_getElem hlt) ws.f ws.w.s y
      refine ht c.H0 F2 H'' σ' g' x l[i] _ w2.s (G.mono q' w2) r2 fun σ2 ag2 _ q2 => ?_
      refine ⟨F2, ψ g' l[i], ws.w.trans w2, q2, ?_⟩
      rw [List.drop_eq_getElem_cons hlt] at p'
      have p' : PoN X.K c G D F' H' σ' ((mb (ψ g' l[i])).bind (foldX (fun g a => mb (ψ g a)) (l.drop (i + 1)))) := p'
      revert p'
      cases mb (ψ g' l[i]) with
      | ok g3 =>
        intro p' σ3 F3 H3 w3 a3 q3
        exact ⟨F3, g3, ⟨(ws.f.trans w2.f).trans w3.f, w3.w⟩, (ag.trans ag2).trans a3, q3, PoN.on (show PoN X.K c G D F' H' σ' (foldX (fun g a => mb (ψ g a)) (l.drop (i + 1)) g3) from p') (w2.f.trans w3.f) (ag2.trans a3)⟩
      | er cc fs => exact fun p' σ3 F3 H3 w3 a3 => p' σ3 F3 H3 ⟨w2.f.trans w3.f, w3.w⟩ (ag2.trans a3)
      | no => exact fun p' => p'
    · have e : i = l.length := by omega
      subst e
      refine .inl ⟨wk.stop F' H' ws.f ws.w.s, ?_⟩
      rw [List.drop_length] at p'
      exact p' σ' F' H' (Ws.refl ws.w) Ag.refl q'
/-- the context of a loop's turn that may leave the loop -/
def cL (c : C2 τ ρ β) (G : EnvT γ) : C2 (Lp γ ρ) ρ γ := { toC1 := c.toC1, O := outL γ ρ, R := c.R, GB := G }
theorem fs_for {c : C2 τ ρ β} {rt : ρ → τ} {ψ : γ → α → γb} {fl : γ → Xc (List α)} {fb : γb → (γ → Xc (Lp γ ρ)) → Xc (Lp γ ρ)} (po : PassesOwn (model X.prog X.w) X.A X.env X.xe) (hi : FI X c.toC0 G tg iter fl) (hg : FG X c.M G tg Gb vs ψ) (hb : FSs X (cL c G) Gb body G fb)
    (hO : ∀ r P B C, P r → c.O.sem (rt r) P B C) (hR' : ∀ r P B C, c.O.sem (rt r) P B C → P r) (hc : X.calm = true := by rfl) (hs : ∀ x, foldedSetIterable iter X.env x = pure x := by intro _; rfl) :
    FS X c G (.For tg iter body [] pos) G (fun g k => (fl g).bind fun l => (forX (fun g a => fb (ψ g a) fun g' => Xc.ok (Lp.ct g')) l g).bind fun t => match t with
      | .inl g' => k g'
      | .inr r => Xc.ok (rt r)) := by
  obtain ⟨t, pg, ht⟩ := hg
  refine PS.imp (ps_for po hc hi pg hb hs) fun D σ H ⟨F, g, k, w, q, d, n⟩ => ⟨F, g, w, q, ?_⟩
  cases e1 : fl g with
  | er c' fs => simp only [e1] at d; exact Done.er d w
  | no => simp only [e1] at d; exact d
  | ok l =>
    intro J F1 H1 w1 wk
    simp only [e1] at d
    let fin : Sum γ ρ → Xc τ := fun t => match t with
      | .inl g' => k g'
      | .inr r => Xc.ok (rt r)
    have d : Done X.K c D F σ ((forX (fun g a => fb (ψ g a) fun g' => Xc.ok (Lp.ct g')) l g).bind fin) := d
    refine ⟨fun i m σ' H' => m = l.length - i ∧ i ≤ l.length ∧ ∃ F' g', Ws c.toC0 F1 F' H' ∧ Ag c.M σ σ' ∧ G.rel X.K c.H0 F' H' σ' g' ∧ Done X.K c D F' σ' ((forX (fun g a => fb (ψ g a) fun g' => Xc.ok (Lp.ct g')) (l.drop i) g').bind fin),
      ⟨l.length, by simp, Nat.zero_le _, F1, g, Ws.refl (w.trans w1), Ag.refl, G.mono q w1, by simpa using d.on w1.f Ag.refl⟩, ?_⟩
    rintro i m σ' H' ⟨rfl, hi', F', g', ws, ag, q', d'⟩
    by_cases hlt : i < l.length
    · refine .inr ⟨wk.go i F' H' hlt ws.f ws.w.s, fun σ'' H'' => ∃ F' g', Ws c.toC0 F1 F' H'' ∧ Ag c.M σ σ'' ∧ G.rel X.K c.H0 F' H'' σ'' g' ∧ Done X.K c D F' σ'' ((forX (fun g a => fb (ψ g a) fun g' => Xc.ok (Lp.ct g')) (l.drop (i + 1)) g').bind fin),
        fun σ'' H'' z => ⟨l.length - (i + 1), by omega, rfl, hlt, z⟩, fun x H'' y => ?_⟩
      obtain ⟨F2, w2, r2⟩ := wk.yld i l[i] F' H' x H'' (List.getElem?_eq_getElem hlt) ws.f ws.w.s y
      refine ht c.H0 F2 H'' σ' g' x l[i] _ w2.s (G.mono q' w2) r2 fun σ2 ag2 _ q2 => ?_
      rw [List.drop_eq_getElem_cons hlt] at d'
      have d' : Done X.K c D F' σ' (((fb (ψ g' l[i]) fun g' => Xc.ok (Lp.ct g')).bind fun t => match t with
        | .ct g' => forX (fun g a => fb (ψ g a) fun g' => Xc.ok (Lp.ct g')) (l.drop (i + 1)) g'
        | .bk g' => .ok (.inl g')
        | .rt r => .ok (.inr r)).bind fin) := d'
      refine ⟨F2, ψ g' l[i], fun g' => Xc.ok (Lp.ct g'), ws.w.trans w2, q2, ?_, fun g3 σ3 F3 H3 w3 a3 q3 d3 => ?_⟩
      · revert d'
        cases fb (ψ g' l[i]) fun g' => Xc.ok (Lp.ct g') with
        | ok t =>
          intro d'
          cases t with
          | ct b =>
            have d' : Done X.K c D F' σ' ((forX (fun g a => fb (ψ g a) fun g' => Xc.ok (Lp.ct g')) (l.drop (i + 1)) b).bind fin) := d'
            intro σ3 F3 H3 w3 a3 q3
            exact ⟨F3, b, ⟨(ws.f.trans w2.f).trans w3.f, w3.w⟩, (ag.trans ag2).trans a3, q3, d'.on (w2.f.trans w3.f) (ag2.trans a3)⟩
          | bk b =>
            have d' : Done X.K c D F' σ' (k b) := d'
            intro σ3 F3 H3 w3 a3 q3
            exact n b σ3 F3 H3 ⟨((w1.f.trans ws.f).trans w2.f).trans w3.f, w3.w⟩ ((ag.trans ag2).trans a3) q3 (d'.on (w2.f.trans w3.f) (ag2.trans a3))
          | rt r =>
            have d' : Done X.K c D F' σ' (Xc.ok (rt r)) := d'
            intro v F3 H3 w3 r3
            exact hR' r _ _ _ d' v F3 H3 ⟨w2.f.trans w3.f, w3.w⟩ r3
        | er cc fs => exact fun d' σ3 F3 H3 w3 a3 => d' σ3 F3 H3 ⟨w2.f.trans w3.f, w3.w⟩ (ag2.trans a3)
        | no => exact fun d' => d'
      · exact d3 σ3 F3 H3 (Ws.refl w3.w) Ag.refl q3
    · have e : i = l.length := by omega
      subst e
      refine .inl ⟨wk.stop F' H' ws.f ws.w.s, ?_⟩
      rw [List.drop_length] at d'
      exact n g' σ' F' H' ⟨w1.f.trans ws.f, ws.w⟩ ag q' d'
theorem fs_break {c : C2 (Lp β ρ) ρ β} {γ' : Type} {G : EnvT γ} {G' : EnvT γ'} {h : γ → β} [S : Sub G c.GB h] (hO : c.O = outL β ρ := by rfl) : FS X c G (.Break pos) G' (fun g _ => Xc.ok (Lp.bk (h g))) :=
  PS.imp ps_break fun D σ H ⟨F, g, k, w, q, d, n⟩ => by
    unfold Done at d
    rw [hO] at d
    exact d σ F H (Ws.refl w) Ag.refl (S.sub q)
theorem fs_cont {c : C2 (Lp β ρ) ρ β} {γ' : Type} {G : EnvT γ} {G' : EnvT γ'} {h : γ → β} [S : Sub G c.GB h] (hO : c.O = outL β ρ := by rfl) : FS X c G (.Continue pos) G' (fun g _ => Xc.ok (Lp.ct (h g))) :=
  PS.imp ps_continue fun D σ H ⟨F, g, k, w, q, d, n⟩ => by
    unfold Done at d
    rw [hO] at d
    exact d σ F H (Ws.refl w) Ag.refl (S.sub q)
end
end FL

/-! FL11: comprehensions. -/
namespace FL
open PySem L2
/-! ### slots forgotten -/
class Wi1 {γ : Type} (G : EnvT γ) (i : Nat) {δ : outParam Type} (G' : outParam (EnvT δ)) (h : outParam (γ → δ)) : Prop where
  wi : ∀ {K H0 F H σ g} (x : Option V), G.rel K H0 F H σ g → G'.rel K H0 F H (σ.set i x) (h g)
  own : ∀ {K H0 F H σ g p} (x : Option V), G.rel K H0 F H σ g → p ∈ G'.own (σ.set i x) → p ∈ G.own σ
section
variable {α β γ δ : Type} [Rp α] [Rp β] (G : EnvT γ) (G' : EnvT δ) (h : γ → δ) (i : Nat)
instance : Wi1 nl i nl (fun g => g) := ⟨fun _ _ => trivial, fun _ _ m => by cases m⟩
instance : Wi1 (va α G) 0 (un G) (fun g => g.2) := ⟨fun x ⟨v, σ', e, _, q⟩ => ⟨x, σ', by subst e; rfl, q⟩, fun x ⟨v, σ', e, _, q⟩ m => by subst e; exact m⟩
instance : Wi1 (un G) 0 (un G) (fun g => g) := ⟨fun x ⟨v, σ', e, q⟩ => ⟨x, σ', by subst e; rfl, q⟩, fun x ⟨v, σ', e, q⟩ m => by subst e; exact m⟩
instance : Wi1 (ow α G) 0 (un G) (fun g => g.2) := ⟨fun x ⟨p, σ', xs, e, _, _, _, _, _, _, q⟩ => ⟨x, σ', by subst e; rfl, q⟩, fun x ⟨p, σ', xs, e, _, _, _, _, _, _, q⟩ m => by subst e; exact List.mem_append_right _ m⟩
instance [W : Wi1 G i G' h] : Wi1 (va α G) (i + 1) (va α G') (fun g => (g.1, h g.2)) := ⟨fun x ⟨v, σ', e, r, q⟩ => ⟨v, σ'.set i x, by subst e; rfl, r, W.wi x q⟩, fun x ⟨v, σ', e, r, q⟩ m => by subst e; exact W.own x q m⟩
instance [W : Wi1 G i G' h] : Wi1 (un G) (i + 1) (un G') (fun g => h g) := ⟨fun x ⟨v, σ', e, q⟩ => ⟨v, σ'.set i x, by subst e; rfl, W.wi x q⟩, fun x ⟨v, σ', e, q⟩ m => by subst e; exact W.own x q m⟩
instance [W : Wi1 G i G' h] : Wi1 (ow α G) (i + 1) (ow α G') (fun g => (g.1, h g.2)) := ⟨fun x ⟨p, σ', xs, e, h0, f, hh, z, r, n, q⟩ => ⟨p, σ'.set i x, xs, by subst e; rfl, h0, f, hh, z, r, fun m => n (W.own x q m), W.wi x q⟩, fun x ⟨p, σ', xs, e, _, _, _, _, _, _, q⟩ m => by
  subst e
  rcases List.mem_append.mp m with m | m
  · exact List.mem_append_left _ m
  · exact List.mem_append_right _ (W.own x q m)⟩
end
class Wip {γ : Type} (G : EnvT γ) (vs : List Nat) {δ : outParam Type} (G' : outParam (EnvT δ)) (h : outParam (γ → δ)) : Prop where
  wi : ∀ {K H0 F H σ g}, G.rel K H0 F H σ g → G'.rel K H0 F H (wipe σ vs) (h g)
instance {γ : Type} (G : EnvT γ) : Wip G [] G (fun g => g) := ⟨fun h => h⟩
instance {γ δ ε : Type} (G : EnvT γ) (G1 : EnvT δ) (G2 : EnvT ε) (i : Nat) (vs : List Nat) (h1 : γ → δ) (h2 : δ → ε) [W : Wip G vs G1 h1] [W1 : Wi1 G1 i G2 h2] : Wip G (i :: vs) G2 (fun g => h2 (h1 g)) := ⟨fun q => W1.wi none (W.wi q)⟩
theorem wipe_set {σ : St} {i : Nat} : ∀ {vs : List Nat}, wipe (σ.set i none) vs = (wipe σ vs).set i none
  | [] => rfl
  | v :: vs => by
    show (wipe (σ.set i none) vs).set v none = ((wipe σ vs).set v none).set i none
    rw [wipe_set]
    by_cases e : i = v
    · subst e; rfl
    · rw [List.set_comm _ _ e]
theorem wipe_wipe {σ : St} : ∀ {vs : List Nat}, wipe (wipe σ vs) vs = wipe σ vs
  | [] => rfl
  | v :: vs => by
    show (wipe ((wipe σ vs).set v none) vs).set v none = (wipe σ vs).set v none
    rw [wipe_set, wipe_wipe, List.set_set]
/-- exceptions do not leave a comprehension -/
def nx {α : Type} (m : Xc α) : Xc α := match m with
  | .ok a => .ok a
  | _ => .no
/-- [f a for a in l if t a] -/
def compX {α β : Type} (t : α → Xc Bool) (f : α → Xc β) : List α → Xc (List β)
  | [] => .ok []
  | a :: l => (nx (t a)).bind fun b => if b = true then (nx (f a)).bind fun y => (compX t f l).bind fun ys => .ok (y :: ys) else compX t f l
/-- the world of a block's code: no exception leaves it -/
abbrev cB (c : C0) : C0 := { c with W := fun _ _ _ _ => False }
section
variable {X : Cx} {γ γb γw α β : Type} {G : EnvT γ} {Gw : EnvT γw} {Gb : EnvT γb} [Rp α] [Rp β] {tg iter elt : Expr} {ifs : List Expr} {pos : Pos} {vs : List Nat} {scope : Scope} {own : List (Str × Nat)} {c : C0}
/-- the target of a block -/
def FGB (X : Cx) (scope : Scope) (G : EnvT γ) (tg : Expr) (G' : EnvT γb) (vs : List Nat) (ψ : γ → α → γb) : Prop := ∃ t, (∀ (s : Shared) (H : Hp) (C : Addr) (cl : List (Str × Addr)) (fp : List Addr), PG (X.blk s H scope (compEnvC scope cl C X.env) fp) tg t) ∧
  ∀ H0 F H σ g v a (Q : St → Hp → Prop), Same F H → G.rel X.K H0 F H σ g → Rp.is X.K F v a → (∀ σ', wipe σ' vs = wipe σ vs → G'.rel X.K H0 F H σ' (ψ g a) → Q σ' H) → t v σ H Q
theorem tO_lc {ψ : γw → α → γb} {h : γ → γw} {fl : γ → Xc (List α)} {ft : γb → Xc Bool} {f : γb → Xc β} {g : TG} [W : Wip G vs Gw h]
    (hg : ∀ H0 F H σ g' v a (Q : St → Hp → Prop), Same F H → Gw.rel X.K H0 F H σ g' → Rp.is X.K F v a → (∀ σ', wipe σ' vs = wipe σ vs → Gb.rel X.K H0 F H σ' (ψ g' a) → Q σ' H) → g v σ H Q) {σ : St} {H : Hp} {Q : VK}
    (p : tO X.K c G (fun g => (fl g).bind fun l => compX (fun a => ft (ψ (h g) a)) (fun a => f (ψ (h g) a)) l) σ H Q) :
    tLc (fun σ H R => ∃ F g, Wd c.F0 c.H0 F H ∧ G.rel X.K c.H0 F H σ g ∧ PoI X.K F H R (WE c.W σ) (fl g)) g (tT X.K (cB c) Gb ft) (tF X.K (cB c) Gb f) vs σ H Q := by
  obtain ⟨F, gg, w, q, p⟩ := p
  refine ⟨F, gg, w, q, ?_⟩
  cases e1 : fl gg with
  | er c' fs => simp only [e1] at p; exact p
  | no => simp only [e1] at p; exact p
  | ok l =>
    simp only [e1] at p
    have p : PoO X.K F H Q (WE c.W σ) (compX (fun a => ft (ψ (h gg) a)) (fun a => f (ψ (h gg) a)) l) := p
    intro J F1 H1 w1 wk D hD
    refine ⟨fun i m H' => m = l.length - i ∧ i ≤ l.length ∧ ∃ F' acc ys, Wd F1 H1 F' H' ∧ F' D = none ∧ H' D = some (.lst acc) ∧ ys.length ≤ i ∧ Al X.K F' acc ys ∧
      (PoO X.K F H Q (WE c.W σ) ((compX (fun a => ft (ψ (h gg) a)) (fun a => f (ψ (h gg) a)) (l.drop i)).bind fun zs => .ok (ys ++ zs))), ⟨l.length, by simp, Nat.zero_le _, F1, [], [], Wd.newO w1.s hD, w1.s.free hD, upd_same, Nat.le_refl _, .nil, ?_⟩, ?_⟩
    · simpa [bind_pure] using p
    rintro i m H' ⟨rfl, hi', F', acc, ys, w2, fD, hD', hy, al, p'⟩
    have HD : H D = none := by
      cases z : H D with
      | none => rfl
      | some o => rw [w1.h _ _ z] at hD; cases hD
    by_cases hlt : i < l.length
    · refine .inr ⟨wk.go i F' H' hlt w2.f w2.s, fun H'' => ∃ F' acc ys, Wd F1 H1 F' H'' ∧ F' D = none ∧ H'' D = some (.lst acc) ∧ ys.length ≤ i + 1 ∧ Al X.K F' acc ys ∧
        (PoO X.K F H Q (WE c.W σ) ((compX (fun a => ft (ψ (h gg) a)) (fun a => f (ψ (h gg) a)) (l.drop (i + 1))).bind fun zs => .ok (ys ++ zs))), fun H'' z => ⟨l.length - (i + 1), by omega, rfl, hlt, z⟩, fun x H'' y => ?_⟩
      obtain ⟨F2, w3, r2⟩ := wk.yld i l[i] F' H' x H'' (List.getElem?_eq_getElem hlt) w2.f w2.s y
      have fD2 : F2 D = none := w3.own fD hD'
      have hD2 : H'' D = some (.lst acc) := w3.h _ _ hD'
      refine hg c.H0 F2 H'' (wipe σ vs) (h gg) x l[i] _ w3.s (W.wi (G.mono q ((w1.trans w2).trans w3))) r2 fun σ2 hw q2 => ⟨by rw [hw, wipe_wipe], ?_⟩
      rw [List.drop_eq_getElem_cons hlt] at p'
      have wt := ((w.trans w1).trans w2).trans w3
      refine ⟨F2, ψ (h gg) l[i], wt, q2, ?_⟩
      cases e2 : ft (ψ (h gg) l[i]) with
      | er c' fs => simp only [compX, e2] at p'; exact p'.elim
      | no => simp only [compX, e2] at p'; exact p'.elim
      | ok b =>
        simp only [compX, e2, nx, bind_ok] at p'
        intro F3 H3 w4
        have fD3 : F3 D = none := w4.own fD2 hD2
        have hD3 : H3 D = some (.lst acc) := w4.h _ _ hD2
        cases b with
        | false =>
          simp only [Bool.false_eq_true, if_false] at p' ⊢
          exact ⟨F3, acc, ys, (w2.trans w3).trans w4, fD3, hD3, by omega, (al.mono w3.f).mono w4.f, p'⟩
        | true =>
          simp only [if_true] at p' ⊢
          refine ⟨F3, ψ (h gg) l[i], wt.trans w4, Gb.mono q2 w4, ?_⟩
          cases e3 : f (ψ (h gg) l[i]) with
          | er c' fs => simp only [e3] at p'; exact p'.elim
          | no => simp only [e3] at p'; exact p'.elim
          | ok z =>
            simp only [e3] at p'
            intro v F4 H4 w5 r5
            have fD4 : F4 D = none := w5.own fD3 hD3
            have hD4 : H4 D = some (.lst acc) := w5.h _ _ hD3
            have wl := wk.len
            refine ⟨acc, hD4, by rw [al.len]; omega, F4, acc ++ [v], ys ++ [z], ((((w2.trans w3).trans w4).trans w5).mutd hD fD4), fD4, upd_same, by simp; omega, (((al.mono w3.f).mono w4.f).mono w5.f).snoc r5, ?_⟩
            revert p'
            generalize compX (fun a => ft (ψ (h gg) a)) (fun a => f (ψ (h gg) a)) (l.drop (i + 1)) = cm
            intro p'
            cases cm with
            | ok zs => simpa [bind_ok] using p'
            | er _ _ => exact p'
            | no => exact p'
    · have e : i = l.length := by omega
      subst e
      refine .inl ⟨wk.stop F' H' w2.f w2.s, ?_⟩
      rw [List.drop_length] at p'
      have p' : PoO X.K F H Q (WE c.W σ) (.ok (ys ++ [])) := p'
      rw [List.append_nil] at p'
      exact p' D acc F' H' (w1.trans w2) HD fD hD' (Nat.le_trans hy wk.len) al
/-- a clause's tests -/
def FTs (X : Cx) (scope : Scope) (c : C0) (G : EnvT γ) (ifs : List Expr) (f : γ → Xc Bool) : Prop := ∀ (s : Shared) (H : Hp) (C : Addr) (cl : List (Str × Addr)) (fp : List Addr), PTs (X.blk s H scope (compEnvC scope cl C X.env) fp) ifs (tT X.K c G f)
theorem fts_nil : FTs X scope c G [] (fun _ => Xc.ok true) := fun s H C cl fp => ⟨fun pins s σ H Q I ⟨F, g, w, q, h⟩ => pts_nil.run pins s σ H Q I (h F H (Wd.refl w.s))⟩
theorem fts_one {e : Expr} {f : γ → Xc Bool} (h : ∀ (s : Shared) (H : Hp) (C : Addr) (cl : List (Str × Addr)) (fp : List Addr), FT (X.blk s H scope (compEnvC scope cl C X.env) fp) c G e f) : FTs X scope c G [e] f := fun s H C cl fp => pts_one (h s H C cl fp)
theorem fo_lc {ψ : γw → α → γb} {h : γ → γw} {fl : γ → Xc (List α)} {ft : γb → Xc Bool} {f : γb → Xc β} [W : Wip G vs Gw h] (hvs : own.map (·.2) = vs) (ok : BlkOk X.N X.env.scope scope own) (hN : X.N.Nodup) (hi : FI X c G tg iter fl) (hg : FGB X scope Gw tg Gb vs ψ)
    (ht : FTs X scope (cB c) Gb ifs ft) (he : ∀ (s : Shared) (H : Hp) (C : Addr) (cl : List (Str × Addr)) (fp : List Addr), FE (X.blk s H scope (compEnvC scope cl C X.env) fp) (cB c) Gb elt f) (hc : X.calm = true := by rfl) (hs : ∀ x, foldedSetIterable iter X.env x = pure x := by intro _; rfl) :
    FO X c G (.ListComp elt [⟨tg, iter, ifs, 0⟩] scope pos) (fun g => (fl g).bind fun l => compX (fun a => ft (ψ (h g) a)) (fun a => f (ψ (h g) a)) l) := by
  subst hvs
  obtain ⟨t, pg, ht'⟩ := hg
  exact PE.imp (pe_lc (te := tF X.K (cB c) Gb f) hc hN hi ok pg ht he hs) fun σ H Q p => tO_lc (W := W) ht' p
theorem fn_setLc {c : C1} {γ' : Type} {G' : EnvT γ'} (k : Nat) {y : Str} {py spos : Pos} {ψ' : γ → List β → γ'} [P : PutO G k β G' ψ'] {ψ : γw → α → γb} {h : γ → γw} {fl : γ → Xc (List α)} {ft : γb → Xc Bool} {f : γb → Xc β} [W : Wip G vs Gw h] (hvs : own.map (·.2) = vs) (hM : c.M k = true) (ok : BlkOk X.N X.env.scope scope own) (hN : X.N.Nodup) (hi : FI X c.toC0 G tg iter fl) (hg : FGB X scope Gw tg Gb vs ψ)
    (ht : FTs X scope (cB c.toC0) Gb ifs ft) (he : ∀ (s : Shared) (H : Hp) (C : Addr) (cl : List (Str × Addr)) (fp : List Addr), FE (X.blk s H scope (compEnvC scope cl C X.env) fp) (cB c.toC0) Gb elt f) (hy : X.N[k]? = some y := by rfl) (hyl : X.env.scope.names.lookup y = some .local := by rfl)
    (hsw : swapsWith (.ListComp elt [⟨tg, iter, ifs, 0⟩] scope pos) (some (.Name y py)) spos.line X.env = pure true := by exact sw_true rfl rfl rfl rfl) (hc : X.calm = true := by rfl) (hs : ∀ x, foldedSetIterable iter X.env x = pure x := by intro _; rfl) :
    FN X c G (.Assign [.Name y py] (.ListComp elt [⟨tg, iter, ifs, 0⟩] scope pos) spos) G' (fun g => ((fl g).bind fun l => compX (fun a => ft (ψ (h g) a)) (fun a => f (ψ (h g) a)) l).bind fun v => Xc.ok (ψ' g v)) := by
  subst hvs
  obtain ⟨t, pg, ht'⟩ := hg
  exact fn_setOL k hM (fun σ H Q p => tO_lc (W := W) ht' p) (ps_setLc (te := tF X.K (cB c.toC0) Gb f) hc hN hy hyl hsw hi ok pg ht he hs)
theorem fgb_name (i : Nat) {x : Str} {p : Pos} {ψ : γ → α → γb} [P : Put G i α Gb ψ] (hN : X.N.Nodup) (hi : X.N[i]? = some x := by rfl) (hx : Loc scope x := by first | exact Or.inl rfl | exact Or.inr rfl)
    (hxe : ∀ C cl, Loc (compEnvC scope cl C X.env).scope x := by intro _ _; first | exact Or.inl rfl | exact Or.inr rfl)
    (hf : ∀ C cl, (scope.names.lookup x == some .cell) = true ∨ (compEnvC scope cl C X.env).scope.names.lookup x = some .local := by intro _ _; first | exact .inl rfl | exact .inr rfl) : FGB X scope G (.Name x p) Gb [i] ψ :=
  ⟨gName i, fun s H C cl fp => pg_name hN hi (hxe C cl) (hf C cl), fun H0 F H σ g v a Q s q r k => k _ (by unfold wipe wipe; rw [List.set_set]) (P.put q r)⟩
end
end FL

/-! FL12: more of expressions and statements. -/
namespace FL
open PySem L2
/-! ### conversions -/
section
variable {X : Cx} {c : C0} {γ α β ρ : Type} {G : EnvT γ} [Rp α] [Rp β] [Rp ρ] {a b d e : Expr} {pos p : Pos}
theorem fe_to {φ : α → β} {fa : γ → Xc α} (hφ : ∀ {K F v a}, Rp.is K F v a → Rp.is K F v (φ a)) (ha : FE X c G e fa) : FE X c G e (fun g => (fa g).bind fun a => Xc.ok (φ a)) :=
  PE.imp ha fun σ H Q ⟨F, g, w, q, h⟩ => by
    refine ⟨F, g, w, q, ?_⟩
    cases e1 : fa g with
    | ok i => simp only [e1] at h; exact fun v F1 H1 w1 r1 => h v F1 H1 w1 (hφ r1)
    | er c' fs => simp only [e1] at h; exact h
    | no => simp only [e1] at h; exact h
theorem fe_from {φ : α → Xc β} {fa : γ → Xc α} (hφ : ∀ {K F v a b}, φ a = .ok b → Rp.is K F v a → Rp.is K F v b) (hn : ∀ a c fs, φ a ≠ .er c fs) (ha : FE X c G e fa) : FE X c G e (fun g => (fa g).bind φ) :=
  PE.imp ha fun σ H Q ⟨F, g, w, q, h⟩ => by
    refine ⟨F, g, w, q, ?_⟩
    cases e1 : fa g with
    | ok i =>
      simp only [e1] at h
      cases e2 : φ i with
      | ok b => intro v F1 H1 w1 r1; simp only [bind_ok, e2] at h; exact h v F1 H1 w1 (hφ e2 r1)
      | er c' fs => exact absurd e2 (hn _ _ _)
      | no => simp only [bind_ok, e2] at h; exact h.elim
    | er c' fs => simp only [e1] at h; exact h
    | no => simp only [e1] at h; exact h
end
class ToD (α : Type) [Rp α] where
  d : α → PyData
  is : ∀ {K F v} {a : α}, Rp.is K F v a → Dp K F v (d a)
instance : ToD Int := ⟨.int, fun h => by have h : _ = V.int _ := h; subst h; exact .int _⟩
instance : ToD Bool := ⟨.bool, fun h => by have h : _ = V.bl _ := h; subst h; exact .bl _⟩
instance : ToD Str := ⟨.str, fun h => by have h : _ = V.str _ := h.1; subst h; exact .str _⟩
instance : ToD Unit := ⟨fun _ => .none, fun h => by have h : _ = V.non := h; subst h; exact .non⟩
instance : ToD PyData := ⟨id, fun h => h.1⟩
theorem al_dp {α : Type} [Rp α] [ToD α] {K : PySem.W.Frag} {F : Hp} {vs : List V} {as : List α} (h : Al K F vs as) : DpAll K F vs (as.map ToD.d) := by
  induction h with
  | nil => exact .nil
  | cons h _ ih => exact .cons (ToD.is h) ih
instance {α : Type} [Rp α] [ToD α] : ToD (Option α) := ⟨fun a => match a with
  | none => .none
  | some a => ToD.d a, fun {K F v a} h => by
    cases a with
    | none => have h : _ = V.non := h; subst h; exact .non
    | some a => exact ToD.is h.2⟩
instance {α : Type} [Rp α] [ToD α] : ToD (List α) := ⟨fun l => .list (l.map ToD.d), fun ⟨p, xs, e, h, z, r⟩ => by subst e; exact .lst h (al_dp r)⟩
instance {α : Type} [Rp α] [ToD α] : ToD (Tu α) := ⟨fun l => .tuple (l.l.map ToD.d), fun ⟨p, xs, e, h, z, r⟩ => by subst e; exact .tup h (al_dp r)⟩
instance {α β : Type} [Rp α] [Rp β] [ToD α] [ToD β] : ToD (α × β) := ⟨fun t => .tuple [ToD.d t.1, ToD.d t.2], fun ⟨p, x, y, e, h, r1, r2⟩ => by subst e; exact .tup h (.cons (ToD.is r1) (.cons (ToD.is r2) .nil))⟩
instance {α β γ : Type} [Rp α] [Rp β] [Rp γ] [ToD α] [ToD β] [ToD γ] : ToD (T3 α β γ) := ⟨fun t => .tuple [ToD.d t.a, ToD.d t.b, ToD.d t.c], fun ⟨p, x, y, z, e, h, r1, r2, r3⟩ => by subst e; exact .tup h (.cons (ToD.is r1) (.cons (ToD.is r2) (.cons (ToD.is r3) .nil)))⟩
instance {α β γ δ : Type} [Rp α] [Rp β] [Rp γ] [Rp δ] [ToD α] [ToD β] [ToD γ] [ToD δ] : ToD (T4 α β γ δ) := ⟨fun t => .tuple [ToD.d t.a, ToD.d t.b, ToD.d t.c, ToD.d t.d], fun ⟨p, x, y, z, u, e, h, r1, r2, r3, r4⟩ => by subst e; exact .tup h (.cons (ToD.is r1) (.cons (ToD.is r2) (.cons (ToD.is r3) (.cons (ToD.is r4) .nil))))⟩
/-- as data -/
@[irreducible] def datX {α : Type} [Rp α] [ToD α] (a : α) : Xc PyData := if SeqAt.shaped (ToD.d a) = true then .ok (ToD.d a) else .no
/-- data as an int, as a tuple -/
@[irreducible] def asI (d : PyData) : Xc Int := match d with
  | .int i => .ok i
  | _ => .no
@[irreducible] def asT (d : PyData) : Xc (Tu PyData) := match d with
  | .tuple l => if l.length ≤ sizeLine ∧ l.all SeqAt.shaped = true then .ok (tu l) else .no
  | _ => .no
theorem dp_al {K : PySem.W.Frag} {F : Hp} : ∀ {ds : List PyData} {vs : List V}, DpAll K F vs ds → ds.all SeqAt.shaped = true → Al K F vs ds
  | [], vs, h, _ => by cases h; exact .nil
  | d :: ds, vs, h, s => by
    cases h with
    | cons h1 h2 =>
      simp only [List.all_cons, Bool.and_eq_true] at s
      exact .cons ⟨h1, s.1⟩ (dp_al h2 s.2)
section
variable {X : Cx} {c : C0} {γ α β ρ : Type} {G : EnvT γ} [Rp α] [Rp β] [Rp ρ] {a b d e : Expr} {pos p p2 : Pos}
theorem fe_dat [ToD α] {fa : γ → Xc α} (ha : FE X c G e fa) : FE X c G e (fun g => (fa g).bind datX) :=
  fe_from (fun {K F v a b} h r => by
    unfold datX at h
    by_cases z : SeqAt.shaped (ToD.d a) = true
    · rw [if_pos z] at h; cases h; exact ⟨ToD.is r, z⟩
    · rw [if_neg z] at h; cases h) (fun a c fs h => by
    unfold datX at h
    by_cases z : SeqAt.shaped (ToD.d a) = true
    · rw [if_pos z] at h; cases h
    · rw [if_neg z] at h; cases h) ha
theorem fe_asI {fa : γ → Xc PyData} (ha : FE X c G e fa) : FE X c G e (fun g => (fa g).bind asI) :=
  fe_from (fun {K F v a b} h r => by
    unfold asI at h
    split at h
    · cases h; obtain ⟨r, _⟩ := r; cases r; exact rfl
    · cases h) (fun a c fs h => by
    unfold asI at h
    split at h <;> cases h) ha
theorem fe_asT {fa : γ → Xc PyData} (ha : FE X c G e fa) : FE X c G e (fun g => (fa g).bind asT) :=
  fe_from (fun {K F v a b} h r => by
    unfold asT at h
    split at h
    · rename_i l
      by_cases z : l.length ≤ sizeLine ∧ l.all SeqAt.shaped = true
      · rw [if_pos z] at h
        cases h
        obtain ⟨r, _⟩ := r
        cases r with
        | tup hq hr => exact ⟨_, _, rfl, hq, z.1, dp_al hr z.2⟩
      · rw [if_neg z] at h; cases h
    · cases h) (fun a c fs h => by
    unfold asT at h
    split at h
    · split at h <;> cases h
    · cases h) ha
/-! == of data -/
@[irreducible] def eqdX {α β : Type} [Rp α] [Rp β] [ToD α] [ToD β] (a : α) (b : β) : Xc Bool := if SeqAt.shaped (ToD.d a) = true ∧ SeqAt.shaped (ToD.d b) = true then .ok (PyData.eqv (ToD.d a) (ToD.d b)) else .no
theorem dp_on {K : PySem.W.Frag} {F H : Hp} {v : V} {d : PyData} (s : Same F H) (h : Dp K F v d) : Dp K H v d := dp_mono s h
theorem fe_eqd [ToD α] [ToD β] {fa : γ → Xc α} {fb : γ → Xc β} {k : Nat} (hr : Room k X.A) (ha : FE X c G a fa) (hb : FE X c G b fb) : FE X c G (.Compare a [.Eq] [b] pos) (fun g => (fa g).bind fun i => (fb g).bind fun j => eqdX i j) :=
  two (fun h1 h2 => pe_cmpR (op_eqD hr.units) h1 h2 (nomark _)) ha hb fun {F H x y i j Q E} s r1 r2 p => by
    unfold eqdX at p
    by_cases z : SeqAt.shaped (ToD.d i) = true ∧ SeqAt.shaped (ToD.d j) = true
    · rw [if_pos z] at p; exact ⟨_, _, dp_mono s (ToD.is r1), dp_mono s (ToD.is r2), z.1, z.2, p.ret s rfl⟩
    · rw [if_neg z] at p; exact p.elim
theorem fe_ned [ToD α] [ToD β] {fa : γ → Xc α} {fb : γ → Xc β} {k : Nat} (hr : Room k X.A) (ha : FE X c G a fa) (hb : FE X c G b fb) : FE X c G (.Compare a [.NotEq] [b] pos) (fun g => (fa g).bind fun i => (fb g).bind fun j => (eqdX i j).bind fun t => Xc.ok (!t)) :=
  two (fun h1 h2 => pe_cmpR (op_neD hr.units) h1 h2 (nomark _)) ha hb fun {F H x y i j Q E} s r1 r2 p => by
    unfold eqdX at p
    by_cases z : SeqAt.shaped (ToD.d i) = true ∧ SeqAt.shaped (ToD.d j) = true
    · rw [if_pos z] at p; exact ⟨_, _, dp_mono s (ToD.is r1), dp_mono s (ToD.is r2), z.1, z.2, p.ret s rfl⟩
    · rw [if_neg z] at p; exact p.elim
theorem ft_eqd [ToD α] [ToD β] {fa : γ → Xc α} {fb : γ → Xc β} {k : Nat} (hr : Room k X.A) (ha : FE X c G a fa) (hb : FE X c G b fb) : FT X c G (.Compare a [.Eq] [b] pos) (fun g => (fa g).bind fun i => (fb g).bind fun j => eqdX i j) :=
  twoT (fun h1 h2 => pt_cmpR (op_eqD hr.units) h1 h2 (nomark _)) ha hb fun {F H x y i j Q E} s r1 r2 p => by
    unfold eqdX at p
    by_cases z : SeqAt.shaped (ToD.d i) = true ∧ SeqAt.shaped (ToD.d j) = true
    · rw [if_pos z] at p; exact ⟨_, _, dp_mono s (ToD.is r1), dp_mono s (ToD.is r2), z.1, z.2, _, rfl, p.ret s⟩
    · rw [if_neg z] at p; exact p.elim
theorem ft_ned [ToD α] [ToD β] {fa : γ → Xc α} {fb : γ → Xc β} {k : Nat} (hr : Room k X.A) (ha : FE X c G a fa) (hb : FE X c G b fb) : FT X c G (.Compare a [.NotEq] [b] pos) (fun g => (fa g).bind fun i => (fb g).bind fun j => (eqdX i j).bind fun t => Xc.ok (!t)) :=
  twoT (fun h1 h2 => pt_cmpR (op_neD hr.units) h1 h2 (nomark _)) ha hb fun {F H x y i j Q E} s r1 r2 p => by
    unfold eqdX at p
    by_cases z : SeqAt.shaped (ToD.d i) = true ∧ SeqAt.shaped (ToD.d j) = true
    · rw [if_pos z] at p; exact ⟨_, _, dp_mono s (ToD.is r1), dp_mono s (ToD.is r2), z.1, z.2, _, rfl, p.ret s⟩
    · rw [if_neg z] at p; exact p.elim
/-! lengths, places -/
instance {α β : Type} [Rp α] [Rp β] : HasLen (α × β) := ⟨fun _ => 2, fun {K F H v a} s h => by obtain ⟨q, x, y, e, hq, _⟩ := h; subst e; exact .inr ⟨_, Same.seqT s hq, rfl⟩⟩
instance {α β γ : Type} [Rp α] [Rp β] [Rp γ] : HasLen (T3 α β γ) := ⟨fun _ => 3, fun {K F H v a} s h => by obtain ⟨q, x, y, z, e, hq, _⟩ := h; subst e; exact .inr ⟨_, Same.seqT s hq, rfl⟩⟩
theorem fe_ixP {fa : γ → Xc (α × α)} {fi : γ → Xc Int} (ha : FE X c G a fa) (hb : FE X c G b fi) (hs : PlainIx b := by exact fun _ _ => rfl) : FE X c G (.Subscript a b pos) (fun g => (fa g).bind fun t => (fi g).bind fun i => getX [t.1, t.2] i) :=
  two (fun h1 h2 => pe_ix ix_tup h1 h2 hs) ha hb fun {F H v u t i Q E} s r1 r2 h => by
    obtain ⟨q, x, y, e, hq, ra, rb⟩ := r1
    have r2 : u = .int i := r2
    subst r2
    unfold getX at h
    cases e2 : atI [t.1, t.2] i with
    | none => rw [e2] at h; exact h.elim
    | some z =>
      rw [e2] at h
      obtain ⟨w', hw, rw'⟩ := atI_al (.cons ra (.cons rb .nil)) e2
      exact ⟨q, _, i, w', e, rfl, Same.seqT s hq, hw, h.ret s rw'⟩
/-! list(..), text times int -/
theorem fo_list {fa : γ → Xc (List α)} (ha : FE X c G a fa) (hm : X.mg "list" = none) (hg : Gl X "list" := by rfl) (hs : starEach [a] X.env = (false, eval a X.env) :: starEach [] X.env := by rfl) :
    FO X c G (.Call (.Name "list" p) [a] [] pos) (fun g => (fa g).bind fun l => Xc.ok l) :=
  PE.imp (pe_callTy call_list_of hg hm (by decide +kernel) (pa_cons ha pa_nil hs) (he := hs)) fun σ H Q ⟨F, g, w, q, h⟩ => by
    refine ⟨F, g, w, q, ?_⟩
    cases e1 : fa g with
    | ok l =>
      simp only [e1] at h
      rintro v F1 H1 w1 ⟨b, xs, rfl, hx, hz, r⟩
      exact ⟨b, xs, rfl, .inl (Same.seq w1.s hx), fun l' hl => h l' xs F1 _ (w1.trans (Wd.newO w1.s hl)) (w1.h.free hl) (w1.s.free hl) upd_same hz r⟩
    | er c' fs => simp only [e1] at h; exact h
    | no => simp only [e1] at h; exact h
theorem fo_listT {fa : γ → Xc (Tu α)} (ha : FE X c G a fa) (hm : X.mg "list" = none) (hg : Gl X "list" := by rfl) (hs : starEach [a] X.env = (false, eval a X.env) :: starEach [] X.env := by rfl) :
    FO X c G (.Call (.Name "list" p) [a] [] pos) (fun g => (fa g).bind fun l => Xc.ok l.l) :=
  PE.imp (pe_callTy call_list_of hg hm (by decide +kernel) (pa_cons ha pa_nil hs) (he := hs)) fun σ H Q ⟨F, g, w, q, h⟩ => by
    refine ⟨F, g, w, q, ?_⟩
    cases e1 : fa g with
    | ok l =>
      simp only [e1] at h
      rintro v F1 H1 w1 ⟨b, xs, rfl, hx, hz, r⟩
      exact ⟨b, xs, rfl, .inr (Same.seqT w1.s hx), fun l' hl => h l' xs F1 _ (w1.trans (Wd.newO w1.s hl)) (w1.h.free hl) (w1.s.free hl) upd_same hz r⟩
    | er c' fs => simp only [e1] at h; exact h
    | no => simp only [e1] at h; exact h
instance (x : Str) (n : Int) : Decidable (MulOk x n) := by unfold MulOk; infer_instance
@[irreducible] def mulS (x : Str) (n : Int) : Xc Str := if MulOk x n ∧ (Txt.mul x n).length ≤ sizeLine then .ok (Txt.mul x n) else .no
theorem op_mulS : OpR X (binaryOp .Mult) (fun x y H Q => ∃ z n, x = .str z ∧ y = .int n ∧ MulOk z n ∧ Q (.str (Txt.mul z n)) H) := by
  intro pins s σ H x y v u Q I rx ry h
  obtain ⟨i, j, rfl, rfl, hz, q⟩ := h
  obtain ⟨t, rfl⟩ := rx
  obtain ⟨t', rfl⟩ := ry
  exact PySem.SB.mul hz fun t' k => ⟨.str _, H, I.tok _, ⟨_, rfl⟩, q⟩
theorem fe_mulS {fa : γ → Xc Str} {fb : γ → Xc Int} (ha : FE X c G a fa) (hb : FE X c G b fb) : FE X c G (.BinOp a .Mult b pos) (fun g => (fa g).bind fun i => (fb g).bind fun j => mulS i j) :=
  two (fun h1 h2 => pe_op op_mulS h1 h2) ha hb fun {F H x y i j Q E} s r1 r2 p => by
    unfold mulS at p
    by_cases h : MulOk i j ∧ (Txt.mul i j).length ≤ sizeLine
    · rw [if_pos h] at p; exact ⟨_, _, r1.1, r2, h.1, p.ret s ⟨rfl, h.2⟩⟩
    · rw [if_neg h] at p; exact p.elim
/-! a <= b <= c -/
theorem fe_chainLe {f1 f2 f3 : γ → Xc Int} (ha : FE X c G a f1) (hb : FE X c G b f2) (hd : FE X c G d f3) (hm : lastMarks [.LtE, .LtE] [b, d] = false := by with_unfolding_all rfl) :
    FE X c G (.Compare a [.LtE, .LtE] [b, d] pos) (fun g => (f1 g).bind fun i => (f2 g).bind fun j => if i ≤ j then (f3 g).bind fun k => Xc.ok (decide (j ≤ k)) else Xc.ok false) :=
  PE.imp (pe_chain op_le op_le ha hb hd hm) fun σ H Q ⟨F, g, w, q, p⟩ => by
    refine ⟨F, g, w, q, ?_⟩
    cases e1 : f1 g with
    | ok i =>
      intro v F1 H1 w1 r1
      simp only [e1] at p
      have p : Po X.K F H Q (WE c.W σ) ((f2 g).bind fun j => if i ≤ j then (f3 g).bind fun k => Xc.ok (decide (j ≤ k)) else Xc.ok false) := p
      refine ⟨F1, g, w.trans w1, G.mono q w1, ?_⟩
      cases e2 : f2 g with
      | ok j =>
        intro u F2 H2 w2 r2
        simp only [e2] at p
        have p : Po X.K F H Q (WE c.W σ) (if i ≤ j then (f3 g).bind fun k => Xc.ok (decide (j ≤ k)) else Xc.ok false) := p
        refine ⟨i, j, r1, r2, decide (i ≤ j), rfl, ?_⟩
        by_cases hij : i ≤ j
        · rw [if_pos hij] at p
          rw [if_pos (decide_eq_true hij)]
          refine ⟨F2, g, (w.trans w1).trans w2, G.mono (G.mono q w1) w2, ?_⟩
          cases e3 : f3 g with
          | ok k =>
            intro z F3 H3 w3 r3
            simp only [e3] at p
            exact ⟨j, k, r2, r3, (Po.on p ((w1.trans w2).trans w3)).ret w3.s rfl⟩
          | er c' fs => simp only [e3] at p; exact ErP.on (show ErP X.K F H (WE c.W σ) c' fs from p) (w1.trans w2)
          | no => simp only [e3] at p; exact p
        · rw [if_neg hij] at p
          rw [if_neg (by simpa using hij)]
          exact (Po.on p (w1.trans w2)).ret w2.s rfl
      | er c' fs => simp only [e2] at p; exact ErP.on (show ErP X.K F H (WE c.W σ) c' fs from p) w1
      | no => simp only [e2] at p; exact p
    | er c' fs => simp only [e1] at p; exact p
    | no => simp only [e1] at p; exact p
theorem ft_chainLe {f1 f2 f3 : γ → Xc Int} (ha : FE X c G a f1) (hb : FE X c G b f2) (hd : FE X c G d f3) (hm : lastMarks [.LtE, .LtE] [b, d] = false := by with_unfolding_all rfl) :
    FT X c G (.Compare a [.LtE, .LtE] [b, d] pos) (fun g => (f1 g).bind fun i => (f2 g).bind fun j => if i ≤ j then (f3 g).bind fun k => Xc.ok (decide (j ≤ k)) else Xc.ok false) :=
  PT.imp (pt_chain op_le op_le ha hb hd hm) fun σ H Q ⟨F, g, w, q, p⟩ => by
    refine ⟨F, g, w, q, ?_⟩
    cases e1 : f1 g with
    | ok i =>
      intro v F1 H1 w1 r1
      simp only [e1] at p
      have p : PoB X.K F H Q (WE c.W σ) ((f2 g).bind fun j => if i ≤ j then (f3 g).bind fun k => Xc.ok (decide (j ≤ k)) else Xc.ok false) := p
      refine ⟨F1, g, w.trans w1, G.mono q w1, ?_⟩
      cases e2 : f2 g with
      | ok j =>
        intro u F2 H2 w2 r2
        simp only [e2] at p
        have p : PoB X.K F H Q (WE c.W σ) (if i ≤ j then (f3 g).bind fun k => Xc.ok (decide (j ≤ k)) else Xc.ok false) := p
        refine ⟨i, j, r1, r2, decide (i ≤ j), rfl, ?_⟩
        by_cases hij : i ≤ j
        · rw [if_pos hij] at p
          rw [if_pos (decide_eq_true hij)]
          refine ⟨F2, g, (w.trans w1).trans w2, G.mono (G.mono q w1) w2, ?_⟩
          cases e3 : f3 g with
          | ok k =>
            intro z F3 H3 w3 r3
            simp only [e3] at p
            exact ⟨j, k, r2, r3, _, rfl, (PoB.on p ((w1.trans w2).trans w3)).ret w3.s⟩
          | er c' fs => simp only [e3] at p; exact ErP.on (show ErP X.K F H (WE c.W σ) c' fs from p) (w1.trans w2)
          | no => simp only [e3] at p; exact p
        · rw [if_neg hij] at p
          rw [if_neg (by simpa using hij)]
          exact ⟨_, rfl, (PoB.on p (w1.trans w2)).ret w2.s⟩
      | er c' fs => simp only [e2] at p; exact ErP.on (show ErP X.K F H (WE c.W σ) c' fs from p) w1
      | no => simp only [e2] at p; exact p
    | er c' fs => simp only [e1] at p; exact p
    | no => simp only [e1] at p; exact p
end
/-! ### the signs of a text -/
section
variable {X : Cx} {c : C0} {γ α β ρ : Type} {G : EnvT γ} [Rp α] [Rp β] [Rp ρ] {a b d e tg : Expr} {pos p : Pos}
theorem fi_str {f : γ → Xc Str} (h : FE X c G e f) : FI X c G tg e (fun g => (f g).bind fun z => Xc.ok (signs z)) :=
  PI.imp (pi_str h) fun σ H R ⟨F, g, w, q, p⟩ => by
    refine ⟨F, g, w, q, ?_⟩
    cases e1 : f g with
    | ok z =>
      rintro v F1 H1 w1 ⟨rfl, hz⟩
      simp only [e1] at p
      have len : (signs z).length = z.cps.size := by simp [signs]
      refine ⟨z, rfl, p (Its z) F1 H1 w1 ⟨by rw [len]; exact hz, fun F' H' s1 s2 => by rw [len]; exact Nat.le_refl _, fun i F' H' hi s1 s2 => by rw [len] at hi; exact hi, fun i a F' H' x H'' e2 s1 s2 y => ?_⟩⟩
      obtain ⟨rfl, c, hc, rfl⟩ := y
      have : a = (⟨#[c]⟩ : Str) := by
        unfold signs at e2
        rw [List.getElem?_map] at e2
        rw [show z.cps.toList[i]? = some c by simpa using hc] at e2
        exact (Option.some.inj e2).symm
      subst this
      exact ⟨F', Wd.refl s2, rfl, one_le_line⟩
    | er c' fs => simp only [e1] at p; exact p
    | no => simp only [e1] at p; exact p
end
/-! ### returns of a list of one's own; dead code; lending for good -/
section
variable {X : Cx} {τ ρ β γ γ' γ1 γ2 δ α : Type} {c : C2 τ ρ β} {G : EnvT γ} {G' : EnvT γ'} {G1 : EnvT γ1} {G2 : EnvT γ2} {a b e : Expr} {st : Stmt} {sts : List Stmt} {pos p p2 : Pos} {x : Str}
theorem fs_retVG (i : Nat) {r : Rp α} {π : γ → List α} {put : γ → List α → γ} [A : AtO G i α r π put] {c : C2 τ (List α) β} {rt : List α → τ} (hO : c.O.ret = rt) (hR : c.R = rtO α) (hN : X.N[i]? = some x)
    (hv : Vis X.env.scope x) (hd : (x == ("__debug__" : Str)) = false) (hcd : (x == ("__classdict__" : Str)) = false) : FS X c G (.Return (some (.Name x p)) pos) G' (fun g _ => Xc.ok (rt (π g))) :=
  PS.imp (ps_ret (pe_var hN hv hd hcd)) fun D σ H ⟨F, g, k, w, q, d, n⟩ => by
    obtain ⟨p, xs, e1, m, hp, z, al⟩ := A.get q
    obtain ⟨h0, hf, _⟩ := G.al q m
    subst hO
    exact ⟨.ref p, e1, c.O.hret d _ F H (Ws.refl w) (by rw [hR]; exact ⟨p, xs, rfl, h0, hf, hp, z, al⟩)⟩
theorem fs_retV (i : Nat) {r : Rp α} {π : γ → List α} {put : γ → List α → γ} [A : AtO G i α r π put] {c : C2 (List α) (List α) Unit} (hO : c.O.ret = id := by rfl) (hR : c.R = rtO α := by rfl) (hN : X.N[i]? = some x := by rfl)
    (hv : Vis X.env.scope x := by first | exact Or.inl rfl | exact Or.inr (Or.inl rfl) | exact Or.inr (Or.inr rfl)) (hd : (x == ("__debug__" : Str)) = false := by decide) (hcd : (x == ("__classdict__" : Str)) = false := by decide) :
    FS X c G (.Return (some (.Name x p)) pos) G' (fun g _ => Xc.ok (π g)) := fs_retVG i hO hR hN hv hd hcd
theorem fss_dead : FSs X c G sts G' (fun _ _ => Xc.no) := ⟨fun pins s σ H D I ⟨F, g, k, w, q, d, n⟩ => d.elim⟩
theorem fss_lend {f : δ → (γ' → Xc τ) → Xc τ} {h : γ → δ} {Gl : EnvT δ} [B : Bor G Gl h] (hs : FSs X c Gl sts G' f) : FSs X c G sts G' (fun g k => f (h g) k) :=
  PSs.imp hs fun D σ H ⟨F, g, k, w, q, d, n⟩ => by
    obtain ⟨F1, w1, q1, _, s1⟩ := lend (B := B) w q
    exact ⟨F1, h g, k, w1, q1, d.on s1 Ag.refl, fun g' σ' F' H' w2 a2 q2 d2 => n g' σ' F' H' ⟨s1.trans w2.f, w2.w⟩ a2 q2 d2⟩
end
end FL

/-! FL13: try .. except; isinstance of what was caught; targets of three. -/
namespace FL
open PySem L2
/-! ### slots of which nothing is known any more -/
def setAll (σ : St) (f : Nat → Option V) : List Nat → St
  | [] => σ
  | v :: vs => (setAll σ f vs).set v (f v)
class Fgt {γ : Type} (G : EnvT γ) (vs : List Nat) {δ : outParam Type} (G' : outParam (EnvT δ)) (h : outParam (γ → δ)) : Prop where
  fg : ∀ {K H0 F H σ g} (f : Nat → Option V), G.rel K H0 F H σ g → G'.rel K H0 F H (setAll σ f vs) (h g)
instance {γ : Type} (G : EnvT γ) : Fgt G [] G (fun g => g) := ⟨fun _ h => h⟩
instance {γ δ ε : Type} (G : EnvT γ) (G1 : EnvT δ) (G2 : EnvT ε) (i : Nat) (vs : List Nat) (h1 : γ → δ) (h2 : δ → ε) [W : Fgt G vs G1 h1] [W1 : Wi1 G1 i G2 h2] : Fgt G (i :: vs) G2 (fun g => h2 (h1 g)) := ⟨fun f q => W1.wi (f i) (W.fg f q)⟩
theorem setAll_len {σ : St} {f : Nat → Option V} : ∀ {vs : List Nat}, (setAll σ f vs).length = σ.length
  | [] => rfl
  | v :: vs => by show ((setAll σ f vs).set v (f v)).length = _; rw [List.length_set, setAll_len]
theorem setAll_get {σ : St} {f : Nat → Option V} {j : Nat} : ∀ {vs : List Nat}, j < σ.length → (setAll σ f vs)[j]? = if j ∈ vs then some (f j) else σ[j]?
  | [], _ => by simp [setAll]
  | v :: vs, h => by
    show ((setAll σ f vs).set v (f v))[j]? = _
    by_cases e : v = j
    · subst e
      rw [List.getElem?_set_self (by rw [setAll_len]; exact h)]
      simp
    · rw [List.getElem?_set_ne e, setAll_get h]
      by_cases m : j ∈ vs
      · rw [if_pos m, if_pos (List.mem_cons_of_mem _ m)]
      · rw [if_neg m, if_neg (by simp only [List.mem_cons, not_or]; exact ⟨fun z => e z.symm, m⟩)]
def mOf (vs : List Nat) : Nat → Bool := fun i => decide (i ∈ vs)
theorem ag_setAll {vs : List Nat} {σ σ' : St} (a : Ag (mOf vs) σ σ') : σ' = setAll σ (fun j => σ'[j]?.join) vs := by
  apply List.ext_getElem?
  intro j
  by_cases hj : j < σ.length
  · rw [setAll_get hj]
    by_cases m : j ∈ vs
    · rw [if_pos m]
      have h' : j < σ'.length := by rw [a.len]; exact hj
      rw [List.getElem?_eq_getElem h']
      rfl
    · rw [if_neg m]
      exact a.at_ j (by unfold mOf; simp [m])
  · rw [List.getElem?_eq_none (by rw [a.len]; omega), List.getElem?_eq_none (by rw [setAll_len]; omega)]
/-- a slot with just this value -/
def xv (v : V) {γ : Type} (G : EnvT γ) : EnvT γ where
  rel := fun K H0 F H σ g => ∃ σ', σ = some v :: σ' ∧ G.rel K H0 F H σ' g
  own := fun σ => G.own σ.tail
  mono := fun ⟨σ', e, h⟩ w => ⟨σ', e, G.mono h w⟩
  mu := fun ⟨σ', e, h⟩ n => ⟨σ', e, G.mu h (by subst e; exact n)⟩
  al := fun ⟨σ', e, h⟩ n => G.al h (by subst e; exact n)
class PutX {γ : Type} (G : EnvT γ) (i : Nat) (v : V) {δ : outParam Type} (G' : outParam (EnvT δ)) (h : outParam (γ → δ)) : Prop where
  put : ∀ {K H0 F H σ g}, G.rel K H0 F H σ g → G'.rel K H0 F H (σ.set i (some v)) (h g)
  own : ∀ {K H0 F H σ g p}, G.rel K H0 F H σ g → p ∈ G'.own (σ.set i (some v)) → p ∈ G.own σ
section
variable {α β γ δ : Type} [Rp α] [Rp β] (G : EnvT γ) (G' : EnvT δ) (h : γ → δ) (i : Nat) (v : V)
instance : PutX (un G) 0 v (xv v G) (fun g => g) := ⟨fun ⟨u, σ', e, q⟩ => ⟨σ', by subst e; rfl, q⟩, fun ⟨u, σ', e, q⟩ m => by subst e; exact m⟩
instance : PutX (va α G) 0 v (xv v G) (fun g => g.2) := ⟨fun ⟨u, σ', e, _, q⟩ => ⟨σ', by subst e; rfl, q⟩, fun ⟨u, σ', e, _, q⟩ m => by subst e; exact m⟩
instance [W : PutX G i v G' h] : PutX (va α G) (i + 1) v (va α G') (fun g => (g.1, h g.2)) := ⟨fun ⟨u, σ', e, r, q⟩ => ⟨u, σ'.set i _, by subst e; rfl, r, W.put q⟩, fun ⟨u, σ', e, r, q⟩ m => by subst e; exact W.own q m⟩
instance [W : PutX G i v G' h] : PutX (un G) (i + 1) v (un G') (fun g => h g) := ⟨fun ⟨u, σ', e, q⟩ => ⟨u, σ'.set i _, by subst e; rfl, W.put q⟩, fun ⟨u, σ', e, q⟩ m => by subst e; exact W.own q m⟩
instance [W : PutX G i v G' h] : PutX (ow α G) (i + 1) v (ow α G') (fun g => (g.1, h g.2)) := ⟨fun ⟨p, σ', xs, e, h0, f, hh, z, r, n, q⟩ => ⟨p, σ'.set i _, xs, by subst e; rfl, h0, f, hh, z, r, fun m => n (W.own q m), W.put q⟩, fun ⟨p, σ', xs, e, _, _, _, _, _, _, q⟩ m => by
  subst e
  rcases List.mem_append.mp m with m | m
  · exact List.mem_append_left _ m
  · exact List.mem_append_right _ (W.own q m)⟩
end
class AtX {γ : Type} (G : EnvT γ) (i : Nat) (v : outParam V) : Prop where
  get : ∀ {K H0 F H σ g}, G.rel K H0 F H σ g → σ[i]? = some (some v)
section
variable {α γ : Type} [Rp α] (G : EnvT γ) (i : Nat) (v u : V)
instance : AtX (xv v G) 0 v := ⟨fun ⟨σ', e, q⟩ => by subst e; rfl⟩
instance [A : AtX G i v] : AtX (va α G) (i + 1) v := ⟨fun ⟨_, σ', e, _, q⟩ => by subst e; exact A.get q⟩
instance [A : AtX G i v] : AtX (un G) (i + 1) v := ⟨fun ⟨_, σ', e, q⟩ => by subst e; exact A.get q⟩
instance [A : AtX G i v] : AtX (xv u G) (i + 1) v := ⟨fun ⟨σ', e, q⟩ => by subst e; exact A.get q⟩
instance [A : AtX G i v] : AtX (ow α G) (i + 1) v := ⟨fun ⟨p, σ', xs, e, _, _, _, _, _, _, q⟩ => by subst e; exact A.get q⟩
end
instance {α γ : Type} [r : Rp α] (G : EnvT γ) (i : Nat) (π : γ → α) (v : V) [a : At G i α r π] : At (xv v G) (i + 1) α r (fun g => π g) := ⟨fun ⟨σ', e, q⟩ => by
  obtain ⟨u, e2, q2⟩ := a.get q
  exact ⟨u, by subst e; exact e2, q2⟩⟩
instance subXvUn {γ γ' : Type} (G : EnvT γ) (G' : EnvT γ') (h : γ → γ') (v : V) [S : Sub G G' h] : Sub (xv v G) (un G') (fun g => h g) := ⟨fun ⟨σ', e, q⟩ => ⟨_, σ', e, S.sub q⟩, fun ⟨σ', e, q⟩ m => by subst e; exact S.own q m⟩
/-! ### try .. except x as n -/
def outT {τ ρ β : Type} (γb : Type) (O : Out τ ρ β) (g0 : Option γb) : Out (Sum γb τ) ρ β := ⟨fun t P B C => match t with
  | .inl g => some g = g0
  | .inr t => O.sem t P B C, fun {t P P' B B' C C'} h1 h2 h3 p => by cases t with
  | inl g => exact p
  | inr t => exact O.mono h1 h2 h3 p, fun r => .inr (O.ret r), fun {r P B C} p => O.hret p⟩
def cT {τ ρ β : Type} {γb : Type} (c : C2 τ ρ β) (M : Nat → Bool) (W : WX) (g0 : Option γb) : C2 (Sum γb τ) ρ β := { F0 := c.F0, H0 := c.H0, W := W, M := M, O := outT γb c.O g0, R := c.R, GB := c.GB }
def joinM {γb τ : Type} (m : Xc (Sum γb τ)) (k : γb → Xc τ) : Xc τ := m.bind fun t => match t with
  | .inl g => k g
  | .inr t => .ok t
def catM {τ : Type} (catch_ : Str → Option Bool) (m : Xc τ) (h : Str → Xc τ) : Xc τ := match m with
  | .ok t => .ok t
  | .er cc fs => (match catch_ cc with
    | some true => if fs.isEmpty = true then h cc else .no
    | some false => .er cc fs
    | none => .no)
  | .no => .no
/-- an environment without lists of one's own: it leans on the frozen heap alone -/
class Frz {γ : Type} (G : EnvT γ) : Prop where
  fz : ∀ {K H0 F H F' H' σ g}, G.rel K H0 F H σ g → Same F F' → G.rel K H0 F' H' σ g
instance : Frz nl := ⟨fun h _ => h⟩
instance {α γ : Type} [Rp α] (G : EnvT γ) [Z : Frz G] : Frz (va α G) := ⟨fun ⟨v, σ', e, r, q⟩ s => ⟨v, σ', e, Rp.mono s r, Z.fz q s⟩⟩
instance {γ : Type} (G : EnvT γ) [Z : Frz G] : Frz (un G) := ⟨fun ⟨v, σ', e, q⟩ s => ⟨v, σ', e, Z.fz q s⟩⟩
section
variable {X : Cx} {τ ρ β γ γ' γf γh : Type} {c : C2 τ ρ β} {G : EnvT γ} {G' : EnvT γ'} {Gf : EnvT γf} {x n : Str} {i : Nat} {body suite : List Stmt} {b₀ : Stmt} {np pos pos' : Pos} {vs : List Nat} {cv : Value}
theorem fs_tryAs {Gh : Addr → EnvT γh} {catch_ : Str → Option Bool} {hf : γ → γf} {hp : γf → γh} [FG : Fgt G vs Gf hf] [FZ : Frz Gf] [PX : ∀ a, PutX Gf i (.ref a) (Gh a) hp] {fb : γ → (γ' → Xc (Sum γ' τ)) → Xc (Sum γ' τ)} {fh : Str → γh → (γ' → Xc (Sum γ' τ)) → Xc (Sum γ' τ)}
    [WJ : Wi1 G' i G' fun g => g] [WB : Wi1 c.GB i c.GB fun g => g] (tk : Takes X c.W) (hc : Names X x cv) (hx : ∀ cc b, catch_ cc = some b → PySem.W.exmOne X.K (.ref (He.ga X.K cc)) cv = some b) (hN : X.N.Nodup)
    (hb : ∀ W pn xe g0, Takes (X.tr pn xe) W → PassesOwn (model X.prog X.w) X.A X.env xe → FSs (X.tr pn xe) (cT c (mOf vs) W g0) G body G' fb)
    (hh : ∀ a oe cc pn g0, catch_ cc = some true → Zc (.ref (He.ga X.K cc)) none oe → (∃ vs, oe.data = .fields vs) → FSs (X.suite a ((a, oe) :: pn)) (cT c c.M c.W g0) (Gh a) (b₀ :: suite) G' (fh cc))
    (hi : X.N[i]? = some n := by rfl) (hln : X.env.kindOf n = some .local := by rfl) (hvM : ∀ j ∈ vs, c.M j = true := by intro _ _; rfl) (hiM : c.M i = true := by rfl) (hs : X.stack = X.env :: X.outer := by rfl) (hfr : X.env.frame = some X.env.locals := by rfl) :
    FS X c G (.Try body [.ExceptHandler (some (.Name x np)) (some n) (b₀ :: suite) pos'] [] [] pos) G' (fun g k => joinM (catM catch_ (fb g fun g' => Xc.ok (.inl g')) fun cc => fh cc (hp (hf g)) fun g' => Xc.ok (.inl g')) k) :=
  PS.imp (ps_try_as (tb := fun W D σ H => ∃ g0, tS X.K (cT c (mOf vs) W g0) G G' fb D σ H) (ts := fun a cls d D σ H => ∃ cc g0, cls = .ref (He.ga X.K cc) ∧ d = none ∧ catch_ cc = some true ∧ tS X.K (cT c c.M c.W g0) (Gh a) G' (fh cc) D σ H) hs hfr hN hi hln hc tk
    (fun W pn xe tk' po => ⟨fun pins s σ H D I ⟨g0, q⟩ => (hb W pn xe g0 tk' po).run pins s σ H D I q⟩)
    (fun a oe cls d pn hz hv => ⟨fun pins s σ H D I ⟨cc, g0, e1, e2, e3, q⟩ => by subst e1 e2; exact (hh a oe cc pn g0 e3 hz hv).run pins s σ H D I q⟩)) fun D σ H ⟨F, g, k, w, q, d, nn⟩ => by
    have agM : ∀ {σ σ' : St}, Ag (mOf vs) σ σ' → Ag c.M σ σ' := fun a => a.imp fun j hj => hvM j (by simpa [mOf] using hj)
    cases e1 : fb g fun g' => Xc.ok (.inl g') with
    | no => simp only [e1, joinM, catM] at d; exact d.elim
    | ok t =>
      cases t with
      | inl g1 =>
        simp only [e1, joinM, catM, bind_ok] at d
        refine ⟨some g1, F, g, fun g' => Xc.ok (.inl g'), w, q, by rw [e1]; exact (rfl : some g1 = some g1), fun g' σ' F' H' w' a' q' d' => ?_⟩
        have d' : some g' = some g1 := d'
        cases d'
        exact nn g1 σ' F' H' ⟨w'.f, w'.w⟩ (agM a') q' (d.on w'.f (agM a'))
      | inr t =>
        simp only [e1, joinM, catM, bind_ok] at d
        refine ⟨none, F, g, fun g' => Xc.ok (.inl g'), w, q, ?_, fun g' σ' F' H' w' a' q' d' => ?_⟩
        · rw [e1]
          have d : c.O.sem t _ _ _ := d
          refine c.O.mono (fun r p v F' H' w' rr => p v F' H' ⟨w'.f, w'.w⟩ rr) (fun b p σ' F' H' w' a' => p σ' F' H' ⟨w'.f, w'.w⟩ (agM a')) (fun b p σ' F' H' w' a' => p σ' F' H' ⟨w'.f, w'.w⟩ (agM a')) d
        · have d' : some g' = none := d'
          cases d'
    | er cc fs =>
      simp only [e1, catM] at d
      refine ⟨none, F, g, fun g' => Xc.ok (.inl g'), w, q, ?_, fun g' σ' F' H' w' a' q' d' => ?_⟩
      · rw [e1]
        intro σ' F' H' w' a'
        cases e2 : catch_ cc with
        | none => simp only [e2] at d; exact d.elim
        | some b =>
          cases b with
          | false =>
            simp only [e2] at d
            have d : Done X.K c D F σ (.er cc fs) := d
            have d := d σ' F' H' ⟨w'.f, w'.w⟩ (agM a')
            cases fs with
            | nil => exact fun F2 H2 w2 => ⟨false, hx cc _ e2, (fun z => absurd z Bool.false_ne_true), fun _ => d F2 H2 w2⟩
            | cons f fs => exact fun F2 H2 d2 w2 hd => ⟨false, hx cc _ e2, (fun z => absurd z Bool.false_ne_true), fun _ => d F2 H2 d2 w2 hd⟩
          | true =>
            simp only [e2] at d
            cases fs with
            | cons f fs => simp [joinM, bind_no] at d; exact d.elim
            | nil =>
              simp only [List.isEmpty_nil, if_true] at d
              refine fun F2 H2 w2 => ⟨true, hx cc _ e2, fun _ a ha => ?_, fun z => absurd z.symm Bool.false_ne_true⟩
              have q1 : Gf.rel X.K c.H0 F2 H2 σ' (hf g) := by
                rw [ag_setAll a']
                exact FZ.fz (FG.fg _ q) (w'.f.trans w2.f)
              have q2 := (PX a).put q1
              have sF : Same F F2 := w'.f.trans w2.f
              have wd : Wd c.F0 c.H0 F2 H2 := w'.w.trans w2
              have ag2 : ∀ σ3, Ag c.M (σ'.set i (some (.ref a))) σ3 → Ag c.M σ (σ3.set i none) := fun σ3 a3 => (((agM a').trans (Ag.set hiM)).trans a3).trans (Ag.set hiM)
              have ag3 : ∀ σ3, Ag c.M (σ'.set i (some (.ref a))) σ3 → Ag c.M σ σ3 := fun σ3 a3 => ((agM a').trans (Ag.set hiM)).trans a3
              cases e3 : fh cc (hp (hf g)) fun g' => Xc.ok (.inl g') with
              | no => simp only [e3, joinM, bind_no] at d; exact d.elim
              | er cc2 fs2 =>
                simp only [e3, joinM, bind_er] at d
                refine ⟨cc, none, rfl, rfl, e2, F2, hp (hf g), fun g' => Xc.ok (.inl g'), wd, q2, ?_, fun g' σ3 F3 H3 w3 a3 q3 d3 => ?_⟩
                · rw [e3]
                  exact fun σ3 F3 H3 w3 a3 => d σ3 F3 H3 ⟨sF.trans w3.f, w3.w⟩ (ag3 σ3 a3)
                · have d3 : some g' = none := d3
                  cases d3
              | ok t =>
                cases t with
                | inl g1 =>
                  simp only [e3, joinM, bind_ok] at d
                  refine ⟨cc, some g1, rfl, rfl, e2, F2, hp (hf g), fun g' => Xc.ok (.inl g'), wd, q2, by rw [e3]; exact (rfl : some g1 = some g1), fun g' σ3 F3 H3 w3 a3 q3 d3 => ?_⟩
                  have d3 : some g' = some g1 := d3
                  cases d3
                  exact nn g1 (σ3.set i none) F3 H3 ⟨sF.trans w3.f, w3.w⟩ (ag2 σ3 a3) (WJ.wi none q3) (d.on (sF.trans w3.f) (ag2 σ3 a3))
                | inr t =>
                  simp only [e3, joinM, bind_ok] at d
                  refine ⟨cc, none, rfl, rfl, e2, F2, hp (hf g), fun g' => Xc.ok (.inl g'), wd, q2, ?_, fun g' σ3 F3 H3 w3 a3 q3 d3 => ?_⟩
                  · rw [e3]
                    have d : c.O.sem t _ _ _ := d
                    refine c.O.mono (fun r p v F3 H3 w3 rr => p v F3 H3 ⟨sF.trans w3.f, w3.w⟩ rr) (fun b p σ3 F3 H3 w3 a3 r3 => p (σ3.set i none) F3 H3 ⟨sF.trans w3.f, w3.w⟩ (ag2 σ3 a3) (WB.wi none r3)) (fun b p σ3 F3 H3 w3 a3 r3 => p (σ3.set i none) F3 H3 ⟨sF.trans w3.f, w3.w⟩ (ag2 σ3 a3) (WB.wi none r3)) d
                  · have d3 : some g' = none := d3
                    cases d3
      · have d' : some g' = none := d'
        cases d'
/-- a return within a try or its suite -/
theorem fs_retT {c : C2 (Sum γ' ρ) ρ Unit} {γ2 : Type} {G2 : EnvT γ2} [Rp ρ] {e : Expr} {fa : γ → Xc ρ} (ha : FE X c.toC0 G e fa) (hO : c.O.ret = Sum.inr := by rfl) (hR : c.R = rtF ρ := by rfl) : FS X c G (.Return (some e) pos) G2 (fun g _ => (fa g).bind fun v => Xc.ok (Sum.inr v)) := fs_retG hO hR ha
end
/-! ### isinstance of the exception that a suite holds -/
section
variable {X : Cx} {c : C0} {γ : Type} {G : EnvT γ} {a D : Addr} {oe : Obj} {pn : List (Addr × Obj)} {n x : Str} {pos p p1 p2 : Pos}
theorem fe_isE (i : Nat) (b : Bool) {cv : Value} [A : AtX G i (.ref a)] (C : ExcC X.K D) (hz : Zc (.ref D) none oe) (hf : ∃ vs, oe.data = .fields vs) (hk : PySem.W.kitOne X.K (.ref D) cv = some b) {u : V} (hu : ∀ z, RelV u z → z = cv)
    (ht : PE (X.suite a ((a, oe) :: pn)) (.Name x p2) (fun σ H Q => Q u H))
    (hm : X.mg "isinstance" = none) (hN : X.N[i]? = some n := by rfl) (hv : Vis X.env.scope n := by first | exact Or.inl rfl | exact Or.inr (Or.inl rfl) | exact Or.inr (Or.inr rfl)) (hd : (n == ("__debug__" : Str)) = false := by decide) (hcd : (n == ("__classdict__" : Str)) = false := by decide)
    (hg : Gl X "isinstance" := by rfl)
    (hs : starEach [.Name n p1, .Name x p2] X.env = (false, eval (.Name n p1) X.env) :: starEach [.Name x p2] X.env := by rfl) (hs2 : starEach [.Name x p2] X.env = (false, eval (.Name x p2) X.env) :: starEach [] X.env := by rfl)
    (hpl : (backTo pos (starEach [.Name x p2] X.env)).any (·.1) = false := by rfl) : FE (X.suite a ((a, oe) :: pn)) c G (.Call (.Name "isinstance" p) [.Name n p1, .Name x p2] [] pos) (fun _ => Xc.ok b) :=
  PE.imp (pe_callB (call_isE (X := X) C hz hf) hg hm PyProof.Rows.boot_isinstance (pa_cons (pe_var hN hv hd hcd) (pa_cons ht pa_nil hs2) hs) (he := hs) (hpl := hpl)) fun σ H Q ⟨F, g, w, q, h⟩ =>
    ⟨.ref a, A.get q, u, cv, b, rfl, hu, hk, h.ret w.s rfl⟩
theorem pe_clsR {X : Cx} {x : Str} {p : Pos} (hm : X.mg x = some (.ref (He.ga X.K x))) (hg : Gl X x := by rfl) (hd : (x == ("__debug__" : Str)) = false := by decide) : PE X (.Name x p) (fun σ H Q => Q (.ref (He.ga X.K x)) H) :=
  PE.imp (pe_glob (v := .ref (He.ga X.K x)) hg hm rfl hd) fun σ H Q h => h
theorem pe_clsT {X : Cx} {x : Str} {U : String} {p : Pos} (hm : X.mg x = none) (hv : bootBuiltins x = some (.type U) := by decide +kernel) (hg : Gl X x := by rfl) (hn : x ≠ "__name__" := by decide) (hd : (x == ("__debug__" : Str)) = false := by decide) : PE X (.Name x p) (fun σ H Q => Q (.ty U) H) :=
  PE.imp (pe_bltn (v := .ty U) hg hm hv rfl hn hd) fun σ H Q h => h
end
end FL

/-! FL14: targets of several names. -/
namespace FL
open PySem L2
section
variable {X : Cx} {c : C1} {γ γ' γ1 γ2 α β δ : Type} {G : EnvT γ} {G' : EnvT γ'} {G1 : EnvT γ1} {G2 : EnvT γ2} [Rp α] [Rp β] [Rp δ] {pos p p1 p2 p3 : Pos} {x y z : Str} {tg e : Expr} {vs : List Nat}
theorem fn_asg {ψ : γ → α → γ'} {fa : γ → Xc α} (ha : FE X c.toC0 G e fa) (hg : FG X c.M G tg G' vs ψ) (hs : swapsWithSole [tg] e pos.line X.env = pure false := by rfl) (hw : swappedStores [tg] e X.env = pure none := by rfl)
    (h1 : (assignEach [tg] X.env).map (·.2) = [assign tg X.env] := by rfl) : FN X c G (.Assign [tg] e pos) G' (fun g => (fa g).bind fun v => Xc.ok (ψ g v)) := by
  obtain ⟨t, pg, ht⟩ := hg
  exact PS.imp (ps_asg ha pg hs hw h1) fun D σ H ⟨F, g, w, q, h⟩ => by
    refine ⟨F, g, w, q, ?_⟩
    cases e1 : fa g with
    | ok v =>
      intro u F1 H1 w1 r1
      simp only [e1] at h
      exact ht c.H0 F1 H1 σ g u v _ w1.s (G.mono q w1) r1 fun σ' ag _ q' => h σ' F1 H1 (Ws.of w w1) ag q'
    | er c' fs => simp only [e1] at h; exact PoN.er h w
    | no => simp only [e1] at h; exact h
end
section
variable {X : Cx} {γ γ' γ1 γ2 α β δ : Type} {G : EnvT γ} {G' : EnvT γ'} {G1 : EnvT γ1} {G2 : EnvT γ2} [Rp α] [Rp β] [Rp δ] {pos p p1 p2 p3 : Pos} {x y z : Str} {tg e : Expr} {vs : List Nat} {M : Nat → Bool} {kk : Nat}
theorem fg_two (i j : Nat) {ψ1 : γ → α → γ1} {ψ2 : γ1 → β → γ'} [P1 : Put G i α G1 ψ1] [P2 : Put G1 j β G' ψ2] (hM : M i = true ∧ M j = true) (hN : X.N.Nodup) (hc : X.calm = true := by rfl)
    (hi : X.N[i]? = some x := by rfl) (hx : Loc X.env.scope x := by first | exact Or.inl rfl | exact Or.inr rfl) (hj : X.N[j]? = some y := by rfl) (hy : Loc X.env.scope y := by first | exact Or.inl rfl | exact Or.inr rfl)
    (hf : X.fn x = true ∨ X.env.scope.names.lookup x = some .local := by first | exact .inl rfl | exact .inr rfl) (hf2 : X.fn y = true ∨ X.env.scope.names.lookup y = some .local := by first | exact .inl rfl | exact .inr rfl) :
    FG X M G (.Tuple [.Name x p1, .Name y p2] kk p) G' [i, j] (fun g (a : α × β) => ψ2 (ψ1 g a.1) a.2) :=
  fg_pair i j hM hc hN hi hx hj hy hf hf2 (pg_tup hc (pgs_cons (pg_name hN hi hx hf) (pgs_cons (pg_name hN hj hy hf2) pgs_nil)))
theorem fg_three (i j k : Nat) {ψ1 : γ → α → γ1} {ψ2 : γ1 → β → γ2} {ψ3 : γ2 → δ → γ'} [P1 : Put G i α G1 ψ1] [P2 : Put G1 j β G2 ψ2] [P3 : Put G2 k δ G' ψ3] (hM : M i = true ∧ M j = true ∧ M k = true) (hN : X.N.Nodup) (hne : i ≠ j ∧ j ≠ k ∧ i ≠ k) (hc : X.calm = true := by rfl)
    (hi : X.N[i]? = some x := by rfl) (hx : Loc X.env.scope x := by first | exact Or.inl rfl | exact Or.inr rfl) (hj : X.N[j]? = some y := by rfl) (hy : Loc X.env.scope y := by first | exact Or.inl rfl | exact Or.inr rfl) (hk : X.N[k]? = some z := by rfl) (hz : Loc X.env.scope z := by first | exact Or.inl rfl | exact Or.inr rfl)
    (hf : X.fn x = true ∨ X.env.scope.names.lookup x = some .local := by first | exact .inl rfl | exact .inr rfl) (hf2 : X.fn y = true ∨ X.env.scope.names.lookup y = some .local := by first | exact .inl rfl | exact .inr rfl) (hf3 : X.fn z = true ∨ X.env.scope.names.lookup z = some .local := by first | exact .inl rfl | exact .inr rfl) :
    FG X M G (.Tuple [.Name x p1, .Name y p2, .Name z p3] kk p) G' [i, j, k] (fun g (a : T3 α β δ) => ψ3 (ψ2 (ψ1 g a.a) a.b) a.c) :=
  ⟨_, pg_tup (n := 3) hc (pgs_cons (pg_name hN hi hx hf) (pgs_cons (pg_name hN hj hy hf2) (pgs_cons (pg_name hN hk hz hf3) pgs_nil))), fun H0 F H σ g v a Q s q r kk => by
    obtain ⟨b, u1, u2, u3, rfl, h, r1, r2, r3⟩ := r
    refine ⟨b, [u1, u2, u3], rfl, Same.seqT s h, rfl, u1, [u2, u3], rfl, u2, [u3], rfl, u3, [], rfl, rfl, ?_⟩
    refine kk _ (((Ag.set hM.1).trans (Ag.set hM.2.1)).trans (Ag.set hM.2.2)) ?_ (P3.put (P2.put (P1.put q r1) r2) r3)
    show (((((σ.set i (some u1)).set j (some u2)).set k (some u3)).set k none).set j none).set i none = ((σ.set k none).set j none).set i none
    rw [List.set_set, List.set_comm _ _ (show k ≠ j from fun z => hne.2.1 z.symm), List.set_set, List.set_comm _ _ (show k ≠ i from fun z => hne.2.2 z.symm), List.set_comm _ _ (show j ≠ i from fun z => hne.1 z.symm), List.set_set, List.set_comm _ _ (show i ≠ j from hne.1), List.set_comm _ _ (show i ≠ k from hne.2.2), List.set_comm _ _ (show j ≠ k from hne.2.1)]⟩
end
end FL

/-! FL15: rules in the shapes that the printer of derivations uses. -/
namespace FL
open PySem L2
theorem takesF {X : Cx} : Takes X (fun _ _ _ _ => False) := fun u s' ⟨a, B, sI, pins, σ, H, cls, d, e, I, nb, up, sky, na, os, ag, w⟩ => w.elim
section
variable {X : Cx} {c : C1} {γ γ' γ1 γ2 α β : Type} {G : EnvT γ} {G' : EnvT γ'} {G1 : EnvT γ1} {G2 : EnvT γ2} {st : Stmt} {sts : List Stmt}
theorem fns_B {fa : γ → Xc α} {ψ : γ → α → γ1} {m2 : γ1 → Xc γ2} (h1 : FN X c G st G1 (fun g => (fa g).bind fun v => Xc.ok (ψ g v))) (h2 : FNs X c G1 sts G2 m2) : FNs X c G (st :: sts) G2 (fun g => (fa g).bind fun v => m2 (ψ g v)) :=
  FNs.cast (fns_cons h1 h2) fun g => by cases fa g <;> rfl
theorem fns_B2 {fa : γ → Xc α} {fb : γ → α → Xc β} {ψ : γ → α → β → γ1} {m2 : γ1 → Xc γ2} (h1 : FN X c G st G1 (fun g => (fa g).bind fun v => (fb g v).bind fun u => Xc.ok (ψ g v u))) (h2 : FNs X c G1 sts G2 m2) : FNs X c G (st :: sts) G2 (fun g => (fa g).bind fun v => (fb g v).bind fun u => m2 (ψ g v u)) :=
  FNs.cast (fns_cons h1 h2) fun g => by
    show (fa g).bind _ = ((fa g).bind _).bind _
    cases fa g with
    | ok v => show (fb g v).bind _ = ((fb g v).bind _).bind _; cases fb g v <;> rfl
    | er _ _ => rfl
    | no => rfl
theorem fns_B3 {δ : Type} {fa : γ → Xc α} {fb : γ → α → Xc β} {fd : γ → α → β → Xc δ} {ψ : γ → α → β → δ → γ1} {m2 : γ1 → Xc γ2} (h1 : FN X c G st G1 (fun g => (fa g).bind fun v => (fb g v).bind fun u => (fd g v u).bind fun z => Xc.ok (ψ g v u z))) (h2 : FNs X c G1 sts G2 m2) : FNs X c G (st :: sts) G2 (fun g => (fa g).bind fun v => (fb g v).bind fun u => (fd g v u).bind fun z => m2 (ψ g v u z)) :=
  FNs.cast (fns_cons h1 h2) fun g => by
    show (fa g).bind _ = ((fa g).bind _).bind _
    cases fa g with
    | ok v =>
      show (fb g v).bind _ = ((fb g v).bind _).bind _
      cases fb g v with
      | ok u => show (fd g v u).bind _ = ((fd g v u).bind _).bind _; cases fd g v u <;> rfl
      | er _ _ => rfl
      | no => rfl
    | er _ _ => rfl
    | no => rfl
end
section
variable {X : Cx} {τ ρ β γ γ' γ1 γ2 α δ ε γb : Type} {c : C2 τ ρ β} {G : EnvT γ} {G' : EnvT γ'} {G1 : EnvT γ1} {G2 : EnvT γ2} {Gb : EnvT γb} {st : Stmt} {sts : List Stmt} {tg iter : Expr} {body : List Stmt} {pos : Pos} {vs : List Nat} [Rp α]
theorem fs_B {α : Type} {fa : γ → Xc α} {ψ : γ → α → γ1} (h1 : FN X c.toC1 G st G1 (fun g => (fa g).bind fun v => Xc.ok (ψ g v))) : FS X c G st G1 (fun g k => (fa g).bind fun v => k (ψ g v)) :=
  FS.cast (fs_n h1) fun g k => by cases fa g <;> rfl
theorem fs_B2 {α : Type} {fa : γ → Xc α} {fb : γ → α → Xc δ} {ψ : γ → α → δ → γ1} (h1 : FN X c.toC1 G st G1 (fun g => (fa g).bind fun v => (fb g v).bind fun u => Xc.ok (ψ g v u))) : FS X c G st G1 (fun g k => (fa g).bind fun v => (fb g v).bind fun u => k (ψ g v u)) :=
  FS.cast (fs_n h1) fun g k => by
    show (fa g).bind _ = ((fa g).bind _).bind _
    cases fa g with
    | ok v => show (fb g v).bind _ = ((fb g v).bind _).bind _; cases fb g v <;> rfl
    | er _ _ => rfl
    | no => rfl
theorem fs_B3 {α : Type} {fa : γ → Xc α} {fb : γ → α → Xc δ} {fd : γ → α → δ → Xc ε} {ψ : γ → α → δ → ε → γ1} (h1 : FN X c.toC1 G st G1 (fun g => (fa g).bind fun v => (fb g v).bind fun u => (fd g v u).bind fun z => Xc.ok (ψ g v u z))) : FS X c G st G1 (fun g k => (fa g).bind fun v => (fb g v).bind fun u => (fd g v u).bind fun z => k (ψ g v u z)) :=
  FS.cast (fs_n h1) fun g k => by
    show (fa g).bind _ = ((fa g).bind _).bind _
    cases fa g with
    | ok v =>
      show (fb g v).bind _ = ((fb g v).bind _).bind _
      cases fb g v with
      | ok u => show (fd g v u).bind _ = ((fd g v u).bind _).bind _; cases fd g v u <;> rfl
      | er _ _ => rfl
      | no => rfl
    | er _ _ => rfl
    | no => rfl
/-- behind a loop -/
def forK {γ ρ τ : Type} (m : Xc (Sum γ ρ)) (rt : ρ → τ) (k : γ → Xc τ) : Xc τ := m.bind fun t => match t with
  | .inl g' => k g'
  | .inr r => Xc.ok (rt r)
theorem fs_forK {rt : ρ → τ} {ψ : γ → α → γb} {fl : γ → Xc (List α)} {fb : γb → (γ → Xc (Lp γ ρ)) → Xc (Lp γ ρ)} (po : PassesOwn (model X.prog X.w) X.A X.env X.xe) (hi : FI X c.toC0 G tg iter fl) (hg : FG X c.M G tg Gb vs ψ) (hb : FSs X (cL c G) Gb body G fb)
    (hO : ∀ r P B C, P r → c.O.sem (rt r) P B C := by intro _ _ _ _ h; exact h) (hR' : ∀ r P B C, c.O.sem (rt r) P B C → P r := by intro _ _ _ _ h; exact h) (hc : X.calm = true := by rfl) (hs : ∀ x, foldedSetIterable iter X.env x = pure x := by intro _; rfl) :
    FS X c G (.For tg iter body [] pos) G (fun g k => (fl g).bind fun l => forK (forX (fun g a => fb (ψ g a) fun g' => Xc.ok (Lp.ct g')) l g) rt k) :=
  FS.cast (fs_for po hi hg hb hO hR' hc hs) fun g k => by
    cases fl g with
    | ok l => show forK _ _ _ = Xc.bind (forX _ _ _) _; unfold forK; congr 1
    | er _ _ => rfl
    | no => rfl
end
section
variable {X : Cx} {γ γb γw α β : Type} {G : EnvT γ} {Gw : EnvT γw} {Gb : EnvT γb} [Rp α] [Rp β] {tg iter elt : Expr} {ifs : List Expr} {pos : Pos} {vs : List Nat} {scope : Scope} {own : List (Str × Nat)}
theorem fn_setLcF {c : C1} {γ' : Type} {G' : EnvT γ'} (k : Nat) {y : Str} {py spos : Pos} {ψ' : γ → List β → γ'} [P : Put G k (List β) G' ψ'] {ψ : γw → α → γb} {h : γ → γw} {fl : γ → Xc (List α)} {ft : γb → Xc Bool} {f : γb → Xc β} [W : Wip G vs Gw h] (hvs : own.map (·.2) = vs) (hM : c.M k = true) (ok : BlkOk X.N X.env.scope scope own) (hN : X.N.Nodup) (hi : FI X c.toC0 G tg iter fl) (hg : FGB X scope Gw tg Gb vs ψ)
    (ht : FTs X scope (cB c.toC0) Gb ifs ft) (he : ∀ (s : Shared) (H : Hp) (C : Addr) (cl : List (Str × Addr)) (fp : List Addr), FE (X.blk s H scope (compEnvC scope cl C X.env) fp) (cB c.toC0) Gb elt f) (hy : X.N[k]? = some y := by rfl) (hyl : X.env.scope.names.lookup y = some .local := by rfl)
    (hsw : swapsWith (.ListComp elt [⟨tg, iter, ifs, 0⟩] scope pos) (some (.Name y py)) spos.line X.env = pure true := by exact sw_true rfl rfl rfl rfl) (hc : X.calm = true := by rfl) (hs : ∀ x, foldedSetIterable iter X.env x = pure x := by intro _; rfl) :
    FN X c G (.Assign [.Name y py] (.ListComp elt [⟨tg, iter, ifs, 0⟩] scope pos) spos) G' (fun g => ((fl g).bind fun l => compX (fun a => ft (ψ (h g) a)) (fun a => f (ψ (h g) a)) l).bind fun v => Xc.ok (ψ' g v)) := by
  subst hvs
  obtain ⟨t, pg, ht'⟩ := hg
  exact fn_setL k hM (fun σ H Q p => tO_lc (W := W) ht' p) (ps_setLc (te := tF X.K (cB c.toC0) Gb f) hc hN hy hyl hsw hi ok pg ht he hs)
end
/-! the end of a block -/
section
variable {X : Cx} {γ γ' : Type} {G : EnvT γ} {G' : EnvT γ'} {h : γ → γ'}
theorem fns_nilS {c : C1} [S : Sub G G' h] : FNs X c G [] G' (fun g => Xc.ok (h g)) := PSs.imp pss_nil fun D σ H ⟨F, g, w, q, p⟩ => p σ F H (Ws.refl w) Ag.refl (S.sub q)
theorem fss_nilS {τ ρ β : Type} {c : C2 τ ρ β} [S : Sub G G' h] : FSs X c G [] G' (fun g k => k (h g)) := PSs.imp pss_nil fun D σ H ⟨F, g, k, w, q, d, n⟩ => n (h g) σ F H (Ws.refl w) Ag.refl (S.sub q) d
end
/-! a def that comes to its end: None -/
section
variable {P : Program} {w : World} {K : PySem.W.Frag} {mg : Str → Option Value} {base : Heap} {αs ρ γ γ' : Type} [Rps αs] {G : EnvT γ} {G' : EnvT γ'} {h : αs → γ}
theorem fn_defU {x qual : Str} {params : Arguments} {body : List Stmt} {scope : Scope} {dvs : List V} {kws : List (Str × V)} {f : Addr} {fd : FuncData} {N ps : List Str} {k n pn : Nat} {m : αs → Xc Unit} {fm : γ → (γ' → Xc Unit) → Xc Unit}
    (Fd : FunD K x qual params body scope dvs kws f fd) (S : FnScope N ps scope) [RN : RpsN αs pn] (hpn : ps.length = pn) [ET : EntryT αs n G h] (hn : N.length = pn + n)
    (hb : ∀ (cdv : Value) (A : Around) (outer : List Env) (s : Shared) (F H : Hp) (E : XK), Room k (A.deeper (PyProof.Rows.envOfC qual scope s.heap.objs.size f cdv)) → 
      Takes (cxOf (L2.CX P w) P w K mg base N qual scope f cdv A outer s H E) (cD Unit (rtF Unit) F H E).W →
      FSs (cxOf (L2.CX P w) P w K mg base N qual scope f cdv A outer s H E) (cD Unit (rtF Unit) F H E) G body G' fm)
    (hm : ∀ as, m as = fm (h as) fun _ => .ok ()) : FnOk P w K mg base (L2.CX P w) (k + 1) f fd ps (spF K (rtF Unit) m) := by
  refine Fd.ok S (fun vs H Q E ⟨F, as, _, r, _⟩ => by rw [hpn]; exact RN.len r) fun cdv A outer s H vs Q E hr ⟨F, as, sm, r, p⟩ => ?_
  refine ⟨_, hb cdv A outer s F H E hr (takes_of rfl rfl rfl rfl), F, h as, fun _ => .ok (), Wd.refl sm, ?_, ?_, fun g' σ' F' H' w1 _ _ d => ?_⟩
  · unfold L2.start
    have e : N.length - vs.length = n := by rw [RN.len r, hn]; omega
    rw [e]
    exact ET.st r (Nat.le_refl _)
  · rw [hm as] at p
    revert p
    cases fm (h as) (fun _ => .ok ()) with
    | ok t => exact fun p v F' H' w1 rr => p v F' H' w1.w rr
    | er cc fs => exact fun p σ' F' H' w1 _ => ErP.on p w1.w
    | no => exact fun p => p
  · have d : ∀ v F2 H2, Ws (cD Unit (rtF Unit) F H E).toC0 F' F2 H2 → (rtF Unit).rr K H F2 H2 v () → Q v H2 := d
    exact d .non F' H' (Ws.refl w1.w) rfl
end
end FL

namespace FL
open PySem L2
instance {ρ : Type} {R : Rt ρ} {F H : Hp} {E : XK} {i : Nat} : Wi1 (cD ρ R F H E).GB i (cD ρ R F H E).GB (fun g => g) := (inferInstance : Wi1 nl i nl fun g => g)
theorem bind_ok' {α β : Type} (a : α) (k : α → Xc β) : Xc.bind (.ok a) k = k a := Eq.trans (Eq.refl _) (Eq.refl _)
def catch1 (x : Str) : Str → Option Bool := fun cc => if cc = x then some true else none
theorem catch1_eq {x cc : Str} (h : catch1 x cc = some true) : x = cc := by
  unfold catch1 at h
  by_cases e : cc = x
  · exact e.symm
  · rw [if_neg e] at h; cases h
theorem catch1_ok {K : PySem.W.Frag} {x : Str} {cv : Value} (h : PySem.W.exmOne K (.ref (He.ga K x)) cv = some true) : ∀ cc b, catch1 x cc = some b → PySem.W.exmOne K (.ref (He.ga K cc)) cv = some b := by
  intro cc b e
  unfold catch1 at e
  by_cases e2 : cc = x
  · rw [if_pos e2] at e; cases e; subst e2; exact h
  · rw [if_neg e2] at e; cases e
end FL

/-! FL17: the end of a law. -/
namespace FL
open PySem L2
theorem walk_w {l : PySem.W.OpenLaw} {n k : Nat} {q : Program} {loose : List Str} {XP : (Str → Option Value) → Heap → Prop} {YP : World → Heap → Prop} {d : DefRec} {x : Str} (hn : l.most = some n) (hn2 : n ≤ sizeLine) (hdf : d.params.defaults = []) (hr : Room k callerA)
    {m : List Int × Unit → Xc Bool} (hm : ∀ ns : List Int, ns.length ≤ n → m (ns, ()) = .ok true)
    (F : ∀ (w : World) (mg : Str → Option Value) (fa : Addr) (h : Heap), YP w h → h.Ns mainGlobals mg → mg d.name = some (.ref fa) → ∃ (K : PySem.W.Frag) (fd : FuncData), K.In h ∧ (∀ (s : Shared) (u : Value), BindsTo s fd ⟨[u], []⟩ [(x, u)]) ∧
      ∀ base : Heap, K.In base → base.Ns mainGlobals mg → FnOk l.prog w K mg base (L2.CX l.prog w) k fa fd [x] (spF K (rtF Bool) m)) :
    PySem.W.WalkO q loose XP YP l.row.toRowW d [] (fun f vs => PySem.call f vs) := by
  refine Att.attach_call hn hdf fun w s₀ s₁ mg mb fa o pm cd doc a vs ns G Y ho hd hcd hmg hobj hints hlen hg => ?_
  obtain ⟨K, fd, KX, hb, hF⟩ := F w mg fa _ Y G.T.g hmg
  refine law_call KX G.T.g G.T.b G.T.builtins G.T.nolimit hg hobj hints (Nat.le_trans hlen hn2) hr hF hb (fun H hO hS => ?_) fun H e s' ⟨a, B, H', cls, d, e1, _, _, _, _, _, _, z⟩ => z
  refine ⟨H, (ns, ()), Same.refl _, ⟨.ref a, [], rfl, ⟨a, ns.map V.int, rfl, hS, Nat.le_trans hlen hn2, ?_⟩, rfl⟩, ?_⟩
  · clear hints hlen hS
    induction ns with
    | nil => exact .nil
    | cons i ns ih => exact .cons rfl ih
  · rw [hm ns hlen]
    intro v F' H' w1 r
    have r : v = .bl true := r
    exact r
/-- a def by its name, from the head's facts -/
theorem dk_of {P : Program} {w : World} {K : PySem.W.Frag} {mg : Str → Option Value} {base : Heap} {x qual : Str} {params : Arguments} {body : List Stmt} {scope : Scope} {fd : FuncData} {ps : List Str} {k : Nat} {sp : Sp}
    (F : FunD K x qual params body scope [] [] (He.ga K x) fd) (g : mg x = some (.ref (He.ga K x))) (b : Binds K fd ps []) (h : FnOk P w K mg base (L2.CX P w) k (He.ga K x) fd ps sp) : Dk P w K mg base x ps k sp := ⟨⟨fd, h, b⟩, g, F.kp⟩
theorem mg_fact {K : PySem.W.Frag} {h : Heap} {mg : Str → Option Value} {x : Str} {v : Value} (X : K.In h) (G : h.Ns mainGlobals mg) (e : He.eqO (PySem.W.nsIn K mainGlobals x) (some (some v)) = true) : mg x = some v := PySem.W.mg_of X G (He.eqO_ok e)
def excCB (K : PySem.W.Frag) (D : Addr) : Bool := decide (PySem.W.findIn K (.ref D) "__getattribute__" = some (some (.builtin "BaseException.__getattribute__"))) && (decide (PySem.W.findIn K (.ref D) "__getattr__" = some none) && (decide (PySem.W.subIn K (.ref D) (.type "BaseException") = some true) && (PySem.W.hasDictIn K D &&
  (decide (PySem.W.findIn K (.ref D) "__class__" = some (some (.builtin "object.__class__"))) && (decide (PySem.W.specialIn K (.builtin "object.__class__") "__get__" = some (some (.builtin "getset_descriptor.__get__"))) && (decide (PySem.W.takesIn K (.builtin "object.__class__") = some true) && decide (PySem.W.mroIn K D (.type "object") = some true)))))))
theorem excCB_ok {K : PySem.W.Frag} {D : Addr} (h : excCB K D = true) : ExcC K D := by
  unfold excCB at h
  obtain ⟨h1, h⟩ := He.ba h
  obtain ⟨h2, h⟩ := He.ba h
  obtain ⟨h3, h⟩ := He.ba h
  obtain ⟨h4, h⟩ := He.ba h
  obtain ⟨h5, h⟩ := He.ba h
  obtain ⟨h6, h⟩ := He.ba h
  obtain ⟨h7, h8⟩ := He.ba h
  exact ⟨of_decide_eq_true h1, of_decide_eq_true h2, of_decide_eq_true h3, h4, of_decide_eq_true h5, of_decide_eq_true h6, of_decide_eq_true h7, of_decide_eq_true h8⟩
end FL

/-! FL18: lcm, tuple(..), zip, sums of lists and tuples, repeats. -/
namespace FL
open PySem L2
section
variable {X : Cx} {c : C0} {γ α β ρ : Type} {G : EnvT γ} [Rp α] [Rp β] [Rp ρ] {a b d e tg : Expr} {pos p p2 : Pos}
def rLcm : List V → Hp → VK → Prop := fun vs H Q => ∃ i j : Int, vs = [.int i, .int j] ∧ i.natAbs < 2 ^ 64 ∧ j.natAbs < 2 ^ 64 ∧ Q (.int ((Nat.lcm i.natAbs j.natAbs : Nat) : Int)) H
theorem cr_lcm : CallR X (.builtin "math.lcm") rLcm := by
  intro pins s σ H vs us Q I r h
  obtain ⟨i, j, rfl, h1, h2, q⟩ := h
  obtain ⟨t, u, rfl⟩ := Vals.int2 r
  exact PySem.W.mc_lcm h1 h2 fun _ => ⟨.int _, H, I.tok _, ⟨_, rfl⟩, q⟩
@[irreducible] def lcmX (i j : Int) : Xc Int := if i.natAbs < 2 ^ 64 ∧ j.natAbs < 2 ^ 64 then .ok ((Nat.lcm i.natAbs j.natAbs : Nat) : Int) else .no
theorem fe_lcm {fa fb : γ → Xc Int} (ha : FE X c G a fa) (hb : FE X c G b fb) (hm : X.mg "lcm" = some (.builtin "math.lcm")) (hg : Gl X "lcm" := by rfl) (hs : starEach [a, b] X.env = (false, eval a X.env) :: starEach [b] X.env := by rfl) (hs2 : starEach [b] X.env = (false, eval b X.env) :: starEach [] X.env := by rfl)
    (hpl : (backTo pos (starEach [b] X.env)).any (·.1) = false := by rfl) : FE X c G (.Call (.Name "lcm" p) [a, b] [] pos) (fun g => (fa g).bind fun i => (fb g).bind fun j => lcmX i j) :=
  call2 (fun h => pe_callBfun cr_lcm hg hm h (he := hs) (hpl := hpl)) ha hb hs hs2 fun {F H v u i j Q E} s r1 r2 p => by
    have r1 : v = .int i := r1
    have r2 : u = .int j := r2
    subst r1 r2
    unfold lcmX at p
    by_cases h : i.natAbs < 2 ^ 64 ∧ j.natAbs < 2 ^ 64
    · rw [if_pos h] at p; exact ⟨i, j, rfl, h.1, h.2, p.ret s rfl⟩
    · rw [if_neg h] at p; exact p.elim
/-! tuple(..) -/
theorem fe_tupL {fa : γ → Xc (List α)} (ha : FE X c G a fa) (hm : X.mg "tuple" = none) (hg : Gl X "tuple" := by rfl) (hs : starEach [a] X.env = (false, eval a X.env) :: starEach [] X.env := by rfl) :
    FE X c G (.Call (.Name "tuple" p) [a] [] pos) (fun g => (fa g).bind fun l => Xc.ok (tu l)) :=
  PE.imp (pe_callTy call_tuple_of hg hm (by decide +kernel) (pa_cons ha pa_nil hs) (he := hs)) fun σ H Q ⟨F, g, w, q, h⟩ => by
    refine ⟨F, g, w, q, ?_⟩
    cases e1 : fa g with
    | ok l =>
      simp only [e1] at h
      rintro v F1 H1 w1 ⟨b, xs, rfl, hx, hz, r⟩
      refine ⟨b, xs, rfl, .inl ⟨Same.seq w1.s hx, fun t ht => ?_⟩⟩
      have w2 := Wd.new (o := .tup xs) w1.s ht
      exact h (.ref t) _ _ (w1.trans w2) ⟨t, xs, rfl, SqT.of upd_same, hz, r.mono w2.f⟩
    | er c' fs => simp only [e1] at h; exact h
    | no => simp only [e1] at h; exact h
theorem fe_tupT {fa : γ → Xc (Tu α)} (ha : FE X c G a fa) (hm : X.mg "tuple" = none) (hg : Gl X "tuple" := by rfl) (hs : starEach [a] X.env = (false, eval a X.env) :: starEach [] X.env := by rfl) :
    FE X c G (.Call (.Name "tuple" p) [a] [] pos) (fun g => (fa g).bind fun l => Xc.ok l) :=
  PE.imp (pe_callTy call_tuple_of hg hm (by decide +kernel) (pa_cons ha pa_nil hs) (he := hs)) fun σ H Q ⟨F, g, w, q, h⟩ => by
    refine ⟨F, g, w, q, ?_⟩
    cases e1 : fa g with
    | ok l =>
      simp only [e1] at h
      rintro v F1 H1 w1 ⟨b, xs, rfl, hx, hz, r⟩
      exact ⟨b, xs, rfl, .inr ⟨Same.seqT w1.s hx, h (.ref b) F1 H1 w1 ⟨b, xs, rfl, hx, hz, r⟩⟩⟩
    | er c' fs => simp only [e1] at h; exact h
    | no => simp only [e1] at h; exact h
/-! zip -/
theorem zip_get {l : List α} {m : List β} {i : Nat} {t : α × β} (h : (l.zip m)[i]? = some t) : l[i]? = some t.1 ∧ m[i]? = some t.2 := by
  rw [List.getElem?_zip_eq_some] at h
  exact h
theorem fi_zipL {f1 : γ → Xc (List α)} {f2 : γ → Xc (List β)} {elts : List Expr} {kk : Nat} {tpos : Pos} (h1 : FE X c G a f1) (h2 : FE X c G b f2) (hm : X.mg "zip" = none) (hg : Gl X "zip" := by rfl) (hs : starEach [a, b] X.env = (false, eval a X.env) :: starEach [b] X.env := by rfl)
    (hs2 : starEach [b] X.env = (false, eval b X.env) :: starEach [] X.env := by rfl) (hpl : (backTo pos (starEach [b] X.env)).any (·.1) = false := by rfl) : FI X c G (.Tuple elts kk tpos) (.Call (.Name "zip" p) [a, b] [] pos) (fun g => (f1 g).bind fun l => (f2 g).bind fun m => Xc.ok (l.zip m)) :=
  PI.imp (RZ.pi_zipA hg hm (pa_cons h1 (pa_cons h2 pa_nil hs2) hs) hs hpl) fun σ H R ⟨F, g, w, q, p⟩ => by
    refine ⟨F, g, w, q, ?_⟩
    cases e1 : f1 g with
    | ok l =>
      rintro v F1 H1 w1 ⟨a1, xs, rfl, hx, hz, rx⟩
      simp only [e1] at p
      have p : PoI X.K F H R (WE c.W σ) ((f2 g).bind fun m => Xc.ok (l.zip m)) := p
      refine ⟨F1, g, w.trans w1, G.mono q w1, ?_⟩
      cases e2 : f2 g with
      | ok m =>
        rintro u F2 H2 w2 ⟨a2, ys, rfl, hy, hz2, ry⟩
        simp only [e2] at p
        have p : PoI X.K F H R (WE c.W σ) (.ok (l.zip m)) := p
        have hx2 : SqL X.K F2 a1 xs := Same.seq w2.f hx
        have rx2 := rx.mono w2.f
        have lz : (l.zip m).length = min l.length m.length := List.length_zip
        refine ⟨a1, a2, xs, ys, rfl, .inl ⟨Same.seq w2.s hx2, Same.seq w2.s hy, p _ F2 H2 (w1.trans w2) ⟨by rw [lz]; omega, fun F' H' s1 s2 => ⟨xs, ys, Same.seq (s1.trans s2) hx2, Same.seq (s1.trans s2) hy, ?_⟩, fun i F' H' hi s1 s2 => ?_, fun i t F' H' x H'' e3 s1 s2 y => ?_⟩⟩⟩
        · rw [lz, rx.len, ry.len]; omega
        · rw [lz] at hi
          obtain ⟨vx, h3, _⟩ := rx.get' (List.getElem?_eq_getElem (show i < l.length by omega))
          obtain ⟨vy, h4, _⟩ := ry.get' (List.getElem?_eq_getElem (show i < m.length by omega))
          exact ⟨xs, ys, vx, vy, Same.seq (s1.trans s2) hx2, Same.seq (s1.trans s2) hy, h3, h4⟩
        · obtain ⟨T, vx, vy, rfl, hT, rfl, y1, y2⟩ := y
          obtain ⟨g1, g2⟩ := zip_get e3
          obtain ⟨vx', h3, r3⟩ := rx2.get' g1
          obtain ⟨vy', h4, r4⟩ := ry.get' g2
          have k1 := y1 xs (Same.seq (s1.trans s2) hx2)
          have k2 := y2 ys (Same.seq (s1.trans s2) hy)
          rw [h3] at k1
          rw [h4] at k2
          cases k1
          cases k2
          have w3 := Wd.new (o := .tup [vx, vy]) s2 hT
          exact ⟨_, w3, T, vx, vy, rfl, SqT.of upd_same, Rp.mono (s1.trans w3.f) r3, Rp.mono (s1.trans w3.f) r4⟩
      | er c' fs => simp only [e2] at p; exact ErP.on (show ErP X.K F H (WE c.W σ) c' fs from p) w1
      | no => simp only [e2] at p; exact p
    | er c' fs => simp only [e1] at p; exact p
    | no => simp only [e1] at p; exact p
theorem fi_zipT {f1 : γ → Xc (Tu α)} {f2 : γ → Xc (Tu β)} {elts : List Expr} {kk : Nat} {tpos : Pos} (h1 : FE X c G a f1) (h2 : FE X c G b f2) (hm : X.mg "zip" = none) (hg : Gl X "zip" := by rfl) (hs : starEach [a, b] X.env = (false, eval a X.env) :: starEach [b] X.env := by rfl)
    (hs2 : starEach [b] X.env = (false, eval b X.env) :: starEach [] X.env := by rfl) (hpl : (backTo pos (starEach [b] X.env)).any (·.1) = false := by rfl) : FI X c G (.Tuple elts kk tpos) (.Call (.Name "zip" p) [a, b] [] pos) (fun g => (f1 g).bind fun l => (f2 g).bind fun m => Xc.ok (l.l.zip m.l)) :=
  PI.imp (RZ.pi_zipA hg hm (pa_cons h1 (pa_cons h2 pa_nil hs2) hs) hs hpl) fun σ H R ⟨F, g, w, q, p⟩ => by
    refine ⟨F, g, w, q, ?_⟩
    cases e1 : f1 g with
    | ok l =>
      rintro v F1 H1 w1 ⟨a1, xs, rfl, hx, hz, rx⟩
      simp only [e1] at p
      have p : PoI X.K F H R (WE c.W σ) ((f2 g).bind fun m => Xc.ok (l.l.zip m.l)) := p
      refine ⟨F1, g, w.trans w1, G.mono q w1, ?_⟩
      cases e2 : f2 g with
      | ok m =>
        rintro u F2 H2 w2 ⟨a2, ys, rfl, hy, hz2, ry⟩
        simp only [e2] at p
        have p : PoI X.K F H R (WE c.W σ) (.ok (l.l.zip m.l)) := p
        have hx2 : SqT X.K F2 a1 xs := Same.seqT w2.f hx
        have rx2 := rx.mono w2.f
        have lz : (l.l.zip m.l).length = min l.l.length m.l.length := List.length_zip
        refine ⟨a1, a2, xs, ys, rfl, .inr ⟨Same.seqT w2.s hx2, Same.seqT w2.s hy, p _ F2 H2 (w1.trans w2) ⟨by rw [lz]; omega, fun F' H' s1 s2 => ⟨xs, ys, Same.seqT (s1.trans s2) hx2, Same.seqT (s1.trans s2) hy, ?_⟩, fun i F' H' hi s1 s2 => ?_, fun i t F' H' x H'' e3 s1 s2 y => ?_⟩⟩⟩
        · rw [lz, rx.len, ry.len]; omega
        · rw [lz] at hi
          obtain ⟨vx, h3, _⟩ := rx.get' (List.getElem?_eq_getElem (show i < l.l.length by omega))
          obtain ⟨vy, h4, _⟩ := ry.get' (List.getElem?_eq_getElem (show i < m.l.length by omega))
          exact ⟨xs, ys, vx, vy, Same.seqT (s1.trans s2) hx2, Same.seqT (s1.trans s2) hy, h3, h4⟩
        · obtain ⟨T, vx, vy, rfl, hT, rfl, y1, y2⟩ := y
          obtain ⟨g1, g2⟩ := zip_get e3
          obtain ⟨vx', h3, r3⟩ := rx2.get' g1
          obtain ⟨vy', h4, r4⟩ := ry.get' g2
          have k1 := y1 xs (Same.seqT (s1.trans s2) hx2)
          have k2 := y2 ys (Same.seqT (s1.trans s2) hy)
          rw [h3] at k1
          rw [h4] at k2
          cases k1
          cases k2
          have w3 := Wd.new (o := .tup [vx, vy]) s2 hT
          exact ⟨_, w3, T, vx, vy, rfl, SqT.of upd_same, Rp.mono (s1.trans w3.f) r3, Rp.mono (s1.trans w3.f) r4⟩
      | er c' fs => simp only [e2] at p; exact ErP.on (show ErP X.K F H (WE c.W σ) c' fs from p) w1
      | no => simp only [e2] at p; exact p
    | er c' fs => simp only [e1] at p; exact p
    | no => simp only [e1] at p; exact p
/-! sums of tuples -/
@[irreducible] def catU {α : Type} (x y : Tu α) : Xc (Tu α) := if x.l.length + y.l.length ≤ sizeLine then .ok (tu (x.l ++ y.l)) else .no
theorem fe_catU {fa fb : γ → Xc (Tu α)} (ha : FE X c G a fa) (hb : FE X c G b fb) : FE X c G (.BinOp a .Add b pos) (fun g => (fa g).bind fun i => (fb g).bind fun j => catU i j) :=
  two (fun h1 h2 => pe_op op_catA h1 h2) ha hb fun {F H x y i j Q E} s r1 r2 p => by
    unfold catU at p
    by_cases h : i.l.length + j.l.length ≤ sizeLine
    · rw [if_pos h] at p
      obtain ⟨a1, xs, rfl, hx, hz, rx⟩ := r1
      obtain ⟨a2, ys, rfl, hy, hz2, ry⟩ := r2
      have lx := rx.len
      have ly := ry.len
      refine ⟨a1, a2, xs, ys, rfl, rfl, Same.seqT s hx, Same.seqT s hy, by omega, fun e => ?_, fun e1 e2 => ?_, fun e1 e2 t ht => ?_⟩
      · have : i.l = [] := by cases q : i.l with
          | nil => rfl
          | cons _ _ => rw [q, e] at lx; cases lx
        exact p.ret s ⟨a2, ys, rfl, hy, by show (i.l ++ j.l).length ≤ _; rw [this]; exact hz2, by show Al _ _ _ (i.l ++ j.l); rw [this]; exact ry⟩
      · have : j.l = [] := by cases q : j.l with
          | nil => rfl
          | cons _ _ => rw [q, e2] at ly; cases ly
        exact p.ret s ⟨a1, xs, rfl, hx, by show (i.l ++ j.l).length ≤ _; rw [this, List.append_nil]; exact hz, by show Al _ _ _ (i.l ++ j.l); rw [this, List.append_nil]; exact rx⟩
      · have w2 := Wd.new (o := .tup (xs ++ ys)) s ht
        exact p (.ref t) _ _ w2 ⟨t, _, rfl, SqT.of upd_same, by show (i.l ++ j.l).length ≤ _; rw [List.length_append]; exact h, (rx.app ry).mono w2.f⟩
    · rw [if_neg h] at p; exact p.elim
end
end FL

/-! FL19: sums and repeats of new lists, slices as new lists, targets of two names in a block. -/
namespace FL
open PySem L2
section
variable {X : Cx} {c : C0} {γ α β ρ : Type} {G : EnvT γ} [Rp α] [Rp β] [Rp ρ] {a b d e tg : Expr} {pos p p2 : Pos} {lo hi : Option Expr}
@[irreducible] def catL {α : Type} (x y : List α) : Xc (List α) := if x.length + y.length ≤ sizeLine then .ok (x ++ y) else .no
theorem fo_cat {fa fb : γ → Xc (List α)} (ha : FO X c G a fa) (hb : FO X c G b fb) : FO X c G (.BinOp a .Add b pos) (fun g => (fa g).bind fun i => (fb g).bind fun j => catL i j) :=
  PE.imp (pe_op op_cat ha hb) fun σ H Q ⟨F, g, w, q, h⟩ => by
    refine ⟨F, g, w, q, ?_⟩
    cases e1 : fa g with
    | ok l =>
      intro p1 xs F1 H1 w1 n1 f1 h1 z1 r1
      simp only [e1] at h
      have h : PoO X.K F H Q (WE c.W σ) ((fb g).bind fun j => catL l j) := h
      refine ⟨F1, g, w.trans w1, G.mono q w1, ?_⟩
      cases e2 : fb g with
      | ok m =>
        intro p2 ys F2 H2 w2 n2 f2 h2 z2 r2
        simp only [e2] at h
        have h : PoO X.K F H Q (WE c.W σ) (catL l m) := h
        unfold catL at h
        by_cases hz : l.length + m.length ≤ sizeLine
        · rw [if_pos hz] at h
          have lx := r1.len
          have ly := r2.len
          refine ⟨p1, p2, xs, ys, rfl, rfl, w2.h _ _ h1, h2, by omega, fun t ht => ?_⟩
          exact h t (xs ++ ys) F2 _ ((w1.trans w2).trans (Wd.newO w2.s ht)) ((w1.trans w2).h.free ht) (w2.s.free ht) upd_same (by rw [List.length_append]; exact hz) ((r1.mono w2.f).app r2)
        · rw [if_neg hz] at h; exact h.elim
      | er c' fs => simp only [e2] at h; exact ErP.on (show ErP X.K F H (WE c.W σ) c' fs from h) w1
      | no => simp only [e2] at h; exact h
    | er c' fs => simp only [e1] at h; exact h
    | no => simp only [e1] at h; exact h
def repL {α : Type} (l : List α) (k : Int) : List α := (List.replicate k.toNat l).flatten
@[irreducible] def repX {α : Type} (l : List α) (k : Int) : Xc (List α) := if -(2 ^ 63) ≤ k ∧ k < 2 ^ 63 ∧ l.length * k.toNat ≤ sizeLine then .ok (repL l k) else .no
theorem al_flat {K : PySem.W.Frag} {F : Hp} {xs : List V} {l : List α} (r : Al K F xs l) : ∀ n : Nat, Al K F (List.replicate n xs).flatten (List.replicate n l).flatten
  | 0 => .nil
  | n + 1 => by
    rw [List.replicate_succ, List.replicate_succ, List.flatten_cons, List.flatten_cons]
    exact r.app (al_flat r n)
theorem repL_len (l : List α) (k : Int) : (repL l k).length = l.length * k.toNat := by
  unfold repL
  rw [List.length_flatten, List.map_replicate, List.sum_replicate_nat, Nat.mul_comm]
theorem fo_rep {fa : γ → Xc (List α)} {fb : γ → Xc Int} (ha : FO X c G a fa) (hb : FE X c G b fb) : FO X c G (.BinOp a .Mult b pos) (fun g => (fa g).bind fun i => (fb g).bind fun j => repX i j) :=
  PE.imp (pe_op op_rep ha hb) fun σ H Q ⟨F, g, w, q, h⟩ => by
    refine ⟨F, g, w, q, ?_⟩
    cases e1 : fa g with
    | ok l =>
      intro p1 xs F1 H1 w1 n1 f1 h1 z1 r1
      simp only [e1] at h
      have h : PoO X.K F H Q (WE c.W σ) ((fb g).bind fun j => repX l j) := h
      refine ⟨F1, g, w.trans w1, G.mono q w1, ?_⟩
      cases e2 : fb g with
      | ok k =>
        intro u F2 H2 w2 r2
        simp only [e2] at h
        have h : PoO X.K F H Q (WE c.W σ) (repX l k) := h
        unfold repX at h
        by_cases hz : -(2 ^ 63) ≤ k ∧ k < 2 ^ 63 ∧ l.length * k.toNat ≤ sizeLine
        · rw [if_pos hz] at h
          refine ⟨p1, k, xs, rfl, r2, w2.h _ _ h1, hz.1, hz.2.1, by rw [r1.len]; exact hz.2.2, fun t ht => ?_⟩
          exact h t _ F2 _ ((w1.trans w2).trans (Wd.newO w2.s ht)) ((w1.trans w2).h.free ht) (w2.s.free ht) upd_same (by rw [repL_len]; exact hz.2.2) (al_flat (r1.mono w2.f) _)
        · rw [if_neg hz] at h; exact h.elim
      | er c' fs => simp only [e2] at h; exact ErP.on (show ErP X.K F H (WE c.W σ) c' fs from h) w1
      | no => simp only [e2] at h; exact h
    | er c' fs => simp only [e1] at h; exact h
    | no => simp only [e1] at h; exact h
/-- a slice of a list is new -/
theorem fo_slL {f : γ → Xc (List α)} {fl fh : γ → Xc (Option Int)} (ha : FE X c G a f) (hl : FP X c G lo fl) (hu : FP X c G hi fh) :
    FO X c G (.Subscript a (.Slice lo hi none p2) pos) (fun g => (f g).bind fun i => (fl g).bind fun l => (fh g).bind fun u => Xc.ok (cutL i l u)) :=
  PE.imp (pe_slice sl_list ha hl hu) fun σ H Q ⟨F, g, w, q, p⟩ => by
    refine ⟨F, g, w, q, ?_⟩
    cases e1 : f g with
    | ok i =>
      rintro v F1 H1 w1 ⟨b, xs, rfl, hx, hz, r⟩
      simp only [e1] at p
      have p : PoO X.K F H Q (WE c.W σ) ((fl g).bind fun l => (fh g).bind fun u => Xc.ok (cutL i l u)) := p
      refine ⟨F1, g, w.trans w1, G.mono q w1, ?_⟩
      cases e2 : fl g with
      | ok l =>
        intro F2 H2 w2
        simp only [e2] at p
        have p : PoO X.K F H Q (WE c.W σ) ((fh g).bind fun u => Xc.ok (cutL i l u)) := p
        refine ⟨F2, g, (w.trans w1).trans w2, G.mono (G.mono q w1) w2, ?_⟩
        cases e3 : fh g with
        | ok u =>
          intro F3 H3 w3
          simp only [e3] at p
          have p : PoO X.K F H Q (WE c.W σ) (.ok (cutL i l u)) := p
          have w4 := (w1.trans w2).trans w3
          refine ⟨b, xs, rfl, Same.seq (((w2.trans w3).f).trans w3.s) hx, fun k hk => ?_⟩
          exact p k _ F3 _ (w4.trans (Wd.newO w3.s hk)) (w4.h.free hk) (w3.s.free hk) upd_same (Nat.le_trans (cutL_len _ _ _) hz) (cutL_al ((r.mono w2.f).mono w3.f))
        | er c' fs => simp only [e3] at p; exact ErP.on (show ErP X.K F H (WE c.W σ) c' fs from p) (w1.trans w2)
        | no => simp only [e3] at p; exact p
      | er c' fs => simp only [e2] at p; exact ErP.on (show ErP X.K F H (WE c.W σ) c' fs from p) w1
      | no => simp only [e2] at p; exact p
    | er c' fs => simp only [e1] at p; exact p
    | no => simp only [e1] at p; exact p
end
section
variable {X : Cx} {γ γ1 γb α β : Type} {G : EnvT γ} {G1 : EnvT γ1} {Gb : EnvT γb} [Rp α] [Rp β] {scope : Scope} {kk : Nat} {p p1 p2 : Pos} {x y : Str}
theorem fgb_two (i j : Nat) {ψ1 : γ → α → γ1} {ψ2 : γ1 → β → γb} [P1 : Put G i α G1 ψ1] [P2 : Put G1 j β Gb ψ2] (hN : X.N.Nodup) (hc : X.calm = true := by rfl) (hi : X.N[i]? = some x := by rfl) (hj : X.N[j]? = some y := by rfl)
    (hxe : ∀ C cl, Loc (compEnvC scope cl C X.env).scope x := by intro _ _; first | exact Or.inl rfl | exact Or.inr rfl) (hye : ∀ C cl, Loc (compEnvC scope cl C X.env).scope y := by intro _ _; first | exact Or.inl rfl | exact Or.inr rfl)
    (hf : ∀ C cl, (scope.names.lookup x == some .cell) = true ∨ (compEnvC scope cl C X.env).scope.names.lookup x = some .local := by intro _ _; first | exact .inl rfl | exact .inr rfl)
    (hf2 : ∀ C cl, (scope.names.lookup y == some .cell) = true ∨ (compEnvC scope cl C X.env).scope.names.lookup y = some .local := by intro _ _; first | exact .inl rfl | exact .inr rfl) :
    FGB X scope G (.Tuple [.Name x p1, .Name y p2] kk p) Gb [i, j] (fun g (a : α × β) => ψ2 (ψ1 g a.1) a.2) :=
  ⟨gTup X.K 2 (gCons (gName i) (gCons (gName j) gNil)), fun s H C cl fp => pg_tup hc (pgs_cons (pg_name hN hi (hxe C cl) (hf C cl)) (pgs_cons (pg_name hN hj (hye C cl) (hf2 C cl)) pgs_nil)), fun H0 F H σ g v a Q s q r k => by
    obtain ⟨b, u, z, rfl, h, r1, r2⟩ := r
    refine ⟨b, [u, z], rfl, Same.seqT s h, rfl, u, [z], rfl, z, [], rfl, rfl, ?_⟩
    refine k _ ?_ (P2.put (P1.put q r1) r2)
    show ((((σ.set i (some u)).set j (some z)).set j none).set i none) = (σ.set j none).set i none
    rw [List.set_set]
    by_cases e : i = j
    · subst e; rw [List.set_set, List.set_set, List.set_set]
    · rw [List.set_comm _ _ (fun z => e z.symm), List.set_comm _ _ e, List.set_comm (some u) none e, List.set_set, List.set_comm _ _ (fun z => e z.symm)]⟩
end
end FL

/-! FL20: data as a tuple of ints; lending in straight code. -/
namespace FL
open PySem L2
def intsD : List PyData → Option (List Int)
  | [] => some []
  | .int i :: r => (intsD r).map (i :: ·)
  | _ :: _ => none
def asTI (d : PyData) : Xc (Tu Int) := match d with
  | .tuple l => if l.length ≤ sizeLine then (match intsD l with
    | some r => .ok (tu r)
    | none => .no) else .no
  | _ => .no
theorem intsD_al {K : PySem.W.Frag} {F : Hp} : ∀ {l : List PyData} {vs : List V} {r : List Int}, DpAll K F vs l → intsD l = some r → Al K F vs r
  | [], vs, r, h, e => by
    cases h
    have e : some [] = some r := e
    cases e
    exact .nil
  | d :: l, vs, r, h, e => by
    cases h with
    | cons h1 h2 =>
      cases h1 with
      | int i =>
        have e : (intsD l).map (i :: ·) = some r := e
        cases q : intsD l with
        | none => rw [q] at e; cases e
        | some r' =>
          rw [q] at e
          cases e
          exact .cons rfl (intsD_al h2 q)
      | _ => cases e
theorem intsD_len : ∀ {l : List PyData} {r : List Int}, intsD l = some r → r.length = l.length
  | [], r, e => by have e : some [] = some r := e; cases e; rfl
  | d :: l, r, e => by
    cases d with
    | int i =>
      have e : (intsD l).map (i :: ·) = some r := e
      cases q : intsD l with
      | none => rw [q] at e; cases e
      | some r' => rw [q] at e; cases e; simp [intsD_len q]
    | _ => cases e
section
variable {X : Cx} {c : C0} {γ δ γ' : Type} {G : EnvT γ} {e : Expr}
theorem fe_asTI {fa : γ → Xc PyData} (ha : FE X c G e fa) : FE X c G e (fun g => (fa g).bind asTI) :=
  fe_from (fun {K F v a b} h r => by
    unfold asTI at h
    split at h
    · rename_i l
      by_cases z : l.length ≤ sizeLine
      · rw [if_pos z] at h
        split at h
        · rename_i q eq
          cases h
          obtain ⟨r, _⟩ := r
          cases r with
          | tup hq hr => exact ⟨_, _, rfl, hq, by show _ ≤ sizeLine; rw [show (Tu.l (tu q)).length = l.length from intsD_len eq]; exact z, intsD_al hr eq⟩
        · cases h
      · rw [if_neg z] at h; cases h
    · cases h) (fun a c fs h => by
    unfold asTI at h
    split at h
    · split at h
      · split at h <;> cases h
      · cases h
    · cases h) ha
end
section
variable {X : Cx} {c : C1} {γ δ γ' : Type} {G : EnvT γ} {Gl : EnvT δ} {G' : EnvT γ'} {sts : List Stmt}
theorem fns_lend {m : δ → Xc γ'} {h : γ → δ} [B : Bor G Gl h] (hs : FNs X c Gl sts G' m) : FNs X c G sts G' (fun g => m (h g)) :=
  PSs.imp hs fun D σ H ⟨F, g, w, q, p⟩ => by
    obtain ⟨F1, w1, q1, _, s1⟩ := lend (B := B) w q
    exact ⟨F1, h g, w1, q1, p.on s1 Ag.refl⟩
end
end FL

/-! FL21: membership of data; insert. -/
namespace FL
open PySem L2
section
variable {X : Cx} {c : C0} {γ α : Type} {G : EnvT γ} [Rp α] {a b e : Expr} {pos : Pos}
@[irreducible] def inDX {α : Type} [Rp α] [ToD α] (a : α) (l : List α) : Xc Bool := if SeqAt.shaped (ToD.d a) = true ∧ SeqAt.shaped (ToD.d l) = true then .ok ((l.map ToD.d).any fun z => PyData.eqv z (ToD.d a)) else .no
theorem room65 {k : Nat} {A : Around} (r : Room k A) : A.units + 65 < cLine := by have := r.un; omega
theorem fe_inD [ToD α] {fa : γ → Xc α} {fb : γ → Xc (List α)} {k : Nat} (hr : Room k X.A) (ha : FE X c G a fa) (hb : FE X c G b fb) (hm : behindInMarks .In b = false := by rfl) : FE X c G (.Compare a [.In] [b] pos) (fun g => (fa g).bind fun i => (fb g).bind fun j => inDX i j) :=
  two (fun h1 h2 => pe_cmpR (op_inD (room65 hr)) h1 h2 hm) ha hb fun {F H x y i j Q E} s r1 r2 p => by
    unfold inDX at p
    by_cases z : SeqAt.shaped (ToD.d i) = true ∧ SeqAt.shaped (ToD.d j) = true
    · rw [if_pos z] at p; exact ⟨_, _, dp_mono s (ToD.is r1), dp_mono s (ToD.is (α := List α) r2), z.1, z.2, p.ret s rfl⟩
    · rw [if_neg z] at p; exact p.elim
theorem fe_ninD [ToD α] {fa : γ → Xc α} {fb : γ → Xc (List α)} {k : Nat} (hr : Room k X.A) (ha : FE X c G a fa) (hb : FE X c G b fb) (hm : behindInMarks .NotIn b = false := by rfl) : FE X c G (.Compare a [.NotIn] [b] pos) (fun g => (fa g).bind fun i => (fb g).bind fun j => (inDX i j).bind fun t => Xc.ok (!t)) :=
  two (fun h1 h2 => pe_cmpR (op_notInD (room65 hr)) h1 h2 hm) ha hb fun {F H x y i j Q E} s r1 r2 p => by
    unfold inDX at p
    by_cases z : SeqAt.shaped (ToD.d i) = true ∧ SeqAt.shaped (ToD.d j) = true
    · rw [if_pos z] at p; exact ⟨_, _, dp_mono s (ToD.is r1), dp_mono s (ToD.is (α := List α) r2), z.1, z.2, p.ret s rfl⟩
    · rw [if_neg z] at p; exact p.elim
theorem ft_inD [ToD α] {fa : γ → Xc α} {fb : γ → Xc (List α)} {k : Nat} (hr : Room k X.A) (ha : FE X c G a fa) (hb : FE X c G b fb) (hm : behindInMarks .In b = false := by rfl) : FT X c G (.Compare a [.In] [b] pos) (fun g => (fa g).bind fun i => (fb g).bind fun j => inDX i j) :=
  twoT (fun h1 h2 => pt_cmpR (op_inD (room65 hr)) h1 h2 hm) ha hb fun {F H x y i j Q E} s r1 r2 p => by
    unfold inDX at p
    by_cases z : SeqAt.shaped (ToD.d i) = true ∧ SeqAt.shaped (ToD.d j) = true
    · rw [if_pos z] at p; exact ⟨_, _, dp_mono s (ToD.is r1), dp_mono s (ToD.is (α := List α) r2), z.1, z.2, _, rfl, p.ret s⟩
    · rw [if_neg z] at p; exact p.elim
theorem ft_ninD [ToD α] {fa : γ → Xc α} {fb : γ → Xc (List α)} {k : Nat} (hr : Room k X.A) (ha : FE X c G a fa) (hb : FE X c G b fb) (hm : behindInMarks .NotIn b = false := by rfl) : FT X c G (.Compare a [.NotIn] [b] pos) (fun g => (fa g).bind fun i => (fb g).bind fun j => (inDX i j).bind fun t => Xc.ok (!t)) :=
  twoT (fun h1 h2 => pt_cmpR (op_notInD (room65 hr)) h1 h2 hm) ha hb fun {F H x y i j Q E} s r1 r2 p => by
    unfold inDX at p
    by_cases z : SeqAt.shaped (ToD.d i) = true ∧ SeqAt.shaped (ToD.d j) = true
    · rw [if_pos z] at p; exact ⟨_, _, dp_mono s (ToD.is r1), dp_mono s (ToD.is (α := List α) r2), z.1, z.2, _, rfl, p.ret s⟩
    · rw [if_neg z] at p; exact p.elim
end
section
variable {X : Cx} {c : C1} {γ γ' : Type} {G : EnvT γ} {e k : Expr} {pos p1 p2 : Pos} {x : Str}
@[irreducible] def insX {α : Type} (l : List α) (i : Int) (a : α) : Xc (List α) := if l.length < sizeLine ∧ 0 ≤ i ∧ i < 2 ^ 63 then .ok (l.take i.toNat ++ [a] ++ l.drop i.toNat) else .no
/-- x.insert(k, e) -/
theorem fn_insert (i : Nat) {τ : Type} {r : Rp τ} {π : γ → List τ} {put : γ → List τ → γ} [A : AtO G i τ r π put] {fa : γ → Xc τ} {fk : γ → Xc Int} {apos cpos : Pos} (hk : FE X c.toC0 G k fk) (ha : FE X c.toC0 G e fa) (hN : X.N[i]? = some x := by rfl) (hv : Vis X.env.scope x := by first | exact Or.inl rfl | exact Or.inr (Or.inl rfl) | exact Or.inr (Or.inr rfl))
    (hd : (x == ("__debug__" : Str)) = false := by decide) (hcd : (x == ("__classdict__" : Str)) = false := by decide) (hbase : attributeBase (.Name x p1) "insert" X.env (eval (.Name x p1) X.env) = eval (.Name x p1) X.env := by rfl)
    (hfew : ((backTo cpos (starEach [k, e] X.env)).all (fun x => !x.1) && (backToKw cpos (keywordEach [] X.env)).all (fun x => x.1.isSome) && decide ([k, e].length + ([] : List Keyword).length + (if ([] : List Keyword).isEmpty then 0 else 1) < 30)) = true := by rfl)
    (hline : (apos.endLine == cpos.line) = true := by rfl) (hs : starEach [k, e] X.env = (false, eval k X.env) :: starEach [e] X.env := by rfl) (hs2 : starEach [e] X.env = (false, eval e X.env) :: starEach [] X.env := by rfl) (hplain : (backTo cpos (starEach [e] X.env)).any (·.1) = false := by rfl)
    (hsw : swapsWith (.Call (.Attribute (.Name x p1) "insert" apos) [k, e] [] cpos) none pos.line X.env = pure false := by rfl) :
    FN X c G (.Expr (.Call (.Attribute (.Name x p1) "insert" apos) [k, e] [] cpos) pos) G (fun g => (fk g).bind fun j => (fa g).bind fun v => (insX (π g) j v).bind fun l => Xc.ok (put g l)) :=
  PS.imp (ps_expr (pe_bm PySem.F.plainAttrs_list PySem.F.slot_list_insert PySem.F.type_list_insert mt_insert (pe_var hN hv hd hcd) (pa_cons hk (pa_cons ha pa_nil hs2) hs) hbase hfew hline hs hplain) hsw) fun D σ H ⟨F, g, w, q, h⟩ => by
    obtain ⟨p, xs, e1, m, hp, z, al⟩ := A.get q
    refine ⟨.ref p, e1, .inl ⟨rfl, _, SqL.of hp⟩, F, g, w, q, ?_⟩
    cases e3 : fk g with
    | ok j =>
      intro jv F1 H1 w1 rj
      simp only [e3] at h
      have h : PoN X.K c G D F H σ ((fa g).bind fun v => (insX (π g) j v).bind fun l => Xc.ok (put g l)) := h
      refine ⟨F1, g, w.trans w1, G.mono q w1, ?_⟩
      cases e2 : fa g with
      | ok v =>
        intro u F2 H2 w2 r2
        simp only [e2] at h
        have h : PoN X.K c G D F H σ ((insX (π g) j v).bind fun l => Xc.ok (put g l)) := h
        unfold insX at h
        by_cases hz : (π g).length < sizeLine ∧ 0 ≤ j ∧ j < 2 ^ 63
        · rw [if_pos hz] at h
          have w12 := w1.trans w2
          have rj : jv = .int j := rj
          refine ⟨p, xs, j, u, rfl, by rw [rj], w12.h _ _ hp, by rw [al.len]; exact hz.1, hz.2.1, hz.2.2, ?_⟩
          obtain ⟨h0, hf, _⟩ := G.al q m
          have q1 := G.mono q w12
          obtain ⟨_, hf1, _⟩ := G.al q1 m
          refine h σ F2 _ ⟨w12.f, (w.trans w12).mutd h0 hf1⟩ Ag.refl ?_
          have al2 := al.mono w12.f
          exact A.set q1 e1 (by simp only [List.length_append, List.length_take, List.length_drop, List.length_singleton]; omega) (((al2.take _).snoc r2).app (al2.drop _))
        · rw [if_neg hz] at h; exact h.elim
      | er c' fs => simp only [e2] at h; exact ErP.on (PoN.er h w) w1
      | no => simp only [e2] at h; exact h
    | er c' fs => simp only [e3] at h; exact PoN.er h w
    | no => simp only [e3] at h; exact h
end
end FL

/-! FZ1: zip over any two things that are walked by iterators of their own. -/
namespace FZ
open PySem RZ
section
variable (prog : Program) (w : World)
/-- it walks over get, P by the place -/
structure Wkr (P : Nat → Heap → Prop) (it l : Addr) (get : Nat → Option Value) : Prop where
  item : ∀ {A : Around} {E : Value → Shared → Prop} {s : Shared} {k : Nat} {x : Value} {Q : Value → Shared → Prop}, P k s.heap → get k = some x → (∀ h', P (k + 1) h' → Heap.SameBut it s.heap h' → Q x { s with heap := h' }) → wpAny (model prog w) A (Builtin.SmallTypes.nextOf (.ref it)) Q E s
  fin : ∀ {A : Around} {E : Value → Shared → Prop} {s : Shared} {k : Nat} {Q : Value → Shared → Prop}, A.handled = none → P k s.heap → get k = none → (∀ h' e, Heap.ExtBut it s.heap h' → (∃ o, h'.get? e = some o ∧ o.cls = .type "StopIteration") → E (.ref e) { s with heap := h' }) → wpAny (model prog w) A (Builtin.SmallTypes.nextOf (.ref it)) Q E s
  ext : ∀ {k : Nat} {h h' : Heap} {c : Addr}, P k h → Heap.ExtBut c h h' → it ≠ c → l ≠ c → P k h'
  up : ∀ {k : Nat} {h h' : Heap}, P k h → (∀ o, h.get? it = some o → h'.get? it = some o) → (∀ o, h.get? l = some o → h'.get? l = some o) → P k h'
  at_ : ∀ {k : Nat} {h : Heap}, P k h → ∃ o, h.get? it = some o
end
section
variable {prog : Program} {w : World} {A : Around} {E : Value → Shared → Prop} {s : Shared} {P1 P2 : Nat → Heap → Prop} {g1 g2 : Nat → Option Value} {z TI TO i1 i2 l1 l2 : Addr} {k1 k2 : Nat} {x y a b : Value}
theorem nxt (W1 : Wkr prog w P1 i1 l1 g1) (W2 : Wkr prog w P2 i2 l2 g2) (D : ZipApart z TI TO i1 i2 l1 l2) (hz : IsZip s.heap z TI TO .none) (hTI : IsPair s.heap TI (.ref i1) (.ref i2)) (hTO : IsPair s.heap TO a b) (h1 : P1 k1 s.heap) (h2 : P2 k2 s.heap) (hx : g1 k1 = some x) (hy : g2 k2 = some y)
    {Q : Value → Shared → Prop} (hQ : ∀ h', IsZip h' z TI TO (rawInt s.heap.objs.size) → IsPair h' TO x y → P1 (k1 + 1) h' → P2 (k2 + 1) h' → IsPair h' s.heap.objs.size x y → h'.objs.size = s.heap.objs.size + 1 → (∀ c o, c ≠ z → c ≠ TO → c ≠ i1 → c ≠ i2 → s.heap.get? c = some o → h'.get? c = some o) → Q (.ref s.heap.objs.size) { s with heap := h' }) :
    wpAny (model prog w) A (Builtin.«zip.__next__» ⟨[.ref z], []⟩) (fun fin s' => ∃ v, fin = .done (.ret v) ∧ Q v s') E s := by
  show wpAny _ _ (field (.ref z) 2 >>= _) _ _ _; refine wpAny_bind (wpAny_field hz rfl (x := .bool false) rfl ?_)
  show wpAny _ _ (field (.ref z) 3 >>= _) _ _ _; refine wpAny_bind (wpAny_field hz rfl (x := .ref TI) rfl (wpAny_bind (wpAny_seqItems hTI rfl ?_)))
  show wpAny _ _ (Builtin.SmallTypes.ownedTupleIsFree (.ref z) >>= _) _ _ _; refine wpAny_bind ?_; unfold Builtin.SmallTypes.ownedTupleIsFree
  refine wpAny_bind (wpAny_field hz rfl (x := .none) rfl (wpAny_pure ?_)); simp only [if_true]
  refine wpAny_bind (wpAny_rule (wpAny_bind (wpAny_field hz rfl (x := .ref TO) rfl (wpAny_bind (wpAny_setField_rec hz (by simp) fun hA zA sA => ?_)))))
  have zA : IsZip hA z TI TO .ellipsis := zA
  refine wpAny_bind ?_; simp only [List.zipIdx_cons, List.zipIdx_nil, List.forIn_cons, List.forIn_nil]
  refine wpAny_bind (wpAny_bind (wpAny_onRaise ?_)); show wpAny _ _ (Builtin.SmallTypes.nextOf (.ref i1) >>= _) _ _ _
  refine wpAny_bind (W1.item (W1.ext h1 sA.extBut D.i1z D.l1z) hx fun hB pB sB => wpAny_pure ?_)
  have tB : IsPair hB TO a b := sB.extBut _ _ D.TOi1 (sA.extBut _ _ D.TOz hTO)
  refine wpAny_bind (wpAny_seqItems tB rfl (wpAny_bind (wpAny_updateSeq_pair tB fun hC tC sC => ?_)))
  have tC : IsPair hC TO x b := tC
  refine wpAny_bind (wpAny_letGo (wpAny_pure (wpAny_bind (wpAny_bind (wpAny_onRaise ?_))))); show wpAny _ _ (Builtin.SmallTypes.nextOf (.ref i2) >>= _) _ _ _
  have p2C : P2 k2 hC := W2.ext (W2.ext (W2.ext h2 sA.extBut D.i2z D.l2z) sB.extBut D.i12.symm D.l2i1) sC.extBut D.TOi2.symm D.l2TO
  refine wpAny_bind (W2.item p2C hy fun hD pD sD => wpAny_pure ?_)
  have tD : IsPair hD TO x b := sD.extBut _ _ D.TOi2 tC
  refine wpAny_bind (wpAny_seqItems tD rfl (wpAny_bind (wpAny_updateSeq_pair tD fun hF tF sF => ?_)))
  have tF : IsPair hF TO x y := tF
  refine wpAny_bind (wpAny_letGo (wpAny_pure (wpAny_pure (wpAny_bind (wpAny_seqItems tF rfl (wpAny_bind (wpAny_newTuple ?_)))))))
  have sz : hF.objs.size = s.heap.objs.size := by rw [sF.1, sD.1, sC.1, sB.1, sA.1]
  have zF : IsZip hF z TI TO .ellipsis := sF.extBut _ _ D.TOz.symm (sD.extBut _ _ D.i2z.symm (sC.extBut _ _ D.TOz.symm (sB.extBut _ _ D.i1z.symm zA)))
  have kF : ∀ c o, c ≠ z → c ≠ TO → c ≠ i1 → c ≠ i2 → s.heap.get? c = some o → hF.get? c = some o := fun c o c1 c2 c3 c4 e => sF.extBut _ _ c2 (sD.extBut _ _ c4 (sC.extBut _ _ c2 (sB.extBut _ _ c3 (sA.extBut _ _ c1 e))))
  have p1F : P1 (k1 + 1) hF := W1.ext (W1.ext (W1.ext pB sC.extBut D.TOi1.symm D.l1TO) sD.extBut D.i12 D.l1i2) sF.extBut D.TOi1.symm D.l1TO
  have p2F : P2 (k2 + 1) hF := W2.ext pD sF.extBut D.TOi2.symm D.l2TO
  have lz : z < hF.objs.size := Heap.lt_size zF
  show wpAny _ _ (Builtin.SmallTypes.ownedTupleHandOut (.ref z) (.ref hF.objs.size) >>= _) _ _ _; refine wpAny_bind ?_; unfold Builtin.SmallTypes.ownedTupleHandOut
  have zG : IsZip (hF.push { cls := .type "tuple", data := .seq #[x, y] }) z TI TO .ellipsis := Heap.get?_push_of_some _ zF
  refine wpAny_bind (wpAny_setField_rec zG (by simp) fun hH zH sH => ?_); have zH : IsZip hH z TI TO (rawInt hF.objs.size) := zH
  refine wpAny_setField_rec zH (by simp) fun hI zI sI => ?_; have zI : IsZip hI z TI TO (rawInt hF.objs.size) := zI
  have up : ∀ c o, c ≠ z → hF.get? c = some o → hI.get? c = some o := fun c o c1 e => sI.extBut _ _ c1 (sH.extBut _ _ c1 (Heap.get?_push_of_some _ e))
  have tI : IsPair hI hF.objs.size x y := sI.extBut _ _ (Nat.ne_of_gt lz) (sH.extBut _ _ (Nat.ne_of_gt lz) (Heap.get?_push_size _ rfl))
  have sI8 : hI.objs.size = hF.objs.size + 1 := by rw [sI.1, sH.1, Heap.size_push]
  rw [sz] at zI tI sI8
  refine wpAny_pure ⟨_, rfl, ?_⟩; show Q (.ref hF.objs.size) _; rw [sz]
  exact hQ hI zI (up _ _ D.TOz tF) (W1.up p1F (fun o e => up _ o D.i1z e) fun o e => up _ o D.l1z e) (W2.up p2F (fun o e => up _ o D.i2z e) fun o e => up _ o D.l2z e) tI sI8 fun c o c1 c2 c3 c4 e => up c o c1 (kF c o c1 c2 c3 c4 e)
end
end FZ

/-! FZ2: the end of such a zip; its steps; a list, a tuple as a walker. -/
namespace FZ
open PySem RZ
section
variable {prog : Program} {w : World} {A : Around} {E : Value → Shared → Prop} {s : Shared} {P1 P2 : Nat → Heap → Prop} {g1 g2 : Nat → Option Value} {z TI TO i1 i2 l1 l2 : Addr} {k1 k2 : Nat} {x y a b : Value}
theorem done (W1 : Wkr prog w P1 i1 l1 g1) (W2 : Wkr prog w P2 i2 l2 g2) (hh : A.handled = none) (D : ZipApart z TI TO i1 i2 l1 l2) (hz : IsZip s.heap z TI TO .none) (hTI : IsPair s.heap TI (.ref i1) (.ref i2)) (hTO : IsPair s.heap TO a b) (h1 : P1 k1 s.heap) (h2 : P2 k2 s.heap) (he : g1 k1 = none ∨ g2 k2 = none)
    {Q : Fin → Shared → Prop} (hE : ∀ h' e, (∀ c o, c ≠ z → c ≠ TO → c ≠ i1 → c ≠ i2 → s.heap.get? c = some o → h'.get? c = some o) → (∃ o, h'.get? e = some o ∧ o.cls = .type "StopIteration") → E (.ref e) { s with heap := h' }) : wpAny (model prog w) A (Builtin.«zip.__next__» ⟨[.ref z], []⟩) Q E s := by
  show wpAny _ _ (field (.ref z) 2 >>= _) _ _ _; refine wpAny_bind (wpAny_field hz rfl (x := .bool false) rfl ?_)
  show wpAny _ _ (field (.ref z) 3 >>= _) _ _ _; refine wpAny_bind (wpAny_field hz rfl (x := .ref TI) rfl (wpAny_bind (wpAny_seqItems hTI rfl ?_)))
  show wpAny _ _ (Builtin.SmallTypes.ownedTupleIsFree (.ref z) >>= _) _ _ _; refine wpAny_bind ?_; unfold Builtin.SmallTypes.ownedTupleIsFree
  refine wpAny_bind (wpAny_field hz rfl (x := .none) rfl (wpAny_pure ?_)); simp only [if_true]
  refine wpAny_bind (wpAny_rule (wpAny_bind (wpAny_field hz rfl (x := .ref TO) rfl (wpAny_bind (wpAny_setField_rec hz (by simp) fun hA zA sA => ?_)))))
  have zA : IsZip hA z TI TO .ellipsis := zA
  refine wpAny_bind ?_; simp only [List.zipIdx_cons, List.zipIdx_nil, List.forIn_cons, List.forIn_nil]
  refine wpAny_bind (wpAny_bind (wpAny_onRaise ?_)); show wpAny _ _ (Builtin.SmallTypes.nextOf (.ref i1) >>= _) _ _ _
  have p1A : P1 k1 hA := W1.ext h1 sA.extBut D.i1z D.l1z
  cases hx : g1 k1 with
  | none =>
    refine wpAny_bind (W1.fin hh p1A hx fun hB e sB ⟨oe, hoe, hce⟩ => ?_)
    have zB : IsZip hB z TI TO .ellipsis := sB _ _ D.i1z.symm zA
    have ez : e ≠ z := fun q => by subst q; rw [zB] at hoe; cases hoe; simp at hce
    exact wpAny_setField_rec zB (by simp) fun hC _ sC => hE hC e (fun c o c1 _ c3 _ q => sC.extBut _ _ c1 (sB _ _ c3 (sA.extBut _ _ c1 q))) ⟨oe, sC.extBut _ _ ez hoe, hce⟩
  | some x =>
    have hy : g2 k2 = none := by rcases he with q | q; (rw [hx] at q; cases q); exact q
    refine wpAny_bind (W1.item p1A hx fun hB pB sB => wpAny_pure ?_)
    have tB : IsPair hB TO a b := sB.extBut _ _ D.TOi1 (sA.extBut _ _ D.TOz hTO)
    refine wpAny_bind (wpAny_seqItems tB rfl (wpAny_bind (wpAny_updateSeq_pair tB fun hC tC sC => ?_)))
    refine wpAny_bind (wpAny_letGo (wpAny_pure (wpAny_bind (wpAny_bind (wpAny_onRaise ?_))))); show wpAny _ _ (Builtin.SmallTypes.nextOf (.ref i2) >>= _) _ _ _
    have p2C : P2 k2 hC := W2.ext (W2.ext (W2.ext h2 sA.extBut D.i2z D.l2z) sB.extBut D.i12.symm D.l2i1) sC.extBut D.TOi2.symm D.l2TO
    refine wpAny_bind (W2.fin hh p2C hy fun hD e sD ⟨oe, hoe, hce⟩ => ?_)
    have zD : IsZip hD z TI TO .ellipsis := sD _ _ D.i2z.symm (sC.extBut _ _ D.TOz.symm (sB.extBut _ _ D.i1z.symm zA))
    have ez : e ≠ z := fun q => by subst q; rw [zD] at hoe; cases hoe; simp at hce
    exact wpAny_setField_rec zD (by simp) fun hF _ sF => hE hF e (fun c o c1 c2 c3 c4 q => sF.extBut _ _ c1 (sD _ _ c4 (sC.extBut _ _ c2 (sB.extBut _ _ c3 (sA.extBut _ _ c1 q))))) ⟨oe, sF.extBut _ _ ez hoe, hce⟩
theorem py_item (W1 : Wkr prog w P1 i1 l1 g1) (W2 : Wkr prog w P2 i2 l2 g2) (D : ZipApart z TI TO i1 i2 l1 l2) (hz : IsZip s.heap z TI TO .none) (hTI : IsPair s.heap TI (.ref i1) (.ref i2)) (hTO : IsPair s.heap TO a b) (h1 : P1 k1 s.heap) (h2 : P2 k2 s.heap) (hx : g1 k1 = some x) (hy : g2 k2 = some y)
    {Q : Option Value → Shared → Prop} (hQ : ∀ h', IsZip h' z TI TO (rawInt s.heap.objs.size) → IsPair h' TO x y → P1 (k1 + 1) h' → P2 (k2 + 1) h' → IsPair h' s.heap.objs.size x y → h'.objs.size = s.heap.objs.size + 1 → (∀ c o, c ≠ z → c ≠ TO → c ≠ i1 → c ≠ i2 → s.heap.get? c = some o → h'.get? c = some o) → Q (some (.ref s.heap.objs.size)) { s with heap := h' }) : wpAny (model prog w) A (pyNext (.ref z)) Q E s := by
  have T : s.TypeIs (.ref z) "zip" := ⟨_, hz, rfl⟩
  unfold pyNext
  exact wpAny_bind (wpAny_attempt (wpAny_callSpecial?_slot (name := Str.ofString "__next__") T F.slot_zip_next (wpAny_call_entry F.slot_zip_next T F.entry_zip_next (nxt W1 W2 D hz hTI hTO h1 h2 hx hy fun h' a1 a2 a3 a4 a5 a6 a7 => wpAny_pure (hQ h' a1 a2 a3 a4 a5 a6 a7)) (F.args_zip_next_1 _))))
theorem py_done (W1 : Wkr prog w P1 i1 l1 g1) (W2 : Wkr prog w P2 i2 l2 g2) (hh : A.handled = none) (D : ZipApart z TI TO i1 i2 l1 l2) (hz : IsZip s.heap z TI TO .none) (hTI : IsPair s.heap TI (.ref i1) (.ref i2)) (hTO : IsPair s.heap TO a b) (h1 : P1 k1 s.heap) (h2 : P2 k2 s.heap) (he : g1 k1 = none ∨ g2 k2 = none)
    {Q : Option Value → Shared → Prop} (hQ : ∀ h', (∀ c o, c ≠ z → c ≠ TO → c ≠ i1 → c ≠ i2 → s.heap.get? c = some o → h'.get? c = some o) → Q none { s with heap := h' }) : wpAny (model prog w) A (pyNext (.ref z)) Q E s := by
  have T : s.TypeIs (.ref z) "zip" := ⟨_, hz, rfl⟩
  unfold pyNext
  refine wpAny_bind (wpAny_attempt (wpAny_callSpecial?_slot (name := Str.ofString "__next__") T F.slot_zip_next (wpAny_call_entry F.slot_zip_next T F.entry_zip_next (done (A := A.in1) W1 W2 hh D hz hTI hTO h1 h2 he fun h' e hk ⟨o, ho, hc⟩ => ?_) (F.args_zip_next_1 _))))
  exact wpAny_bind (wpAny_isInstance (T := "StopIteration") (b := true) ⟨o, ho, hc⟩ isSubtype_stop (wpAny_pure (hQ _ hk)))
end
end FZ

/-! FZ3: lists and tuples as walkers; the zip of a tuple with a list, of a list with a tuple. -/
namespace FZ
open PySem RZ
section
variable {prog : Program} {w : World} {it l : Addr} {items : Array Value}
def PL (it l : Addr) (items : Array Value) (k : Nat) (h : Heap) : Prop := h.IsListIter it l k ∧ h.IsList l items
def PT (it l : Addr) (items : Array Value) (k : Nat) (h : Heap) : Prop := h.IsTupleIter it l k ∧ h.IsTuple l items
theorem wkL (ne : l ≠ it) : Wkr prog w (PL it l items) it l (fun k => items[k]?) :=
  ⟨fun ⟨h1, h2⟩ hx q => wpAny_nextOf_list_item h1 h2 hx fun h' a sb => q h' ⟨a, h2.extBut sb.extBut ne⟩ sb, fun hh ⟨h1, h2⟩ hx q => wpAny_nextOf_list_end hh h1 h2 hx q, fun ⟨h1, h2⟩ e c1 c2 => ⟨h1.extBut e c1, h2.extBut e c2⟩,
    fun ⟨h1, h2⟩ e1 e2 => ⟨h1.at e1, h2.at e2⟩, fun ⟨⟨o, e, _⟩, _⟩ => ⟨o, e⟩⟩
theorem wkT (ne : l ≠ it) : Wkr prog w (PT it l items) it l (fun k => items[k]?) :=
  ⟨fun ⟨h1, h2⟩ hx q => RZ.nextOf_tuple_item h1 h2 hx fun h' a sb => q h' ⟨a, h2.extBut sb.extBut ne⟩ sb, fun hh ⟨h1, h2⟩ hx q => RZ.nextOf_tuple_end hh h1 h2 hx q, fun ⟨h1, h2⟩ e c1 c2 => ⟨h1.extBut e c1, h2.extBut e c2⟩,
    fun ⟨h1, h2⟩ e1 e2 => ⟨h1.at e1, h2.at e2⟩, fun ⟨⟨o, e, _⟩, _⟩ => ⟨o, e⟩⟩
end
/-- the heap behind zip(a, b): iterators of the kinds A, B -/
abbrev ZA (A : String) (h : Heap) (a : Addr) : Heap := h.push { cls := .type A, data := .fields #[.ref a, .int 0 0] }
abbrev ZB (A B : String) (h : Heap) (a b : Addr) : Heap := (ZA A h a).push { cls := .type B, data := .fields #[.ref b, .int 0 0] }
abbrev ZC (A B : String) (h : Heap) (a b : Addr) : Heap := (ZB A B h a b).push { cls := .type "tuple", data := .seq #[.ref h.objs.size, .ref (ZA A h a).objs.size] }
abbrev ZD (A B : String) (h : Heap) (a b : Addr) : Heap := (ZC A B h a b).push { cls := .type "tuple", data := .seq #[.none, .none] }
abbrev ZE (A B : String) (h : Heap) (a b : Addr) : Heap := (ZD A B h a b).push { cls := .type "zip", data := .fields #[.none, .bool false, .bool false, .ref (ZB A B h a b).objs.size, .ref (ZC A B h a b).objs.size] }
theorem newTL (a b : Addr) (xs ys : Array Value) : Meets (Builtin.«zip.__new__» ⟨[.type "zip", .ref a, .ref b], []⟩) (fun _ R s => (s.heap.IsTuple a xs ∧ s.heap.IsList b ys) ∧ R (.ok (.ret (.ref (ZD "tuple_iterator" "list_iterator" s.heap a b).objs.size))) { s with heap := ZE "tuple_iterator" "list_iterator" s.heap a b }) :=
  .of_wp fun prog w A R s h => by
    obtain ⟨hp, g, d, tk, os⟩ := s; obtain ⟨⟨m1, m2⟩, h⟩ := h; have hsub := sub_zip
    have hL1 : Heap.IsTuple (Shared.heap ⟨hp, g, d, tk, os⟩) a xs := m1; have hL2 : Heap.IsList (Shared.heap ⟨ZA "tuple_iterator" hp a, g, d, tk, os⟩) b ys := Heap.IsList.at m2 fun o e => Heap.get?_push_of_some _ e
    wp_walk using wpAny_pyIter_tuple hL1, wpAny_pyIter_list hL2; exact ⟨_, rfl, h⟩
theorem newLT (a b : Addr) (xs ys : Array Value) : Meets (Builtin.«zip.__new__» ⟨[.type "zip", .ref a, .ref b], []⟩) (fun _ R s => (s.heap.IsList a xs ∧ s.heap.IsTuple b ys) ∧ R (.ok (.ret (.ref (ZD "list_iterator" "tuple_iterator" s.heap a b).objs.size))) { s with heap := ZE "list_iterator" "tuple_iterator" s.heap a b }) :=
  .of_wp fun prog w A R s h => by
    obtain ⟨hp, g, d, tk, os⟩ := s; obtain ⟨⟨m1, m2⟩, h⟩ := h; have hsub := sub_zip
    have hL1 : Heap.IsList (Shared.heap ⟨hp, g, d, tk, os⟩) a xs := m1; have hL2 : Heap.IsTuple (Shared.heap ⟨ZA "list_iterator" hp a, g, d, tk, os⟩) b ys := Heap.IsTuple.at m2 fun o e => Heap.get?_push_of_some _ e
    wp_walk using wpAny_pyIter_list hL1, wpAny_pyIter_tuple hL2; exact ⟨_, rfl, h⟩
end FZ

/-! FZ4: the call of zip; its walk. -/
namespace FZ
open PySem RZ
section
variable {prog : Program} {w : World} {X0 : Around} {E : Value → Shared → Prop} {s : Shared} {a b : Addr} {A B : String} {Pre : Heap → Prop}
theorem zcall (M : Meets (Builtin.«zip.__new__» ⟨[.type "zip", .ref a, .ref b], []⟩) (fun _ R s => Pre s.heap ∧ R (.ok (.ret (.ref (ZD A B s.heap a b).objs.size))) { s with heap := ZE A B s.heap a b })) (hp : Pre s.heap) {Q : Value → Shared → Prop}
    (h : ∀ h', IsZip h' (s.heap.objs.size + 4) (s.heap.objs.size + 2) (s.heap.objs.size + 3) .none → IsPair h' (s.heap.objs.size + 2) (.ref s.heap.objs.size) (.ref (s.heap.objs.size + 1)) → IsPair h' (s.heap.objs.size + 3) .none .none →
      h'.get? s.heap.objs.size = some { cls := .type A, data := .fields #[.ref a, .int 0 0] } → h'.get? (s.heap.objs.size + 1) = some { cls := .type B, data := .fields #[.ref b, .int 0 0] } → (∀ c o, s.heap.get? c = some o → h'.get? c = some o) → Q (.ref (s.heap.objs.size + 4)) { s with heap := h' }) :
    wpAny (model prog w) X0 (call (.type "zip") [.ref a, .ref b]) Q E s := by
  refine callType_new F.called_zip (by decide) (F.typeCall_zip_2 _ _) (F.newCall_zip_2 _ _) (fun obj => F.args_object_init_3 obj _ _) F.entry_zip_new M ⟨hp, ?_⟩
  have e1 : (ZA A s.heap a).objs.size = s.heap.objs.size + 1 := Heap.size_push ..
  have e2 : (ZB A B s.heap a b).objs.size = s.heap.objs.size + 2 := by rw [Heap.size_push, e1]
  have e3 : (ZC A B s.heap a b).objs.size = s.heap.objs.size + 3 := by rw [Heap.size_push, e2]
  have e4 : (ZD A B s.heap a b).objs.size = s.heap.objs.size + 4 := by rw [Heap.size_push, e3]
  have q5 : (ZE A B s.heap a b).get? (ZD A B s.heap a b).objs.size = some _ := Heap.get?_push_size _ rfl
  have q4 : (ZE A B s.heap a b).get? (ZC A B s.heap a b).objs.size = some _ := Heap.get?_push_of_some _ (Heap.get?_push_size _ rfl)
  have q3 : (ZE A B s.heap a b).get? (ZB A B s.heap a b).objs.size = some _ := Heap.get?_push_of_some _ (Heap.get?_push_of_some _ (Heap.get?_push_size _ rfl))
  have q2 : (ZE A B s.heap a b).get? (ZA A s.heap a).objs.size = some _ := Heap.get?_push_of_some _ (Heap.get?_push_of_some _ (Heap.get?_push_of_some _ (Heap.get?_push_size _ rfl)))
  have q1 : (ZE A B s.heap a b).get? s.heap.objs.size = some _ := Heap.get?_push_of_some _ (Heap.get?_push_of_some _ (Heap.get?_push_of_some _ (Heap.get?_push_of_some _ (Heap.get?_push_size _ rfl))))
  show _ ∧ _
  rw [e2, e3, e4] at q5; rw [e1, e2] at q3; rw [e3] at q4; rw [e1] at q2; rw [e4]
  exact ⟨⟨_, q5, rfl⟩, h _ q5 q3 q4 q1 q2 fun c o x => Heap.get?_push_of_some _ (Heap.get?_push_of_some _ (Heap.get?_push_of_some _ (Heap.get?_push_of_some _ (Heap.get?_push_of_some _ x))))⟩
end
end FZ

/-! FZ5: the walk of zip(tuple, list). -/
namespace FZ
open PySem RZ L2 PyProof.Rows
def ItM (K : PySem.W.Frag) (a b : Addr) : It :=
  ⟨fun i H => ∃ (xs ys : List V) (x y : V), SqT K H a xs ∧ SqL K H b ys ∧ xs[i]? = some x ∧ ys[i]? = some y, fun i H v H' => ∃ T x y, v = .ref T ∧ H T = none ∧ H' = upd H T (.tup [x, y]) ∧ (∀ xs, SqT K H a xs → xs[i]? = some x) ∧ ∀ ys, SqL K H b ys → ys[i]? = some y,
    fun i H => ∃ xs ys : List V, SqT K H a xs ∧ SqL K H b ys ∧ (xs.length ≤ i ∨ ys.length ≤ i)⟩
theorem turnM {P : Program} {w : World} {K : PySem.W.Frag} {elts : List Expr} {kk : Nat} {tpos : Pos} {a b z TI TO i1 i2 : Addr} (D : ZipApart z TI TO i1 i2 a b) :
    Turn P w K (.Tuple elts kk tpos) (ItM K a b) [z, TI, TO, i1, i2] z (fun i h => IsZip h z TI TO .none ∧ IsPair h TI (.ref i1) (.ref i2) ∧ (∃ x y, IsPair h TO x y) ∧ h.IsTupleIter i1 a i ∧ h.IsListIter i2 b i) where
  mem := by simp
  obj := fun i h ⟨hz, hTI, ⟨x, y, hTO⟩, ⟨o1, e1, _, d1⟩, ⟨o2, e2, _, d2⟩⟩ c hc => by
    have e' : c = z ∨ c = TI ∨ c = TO ∨ c = i1 ∨ c = i2 := (by simpa using hc); rcases e' with q | q | q | q | q <;> rw [q]
    · exact ⟨_, hz, fun v q => nomatch q⟩
    · exact ⟨_, hTI, fun v q => nomatch q⟩
    · exact ⟨_, hTO, fun v q => nomatch q⟩
    · exact ⟨o1, e1, fun v q => by rw [d1] at q; cases q⟩
    · exact ⟨o2, e2, fun v q => by rw [d2] at q; cases q⟩
  keep := fun i h h' ⟨hz, hTI, ⟨x, y, hTO⟩, h1, h2⟩ k => ⟨k z (by simp) _ hz, k TI (by simp) _ hTI, ⟨x, y, k TO (by simp) _ hTO⟩, h1.at fun o q => k i1 (by simp) o q, h2.at fun o q => k i2 (by simp) o q⟩
  item := by
    intro X hP hw hK hc i pins s σ H E I hf ⟨hz, hTI, ⟨x0, y0, hTO⟩, h1, h2⟩ ⟨xs, ys, x, y, hqx, hqy, hx, hy⟩; subst hP hw hK
    obtain ⟨its, rv, p, _⟩ := I.tuple hqx; obtain ⟨its2, rv2, p2, _⟩ := I.list hqy; obtain ⟨u, hu, ru⟩ := rv.get hx; obtain ⟨u2, hu2, ru2⟩ := rv2.get hy
    have lz : z < s.heap.objs.size := Heap.lt_size hz
    refine py_item (wkT (items := its.toArray) D.l1i1) (wkL (items := its2.toArray) D.l2i2) D hz hTI hTO ⟨h1, p⟩ ⟨h2, p2.isList⟩ (x := u) (y := u2) (by simpa using hu) (by simpa using hu2) fun h' z' TO' h1' h2' hT hsz hk => ?_
    refine ⟨_, rfl, wpAny_letOwnedTupleGo_zip (s := { s with heap := h' }) z' fun h'' z'' sb => ?_⟩
    have hT2 : h''.get? s.heap.objs.size = some { cls := .type "tuple", data := .seq #[u, u2] } := (sb.2 _ (Nat.ne_of_gt lz)).trans hT
    have new : ObjOk X.prog X.w (upd H s.heap.objs.size (.tup [x, y])) h'' s.heap.objs.size (.tup [x, y]) := ⟨(show 2 ≤ sizeLine by decide), [u, u2], .cons ru (.cons ru2 .nil), ⟨_, hT2, rfl, _, rfl⟩⟩
    have kk' : ∀ c o, c ∉ [z, TI, TO, i1, i2] → s.heap.get? c = some o → h''.get? c = some o := fun c o hb q => (sb.2 c (fun q' => hb (by simp [q']))).trans (hk c o (fun q' => hb (by simp [q'])) (fun q' => hb (by simp [q'])) (fun q' => hb (by simp [q'])) (fun q' => hb (by simp [q'])) q)
    have I1 : Inv X pins σ (upd H s.heap.objs.size (.tup [x, y])) { s with heap := h'' } := I.turnedNew (t' := s.toks) (ch := [z, TI, TO, i1, i2]) kk' hf (Nat.le_refl _) new
    refine ⟨.ref s.heap.objs.size, _, I1, rfl, ⟨_, x, y, rfl, I.hok.fresh (Nat.le_refl _), rfl, fun l hl => by rw [I.tuple_inj hl hqx]; exact hx, fun l hl => by rw [I.list_inj hl hqy]; exact hy⟩, ⟨z'', (sb.2 _ D.TIz).trans (hk _ _ D.TIz D.TITO D.TIi1 D.TIi2 hTI), ⟨u, u2, (sb.2 _ D.TOz).trans TO'⟩, h1'.1.at fun o q => (sb.2 _ D.i1z).trans q, h2'.1.at fun o q => (sb.2 _ D.i2z).trans q⟩, fun c hcm => ?_⟩
    have hlt : c < s.heap.objs.size := by
      have e' : c = z ∨ c = TI ∨ c = TO ∨ c = i1 ∨ c = i2 := (by simpa using hcm); rcases e' with q | q | q | q | q <;> rw [q]
      · exact lz
      · exact Heap.lt_size hTI
      · exact Heap.lt_size hTO
      · obtain ⟨_, e1, _⟩ := h1; exact Heap.lt_size e1
      · obtain ⟨_, e2, _⟩ := h2; exact Heap.lt_size e2
    rw [upd_ne (Nat.ne_of_lt hlt)]; exact (hf c hcm).1
  done := by
    intro X hP hw hK hc i pins s σ H E I hf ⟨hz, hTI, ⟨x0, y0, hTO⟩, h1, h2⟩ ⟨xs, ys, hqx, hqy, hend⟩; subst hP hw hK
    obtain ⟨its, rv, p, _⟩ := I.tuple hqx; obtain ⟨its2, rv2, p2, _⟩ := I.list hqy; have m1 := rv.length; have m2 := rv2.length
    have he : its.toArray[i]? = none ∨ its2.toArray[i]? = none := (by rcases hend with q | q; (exact .inl (by simp; omega)); exact .inr (by simp; omega))
    exact py_done (wkT (items := its.toArray) D.l1i1) (wkL (items := its2.toArray) D.l2i2) (I.ok.hd hc) D hz hTI hTO ⟨h1, p⟩ ⟨h2, p2.isList⟩ he fun h' hk => ⟨rfl, I.turnedL (t' := s.toks) (ch := [z, TI, TO, i1, i2]) (fun c o hb q => hk c o (fun q' => hb (by simp [q'])) (fun q' => hb (by simp [q'])) (fun q' => hb (by simp [q'])) (fun q' => hb (by simp [q'])) q) hf⟩
  self := fun A i s Q E st h => wpAny_pyIter_zip st.1 h
end FZ

/-! FZ6: for .., .. in zip(tuple, list). -/
namespace FZ
open PySem RZ L2 PyProof.Rows FL
def iZipM (K : PySem.W.Frag) (ta : TA) : TI := fun σ H R => ta σ H fun vs H1 => ∃ a b xs ys, vs = [.ref a, .ref b] ∧ SqT K H1 a xs ∧ SqL K H1 b ys ∧ R (ItM K a b) H1
theorem pi_zipM {X : Cx} {e e2 : Expr} {ta : TA} {p pos tpos : Pos} {elts : List Expr} {kk : Nat} (hg : Gl X "zip") (hm : X.mg "zip" = none) (ha : PA X [e, e2] ta) (hs : starEach [e, e2] X.env = (false, eval e X.env) :: starEach [e2] X.env) (hpl : (backTo pos (starEach [e2] X.env)).any (·.1) = false) :
    PI X (.Tuple elts kk tpos) (.Call (.Name "zip" p) [e, e2] [] pos) (iZipM X.K ta) := by
  refine ⟨fun pins s σ H R I h => Call_ (ld_blt I hg hm PyProof.Rows.boot_zip (PyProof.Rows.callWith_type1 (thn (ha.run pos pins s σ H _ I h) fun us s1 ⟨vs, H1, I1, r1, a, b, xs, ys, ex, hqx, hqy, q⟩ => ?_) hs hpl))⟩
  subst ex
  cases r1 with
  | cons r rr =>
    cases rr with
    | cons r' rr =>
      cases rr; cases r; cases r'
      obtain ⟨its, rv, p1, _⟩ := I1.tuple hqx; obtain ⟨its2, rv2, p2, _⟩ := I1.list hqy; obtain ⟨o1, ho1, _⟩ := id p1
      have fresh5 : ∀ c, c ∈ [s1.heap.objs.size + 4, s1.heap.objs.size + 2, s1.heap.objs.size + 3, s1.heap.objs.size, s1.heap.objs.size + 1] → FpOk X pins H1 c := fun c hcm => by
        have hle : s1.heap.objs.size ≤ c := (by simp at hcm; omega)
        exact I1.fpOk hle (I1.hok.fresh hle)
      refine zcall (A := "tuple_iterator") (B := "list_iterator") (Pre := fun h => h.IsTuple a its.toArray ∧ h.IsList b its2.toArray) (newTL a b its.toArray its2.toArray) ⟨p1, p2.isList⟩ fun h' hz hTI hTO h1 h2 hk => wpAny_pyIter_zip hz ?_
      have I2 : Inv X pins σ H1 { s1 with heap := h' } := I1.kept (t' := s1.toks) hk
      exact ⟨s1.heap.objs.size + 4, [s1.heap.objs.size + 4, s1.heap.objs.size + 2, s1.heap.objs.size + 3, s1.heap.objs.size, s1.heap.objs.size + 1], _, _, H1, rfl, I2, turnM (PySem.W.ktu_apart s1.heap.objs.size a b (Heap.lt_size ho1) p2.lt), ⟨hz, hTI, ⟨_, _, hTO⟩, ⟨_, h1, rfl, rfl⟩, ⟨_, h2, rfl, rfl⟩⟩, fresh5, q⟩
section
variable {X : Cx} {c : C0} {γ α β : Type} {G : EnvT γ} [Rp α] [Rp β] {a b : Expr} {pos p : Pos}
theorem fi_zipTL {f1 : γ → Xc (Tu α)} {f2 : γ → Xc (List β)} {elts : List Expr} {kk : Nat} {tpos : Pos} (h1 : FE X c G a f1) (h2 : FE X c G b f2) (hm : X.mg "zip" = none) (hg : Gl X "zip" := by rfl) (hs : starEach [a, b] X.env = (false, eval a X.env) :: starEach [b] X.env := by rfl)
    (hs2 : starEach [b] X.env = (false, eval b X.env) :: starEach [] X.env := by rfl) (hpl : (backTo pos (starEach [b] X.env)).any (·.1) = false := by rfl) : FI X c G (.Tuple elts kk tpos) (.Call (.Name "zip" p) [a, b] [] pos) (fun g => (f1 g).bind fun l => (f2 g).bind fun m => Xc.ok (l.l.zip m)) :=
  PI.imp (pi_zipM hg hm (pa_cons h1 (pa_cons h2 pa_nil hs2) hs) hs hpl) fun σ H R ⟨F, g, w, q, p⟩ => by
    refine ⟨F, g, w, q, ?_⟩
    cases e1 : f1 g with
    | ok l =>
      rintro v F1 H1 w1 ⟨a1, xs, rfl, hx, hz, rx⟩
      simp only [e1] at p
      have p : PoI X.K F H R (WE c.W σ) ((f2 g).bind fun m => Xc.ok (l.l.zip m)) := p
      refine ⟨F1, g, w.trans w1, G.mono q w1, ?_⟩
      cases e2 : f2 g with
      | ok m =>
        rintro u F2 H2 w2 ⟨a2, ys, rfl, hy, hz2, ry⟩
        simp only [e2] at p
        have p : PoI X.K F H R (WE c.W σ) (.ok (l.l.zip m)) := p
        have hx2 : SqT X.K F2 a1 xs := Same.seqT w2.f hx
        have rx2 := rx.mono w2.f
        have lz : (l.l.zip m).length = min l.l.length m.length := List.length_zip
        refine ⟨a1, a2, xs, ys, rfl, Same.seqT w2.s hx2, Same.seq w2.s hy, p _ F2 H2 (w1.trans w2) ⟨by rw [lz]; omega, fun F' H' s1 s2 => ⟨xs, ys, Same.seqT (s1.trans s2) hx2, Same.seq (s1.trans s2) hy, ?_⟩, fun i F' H' hi s1 s2 => ?_, fun i t F' H' x H'' e3 s1 s2 y => ?_⟩⟩
        · rw [lz, rx.len, ry.len]; omega
        · rw [lz] at hi
          obtain ⟨vx, h3, _⟩ := rx.get' (List.getElem?_eq_getElem (show i < l.l.length by omega))
          obtain ⟨vy, h4, _⟩ := ry.get' (List.getElem?_eq_getElem (show i < m.length by omega))
          exact ⟨xs, ys, vx, vy, Same.seqT (s1.trans s2) hx2, Same.seq (s1.trans s2) hy, h3, h4⟩
        · obtain ⟨T, vx, vy, rfl, hT, rfl, y1, y2⟩ := y
          obtain ⟨g1, g2⟩ := FL.zip_get e3
          obtain ⟨vx', h3, r3⟩ := rx2.get' g1
          obtain ⟨vy', h4, r4⟩ := ry.get' g2
          have k1 := y1 xs (Same.seqT (s1.trans s2) hx2)
          have k2 := y2 ys (Same.seq (s1.trans s2) hy)
          rw [h3] at k1; rw [h4] at k2; cases k1; cases k2
          have w3 := Wd.new (o := .tup [vx, vy]) s2 hT
          exact ⟨_, w3, T, vx, vy, rfl, SqT.of upd_same, Rp.mono (s1.trans w3.f) r3, Rp.mono (s1.trans w3.f) r4⟩
      | er c' fs => simp only [e2] at p; exact ErP.on (show ErP X.K F H (WE c.W σ) c' fs from p) w1
      | no => simp only [e2] at p; exact p
    | er c' fs => simp only [e1] at p; exact p
    | no => simp only [e1] at p; exact p
end
end FZ

/-! FZ7: a pair as a tuple of any length. -/
namespace FL
open PySem L2
section
variable {X : Cx} {c : C0} {γ α : Type} {G : EnvT γ} [Rp α] {e : Expr}
theorem fe_pairU {fa : γ → Xc (α × α)} (ha : FE X c G e fa) : FE X c G e (fun g => (fa g).bind fun a => Xc.ok (tu [a.1, a.2])) :=
  fe_to (α := α × α) (β := Tu α) (φ := fun a => tu [a.1, a.2]) (fun {K F v a} r => by
    obtain ⟨p, x, y, e, h, r1, r2⟩ := r
    exact ⟨p, [x, y], e, h, small_line (by show 2 ≤ 1000; decide), .cons r1 (.cons r2 .nil)⟩) ha
end
end FL

/-! FS1: sorted(..) of alike data. -/
namespace FL
open PySem L2 PyProof.Rows
section
variable {X : Cx}
def rSortedD (K : PySem.W.Frag) : List V → Hp → VK → Prop := fun vs H Q => ∃ (a : Addr) (β : Type) (bs : List β) (f : β → V) (enc : β → PyData), vs = [.ref a] ∧ SqL K H a (bs.map f) ∧ (∀ b ∈ bs, Dp K H (f b) (enc b)) ∧
  PySem.W.AllAlike (bs.map enc) ∧ PySem.W.Sortable (bs.map enc) ∧ (∀ b ∈ bs, (enc b).depth ≤ 64) ∧ ∀ p, H p = none → Q (.ref p) (upd H p (.lst ((bs.mergeSort (PySem.W.dataLe false enc)).map f)))
theorem each_of_vals {β : Type} {f : β → V} {R : Value → β → Prop} : ∀ {bs : List β} {us : List Value}, Vals (bs.map f) us → (∀ b u, b ∈ bs → RelV (f b) u → R u b) → PySem.W.EachIs R us bs
  | [], us, r, h => by cases r; exact .nil
  | b :: bs, us, r, h => by
    cases r with
    | cons r1 r2 => exact .cons (h _ _ (by simp) r1) (each_of_vals r2 fun b u m => h b u (by simp [m]))
theorem vals_of_each {β : Type} {f : β → V} : ∀ {bs : List β} {us : List Value}, PySem.W.EachIs (fun u b => RelV (f b) u) us bs → Vals (bs.map f) us
  | _, _, .nil => .nil
  | _, _, .cons h t => .cons h (vals_of_each t)
theorem cr_sortedD {k : Nat} (hr : Room k X.A) : CallR X (.builtin "sorted") (rSortedD X.K) := by
  intro pins s σ H vs us Q I r h
  obtain ⟨a, β, bs, f, enc, rfl, hs, hd, hal, hk, hz, q⟩ := h
  obtain ⟨its, rv, hl, hsz⟩ := I.list hs
  obtain ⟨u, rfl, ru⟩ := vals1 r
  obtain rfl : u = Value.ref a := ru
  have hlen : bs.length ≤ sizeLine := by simpa using hsz
  refine PySem.W.sorted_data (R := fun v b => RelV (f b) v) hl.isList (each_of_vals rv fun _ _ _ r => r) (each_of_vals rv fun b u m r => Dp.reads I _ _ _ (hd b m) r) hal hk hlen (fun b hb => by have := hz b hb; have := hr.un; omega) fun out ho eo => ?_
  obtain ⟨n, hn⟩ := sortedAll_at s.heap its out.toArray
  refine ⟨.ref (s.heap.objs.size + 1), _, I.laid (t' := s.toks) (o := .lst ((bs.mergeSort (PySem.W.dataLe false enc)).map f)) (fun b o e => sortedAll_old e) (Nat.le_succ _) ⟨?_, out, n, vals_of_each eo, hn⟩, rfl, q _ (I.hok.fresh (Nat.le_succ _))⟩
  simpa using hlen
end
def alikeB (ds : List PyData) : Bool := ds.all fun d => ds.all fun e => PySem.W.alike d e
def tup1B : PyData → Bool
  | .tuple (_ :: _) => true
  | _ => false
def noTupB : PyData → Bool
  | .tuple _ => false
  | .none => false
  | _ => true
def sortableB (ds : List PyData) : Bool := ds.all tup1B || ds.all noTupB
theorem alikeB_ok {ds : List PyData} (h : alikeB ds = true) : PySem.W.AllAlike ds := fun d hd e he => List.all_eq_true.mp (List.all_eq_true.mp h d hd) e he
theorem sortableB_ok {ds : List PyData} (h : sortableB ds = true) : PySem.W.Sortable ds := by
  rcases Bool.or_eq_true_iff.mp h with h | h
  · refine .inl fun d hd => ?_
    have := List.all_eq_true.mp h d hd
    unfold tup1B at this
    split at this
    · exact ⟨_, _, rfl⟩
    · cases this
  · refine .inr fun d hd => ?_
    have := List.all_eq_true.mp h d hd
    constructor
    · intro e; subst e; cases this
    · intro xs e; subst e; cases this
@[irreducible] def sortX {α : Type} [Rp α] [ToD α] (l : List α) : Xc (List α) := if (l.all fun a => SeqAt.shaped (ToD.d a)) = true ∧ alikeB (l.map ToD.d) = true ∧ sortableB (l.map ToD.d) = true then .ok (l.mergeSort (PySem.W.dataLe false ToD.d)) else .no
section
variable {α : Type} [Rp α] {K : PySem.W.Frag} {F : Hp}
theorem al_zip_mem {xs : List V} {l : List α} (r : Al K F xs l) : ∀ p ∈ xs.zip l, Rp.is K F p.1 p.2 := by
  induction r with
  | nil => intro p h; simp at h
  | cons h t ih =>
    intro p m
    rcases List.mem_cons.mp m with e | m
    · subst e; exact h
    · exact ih p m
theorem al_of_pairs : ∀ {ps : List (V × α)}, (∀ p ∈ ps, Rp.is K F p.1 p.2) → Al K F (ps.map (·.1)) (ps.map (·.2))
  | [], _ => .nil
  | p :: ps, h => .cons (h p (by simp)) (al_of_pairs fun q m => h q (by simp [m]))
theorem al_zip1 {xs : List V} {l : List α} (r : Al K F xs l) : (xs.zip l).map (·.1) = xs := List.map_fst_zip (Nat.le_of_eq r.len)
theorem al_zip2 {xs : List V} {l : List α} (r : Al K F xs l) : (xs.zip l).map (·.2) = l := List.map_snd_zip (Nat.le_of_eq r.len.symm)
end
section
variable {X : Cx} {c : C0} {γ α : Type} {G : EnvT γ} [Rp α] {a : Expr} {pos p : Pos}
theorem fo_sorted [ToD α] {fa : γ → Xc (List α)} {k : Nat} (hr : Room k X.A) (ha : FE X c G a fa) (hm : X.mg "sorted" = none) (hg : Gl X "sorted" := by rfl) (hs : starEach [a] X.env = (false, eval a X.env) :: starEach [] X.env := by rfl) :
    FO X c G (.Call (.Name "sorted" p) [a] [] pos) (fun g => (fa g).bind sortX) :=
  call1O (r := rSortedD X.K) (fun h => pe_callB (cr_sortedD hr) hg hm (by decide +kernel) h (he := hs)) ha hs fun {F H v i Q E} s r p => by
    obtain ⟨q, xs, e, hq, z, al⟩ := r
    subst e
    unfold sortX at p
    by_cases c : (i.all fun a => SeqAt.shaped (ToD.d a)) = true ∧ alikeB (i.map ToD.d) = true ∧ sortableB (i.map ToD.d) = true
    · rw [if_pos c] at p
      obtain ⟨c1, c2, c3⟩ := c
      have e2 : (xs.zip i).map (fun b => ToD.d b.2) = i.map ToD.d := by
        have := congrArg (List.map ToD.d) (al_zip2 al)
        rw [List.map_map] at this
        exact this
      refine ⟨q, V × α, xs.zip i, (·.1), fun b => ToD.d b.2, rfl, by rw [al_zip1 al]; exact Same.seq s hq, fun b hb => dp_mono s (ToD.is (al_zip_mem al b hb)), by rw [e2]; exact alikeB_ok c2, by rw [e2]; exact sortableB_ok c3, fun b hb => ?_, fun p' hp' => ?_⟩
      · have := List.all_eq_true.mp c1 b.2 (List.of_mem_zip hb).2
        exact SeqAt.depth_of_shaped this
      · have ms : ((xs.zip i).mergeSort (PySem.W.dataLe false fun b => ToD.d b.2)).map (·.2) = i.mergeSort (PySem.W.dataLe false ToD.d) := by
          have := List.map_mergeSort (r := PySem.W.dataLe false fun (b : V × α) => ToD.d b.2) (s := PySem.W.dataLe false (ToD.d (α := α))) (f := Prod.snd) (l := xs.zip i) (fun _ _ _ _ => rfl)
          rw [this, al_zip2 al]
        have mem : ∀ b ∈ (xs.zip i).mergeSort (PySem.W.dataLe false fun b => ToD.d b.2), Rp.is X.K F b.1 b.2 := fun b hb => al_zip_mem al b ((List.mergeSort_perm _ _).mem_iff.mp hb)
        have al2 := al_of_pairs mem
        rw [ms] at al2
        refine p p' _ F _ (Wd.newO s hp') hp' (s.free hp') upd_same ?_ al2
        rw [List.length_mergeSort]
        exact z
    · rw [if_neg c] at p; exact p.elim
end
end FL

/-! FS2: list + list of any kind, tuple * int, tuples as tuples of data. -/
namespace FL
open PySem L2 PyProof.Rows
/-! ### list + list -/
section
variable {X : Cx}
def rCatF (K : PySem.W.Frag) : R2 := fun x y H Q => ∃ l b xs zs, x = .ref l ∧ y = .ref b ∧ SqL K H l xs ∧ SqL K H b zs ∧ xs.length + zs.length ≤ sizeLine ∧ ∀ p, H p = none → Q (.ref p) (upd H p (.lst (xs ++ zs)))
theorem op_catF : OpR X (binaryOp .Add) (rCatF X.K) := by
  intro pins s σ H x y v u Q I rx ry h
  obtain ⟨l, b, xs, zs, rfl, rfl, hH, hB, hz, q⟩ := h
  cases rx
  cases ry
  obtain ⟨its, r, hl, _⟩ := I.list hH
  obtain ⟨its2, r2, hl2, _⟩ := I.list hB
  obtain ⟨⟨cls, dd, data, sl⟩, ho, hc, n, hd⟩ := hl.isList
  obtain ⟨⟨cls2, dd2, data2, sl2⟩, ho2, hc2, n2, hd2⟩ := hl2.isList
  simp only at hc hd hc2 hd2
  subst hc hd hc2 hd2
  have e1 := r.length
  have e2 := r2.length
  refine concat_meets ⟨_, ho, rfl⟩ ⟨_, ho2, rfl⟩ noFill_list_add seq_list_add PySem.F.slot_list_add PySem.F.entry_list_add (PySem.F.args_list_add_2 _ _) (list_addW l b its.toArray its2.toArray n n2 dd dd2 sl sl2 (by simp only [List.size_toArray]; omega)) ⟨ho, ho2, ?_⟩
  have ea : its.toArray ++ its2.toArray = (its ++ its2).toArray := by simp
  rw [ea]
  exact ⟨.ref _, _, I.lnew (t' := s.toks) (r.append r2) (by rw [List.length_append]; omega), rfl, q _ I.fresh⟩
end
section
variable {X : Cx} {c : C0} {γ α β ρ : Type} {G : EnvT γ} [Rp α] [Rp β] [Rp ρ] {a b d e tg : Expr} {pos p p2 : Pos}
theorem twoO {a b : Expr} {fa : γ → Xc α} {fb : γ → Xc β} {op : α → β → Xc (List ρ)} {r : R2} {e : Expr} (h : ∀ {ta tb : TE}, PE X a ta → PE X b tb → PE X e (tOp r ta tb)) (ha : FE X c G a fa) (hb : FE X c G b fb)
    (hop : ∀ {F H x y i j Q E}, Same F H → Rp.is X.K F x i → Rp.is X.K F y j → PoO X.K F H Q E (op i j) → r x y H Q) : FO X c G e (fun g => (fa g).bind fun i => (fb g).bind fun j => op i j) :=
  PE.imp (h ha hb) fun σ H Q ⟨F, g, w, q, p⟩ => by
    refine ⟨F, g, w, q, ?_⟩
    cases e1 : fa g with
    | ok l =>
      intro v F1 H1 w1 r1
      simp only [e1] at p
      have p : PoO X.K F H Q (WE c.W σ) ((fb g).bind fun j => op l j) := p
      refine ⟨F1, g, w.trans w1, G.mono q w1, ?_⟩
      cases e2 : fb g with
      | ok m =>
        intro u F2 H2 w2 r2
        simp only [e2] at p
        exact hop w2.s (Rp.mono w2.f r1) r2 (PoO.on (show PoO X.K F H Q (WE c.W σ) (op l m) from p) (w1.trans w2))
      | er c' fs => simp only [e2] at p; exact ErP.on (show ErP X.K F H (WE c.W σ) c' fs from p) w1
      | no => simp only [e2] at p; exact p
    | er c' fs => simp only [e1] at p; exact p
    | no => simp only [e1] at p; exact p
theorem fo_catF {fa fb : γ → Xc (List α)} (ha : FE X c G a fa) (hb : FE X c G b fb) : FO X c G (.BinOp a .Add b pos) (fun g => (fa g).bind fun i => (fb g).bind fun j => catL i j) :=
  twoO (fun h1 h2 => pe_op op_catF h1 h2) ha hb fun {F H x y i j Q E} s r1 r2 p => by
    unfold catL at p
    by_cases h : i.length + j.length ≤ sizeLine
    · rw [if_pos h] at p
      obtain ⟨a1, xs, rfl, hx, hz, rx⟩ := r1
      obtain ⟨a2, ys, rfl, hy, hz2, ry⟩ := r2
      have lx := rx.len
      have ly := ry.len
      refine ⟨a1, a2, xs, ys, rfl, rfl, Same.seq s hx, Same.seq s hy, by omega, fun t ht => ?_⟩
      exact p t _ F _ (Wd.newO s ht) ht (s.free ht) upd_same (by rw [List.length_append]; exact h) (rx.app ry)
    · rw [if_neg h] at p; exact p.elim
/-! ### tuples as tuples of data -/
@[irreducible] def toUD {α : Type} [Rp α] [ToD α] (t : Tu α) : Xc (Tu PyData) := if (t.l.all fun a => SeqAt.shaped (ToD.d a)) = true then .ok (tu (t.l.map ToD.d)) else .no
@[irreducible] def pairUD {α β : Type} [Rp α] [Rp β] [ToD α] [ToD β] (t : α × β) : Xc (Tu PyData) := if SeqAt.shaped (ToD.d t.1) = true ∧ SeqAt.shaped (ToD.d t.2) = true then .ok (tu [ToD.d t.1, ToD.d t.2]) else .no
theorem al_toD {K : PySem.W.Frag} {F : Hp} [ToD α] {vs : List V} {as : List α} (h : Al K F vs as) (z : (as.all fun a => SeqAt.shaped (ToD.d a)) = true) : Al K F vs (as.map ToD.d) := by
  induction h with
  | nil => exact .nil
  | cons h t ih =>
    simp only [List.all_cons, Bool.and_eq_true] at z
    exact .cons ⟨ToD.is h, z.1⟩ (ih z.2)
theorem fe_toUD [ToD α] {fa : γ → Xc (Tu α)} (ha : FE X c G e fa) : FE X c G e (fun g => (fa g).bind toUD) :=
  fe_from (fun {K F v a b} h r => by
    unfold toUD at h
    by_cases z : (a.l.all fun a => SeqAt.shaped (ToD.d a)) = true
    · rw [if_pos z] at h
      cases h
      obtain ⟨p, xs, e, hq, hz, al⟩ := r
      exact ⟨p, xs, e, hq, by show (a.l.map ToD.d).length ≤ _; rw [List.length_map]; exact hz, al_toD al z⟩
    · rw [if_neg z] at h; cases h) (fun a c fs h => by
    unfold toUD at h
    split at h <;> cases h) ha
theorem fe_pairUD [ToD α] [ToD β] {fa : γ → Xc (α × β)} (ha : FE X c G e fa) : FE X c G e (fun g => (fa g).bind pairUD) :=
  fe_from (fun {K F v a b} h r => by
    unfold pairUD at h
    by_cases z : SeqAt.shaped (ToD.d a.1) = true ∧ SeqAt.shaped (ToD.d a.2) = true
    · rw [if_pos z] at h
      cases h
      obtain ⟨p, x, y, e, hq, r1, r2⟩ := r
      exact ⟨p, [x, y], e, hq, by show 2 ≤ _; rw [sizeLine_eq]; decide, .cons ⟨ToD.is r1, z.1⟩ (.cons ⟨ToD.is r2, z.2⟩ .nil)⟩
    · rw [if_neg z] at h; cases h) (fun a c fs h => by
    unfold pairUD at h
    split at h <;> cases h) ha
end
end FL

/-! FS3: tuple * int. -/
namespace FL
open PySem L2 PyProof.Rows PySem.Spec
theorem tuple_mul1 (l : Addr) (items : Array Value) (n : Nat) (dd : Option Addr) (sl : Array (Option Value)) (x : Int) (u : Tok) (c0 : (decide (x < -(2 ^ 63)) || decide (x ≥ 2 ^ 63)) = false) (c1 : (items.isEmpty || x == 1) = true) :
    Meets (Builtin.«tuple.__mul__» ⟨[.ref l, .int x u], []⟩) (fun _ R s => s.heap.get? l = some { cls := .type "tuple", dict := dd, data := .seq items n, slots := sl } ∧
      R (.ok (.ret (Value.ref l))) { s with heap := s.heap, toks := s.toks }) :=
  .of_wp fun prog w A R s h => by
    obtain ⟨hp, g, d, tk, os⟩ := s
    obtain ⟨hl, h⟩ := h
    have f1 := AutoSeq1.idx_int
    have f2 := AutoSeq1.sub_tuple_tuple
    wp_walk using AutoSeq1.wpAny_loadPart' hl
    repeat (first
      | (refine wpAny_ite_false (decide_eq_false (by rw [c0]; exact Bool.false_ne_true)) ?_; wp_walk using AutoSeq1.wpAny_loadPart' hl)
      | (refine wpAny_ite_true (decide_eq_true (by rw [c1])) ?_; wp_walk using AutoSeq1.wpAny_loadPart' hl))
    exact ⟨_, rfl, h⟩
def rRep1 (K : PySem.W.Frag) : R2 := fun x y H Q => ∃ l xs, x = .ref l ∧ y = .int 1 ∧ SqT K H l xs ∧ Q (.ref l) H
theorem op_rep1 {X : Cx} : OpR X (binaryOp .Mult) (rRep1 X.K) := by
  intro pins s σ H x y v u Q I rx ry h
  obtain ⟨l, xs, rfl, rfl, hT, q⟩ := h
  cases rx
  obtain ⟨t, rfl⟩ := ry
  obtain ⟨its, r, ⟨⟨cls, dd, data, sl⟩, ho, hc, n, hd⟩, hs⟩ := I.tuple hT
  simp only at hc hd
  subst hc hd
  have c0 : (decide ((1 : Int) < -(2 ^ 63)) || decide ((1 : Int) ≥ 2 ^ 63)) = false := by decide
  have c1 : (its.toArray.isEmpty || (1 : Int) == 1) = true := by rw [Bool.or_eq_true_iff]; exact .inr (by decide)
  refine wpAny_binaryOp_repeat_ref (T := "tuple") (U := "int") (by decide) ⟨_, ho, rfl⟩ (fun s' => typeIs_int s' 1 t) noFill_tuple_mul F.fills_int_mul F.slot_int_rmul repeat_tuple F.slot_int_index.lookup
    (call_meets F.slot_int_rmul (typeIs_int s 1 t) F.entry_int_rmul (F.args_int_rmul_2 _ _) (int_rmul_tuple 1 t l its.toArray n dd sl)
      ⟨ho, rfl, ⟨_, ho, rfl⟩, call_meets F.slot_tuple_mul ⟨_, ho, rfl⟩ F.entry_tuple_mul (F.args_tuple_mul_2 _ _) (tuple_mul1 l its.toArray n dd sl 1 t c0 c1) ⟨ho, ?_⟩⟩)
  exact ⟨.ref l, H, I.tok _, rfl, q⟩
@[irreducible] def repU {α : Type} (t : Tu α) (k : Int) : Xc (Tu α) := if 1 ≤ k ∧ k ≤ 1000 ∧ t.l.length ≤ 1000 ∧ t.l ≠ [] then .ok (tu (List.replicate k.toNat t.l).flatten) else .no
instance {α : Type} (l : List α) : Decidable (l ≠ []) := by cases l with
  | nil => exact .isFalse (fun h => h rfl)
  | cons => exact .isTrue (fun h => by cases h)
section
variable {X : Cx} {c : C0} {γ α : Type} {G : EnvT γ} [Rp α] {a b e : Expr} {pos : Pos}
theorem fe_repU {fa : γ → Xc (Tu α)} {fb : γ → Xc Int} (ha : FE X c G a fa) (hb : FE X c G b fb) : FE X c G (.BinOp a .Mult b pos) (fun g => (fa g).bind fun i => (fb g).bind fun j => repU i j) :=
  two (fun h1 h2 => pe_op (OpR.or op_rep1 op_repT) h1 h2) ha hb fun {F H x y i j Q E} s r1 r2 p => by
    unfold repU at p
    by_cases h : 1 ≤ j ∧ j ≤ 1000 ∧ i.l.length ≤ 1000 ∧ i.l ≠ []
    · rw [if_pos h] at p
      obtain ⟨a1, xs, rfl, hx, hz, rx⟩ := r1
      have r2 : y = .int j := r2
      subst r2
      obtain ⟨h1, h2, h3, h4⟩ := h
      have lx := rx.len
      have e1 : (List.replicate j.toNat i.l).flatten.length = j.toNat * i.l.length := by rw [List.length_flatten, List.map_replicate, List.sum_replicate_nat]
      have e2 : j.toNat * i.l.length ≤ 1000 * 1000 := Nat.mul_le_mul (by omega) h3
      by_cases k1 : j = 1
      · subst k1
        refine .inl ⟨a1, xs, rfl, rfl, Same.seqT s hx, p.ret s ⟨a1, xs, rfl, hx, ?_, ?_⟩⟩
        · show (List.replicate 1 i.l).flatten.length ≤ sizeLine
          simpa using hz
        · show Al _ _ _ (List.replicate 1 i.l).flatten
          simpa using rx
      · refine .inr ⟨a1, j, xs, rfl, rfl, Same.seqT s hx, fun e => h4 ?_, by omega, h2, by omega, fun t ht => ?_⟩
        · cases q : i.l with
          | nil => rfl
          | cons _ _ => rw [q, e] at lx; cases lx
        · have w2 := Wd.new (o := .tup (List.replicate j.toNat xs).flatten) s ht
          exact p (.ref t) _ _ w2 ⟨t, _, rfl, SqT.of upd_same, by show (List.replicate j.toNat i.l).flatten.length ≤ _; rw [e1, sizeLine_eq]; omega, (al_flat rx j.toNat).mono w2.f⟩
    · rw [if_neg h] at p; exact p.elim
end
end FL

/-! FK1: instances of the text's own classes: fields, methods. -/
namespace FL
open PySem L2
/-- an instance of the class C with the fields ns, whose values stand for α -/
structure Ob (C : Str) (ns : List Str) (α : Type) where
  v : α
instance {C : Str} {ns : List Str} {α : Type} [Rps α] : Rp (Ob C ns α) := ⟨fun K F v o => ∃ p dx vs, v = .ref p ∧ F p = some (.ins (He.ga K C) dx (ns.zip vs)) ∧ vs.length = ns.length ∧ Rps.isL K F vs o.v,
  fun s ⟨p, dx, vs, e, h, l, r⟩ => ⟨p, dx, vs, e, s _ _ h, l, Rps.mono s r⟩⟩
class RpsT (α : Type) [Rps α] : Prop where
  down : ∀ {K F F' vs} {a : α}, (∀ p o, F p = some o → (∀ xs, o ≠ HO.lst xs) → F' p = some o) → Rps.isL K F vs a → Rps.isL K F' vs a
instance : RpsT Unit := ⟨fun _ h => h⟩
instance {α αs : Type} [Rp α] [Rps αs] [RpT α] [RpsT αs] : RpsT (α × αs) := ⟨fun s ⟨v, r, e, h, t⟩ => ⟨v, r, e, RpT.down s h, RpsT.down s t⟩⟩
instance {C : Str} {ns : List Str} {α : Type} [Rps α] [RpsT α] : RpT (Ob C ns α) := ⟨fun s ⟨p, dx, vs, e, h, l, r⟩ => ⟨p, dx, vs, e, s _ _ h (fun _ z => nomatch z), l, RpsT.down s r⟩⟩
instance {C : Str} {ns : List Str} {α : Type} [Rps α] : NotNone (Ob C ns α) := ⟨fun ⟨p, dx, vs, h, _⟩ => by subst h; intro z; cases z⟩
/-- the i-th field -/
class Prj (α : Type) [Rps α] (i : Nat) (τ : outParam Type) (r : outParam (Rp τ)) (π : outParam (α → τ)) : Prop where
  get : ∀ {K F vs} {a : α}, Rps.isL K F vs a → ∃ v, vs[i]? = some v ∧ r.is K F v (π a)
instance {τ αs : Type} [r : Rp τ] [Rps αs] : Prj (τ × αs) 0 τ r (fun a => a.1) := ⟨fun ⟨v, t, e, h, _⟩ => ⟨v, by subst e; rfl, h⟩⟩
instance {β αs τ : Type} [Rp β] [Rps αs] (i : Nat) (r : Rp τ) (π : αs → τ) [P : Prj αs i τ r π] : Prj (β × αs) (i + 1) τ r (fun a => π a.2) := ⟨fun ⟨v, t, e, _, h⟩ => by
  obtain ⟨u, e2, h2⟩ := P.get h
  exact ⟨u, by subst e; exact e2, h2⟩⟩
theorem zip_lookup {f : Str} : ∀ {ns : List Str} {vs : List V} {i : Nat} {v : V}, ns.findIdx (· == f) = i → vs.length = ns.length → vs[i]? = some v → (ns.zip vs).lookup f = some v
  | [], vs, i, v, h, l, e => by
    have : vs = [] := List.length_eq_zero_iff.mp (by simpa using l)
    subst this
    simp at e
  | n :: ns, [], i, v, h, l, e => by simp at l
  | n :: ns, u :: vs, i, v, h, l, e => by
    rw [List.findIdx_cons] at h
    rw [List.zip_cons_cons, List.lookup_cons]
    by_cases q : n = f
    · subst q
      rw [beq_self_eq_true, cond_true] at h
      subst h
      rw [beq_self_eq_true]
      simpa using e
    · rw [beq_eq_false_iff_ne.mpr q, cond_false] at h
      rw [beq_eq_false_iff_ne.mpr (Ne.symm q)]
      subst h
      exact zip_lookup (i := ns.findIdx (· == f)) rfl (by simpa using l) (by simpa using e)
theorem zip_none {f : Str} : ∀ {ns : List Str} {vs : List V}, f ∉ ns → (ns.zip vs).lookup f = none
  | [], vs, h => rfl
  | n :: ns, [], h => rfl
  | n :: ns, u :: vs, h => by
    have h1 : f ≠ n := fun e => h (by rw [e]; exact List.mem_cons_self)
    rw [List.zip_cons_cons, List.lookup_cons, beq_eq_false_iff_ne.mpr h1]
    exact zip_none fun m => h (List.mem_cons_of_mem _ m)
section
variable {X : Cx} {c : C0} {γ α τ ρ αs : Type} {G : EnvT γ} [Rps α] [Rp ρ] [Rps αs] {e o : Expr} {es : List Expr} {pos apos : Pos} {C : Str} {ns : List Str} {k j : Nat} {m : Str}
/-- e.f -/
theorem fe_fld (i : Nat) {r : Rp τ} {π : α → τ} [P : Prj α i τ r π] {f : Str} {fa : γ → Xc (Ob C ns α)} (ha : FE X c G e fa) (cl : Cls X.K (He.ga X.K C)) (na : NoAttr X.K (He.ga X.K C) f) (hi : ns.findIdx (· == f) = i := by decide)
    (hb : attributeBase e f X.env (eval e X.env) = eval e X.env := by rfl) : FE X c G (.Attribute e f pos) (fun g => (fa g).bind fun o => Xc.ok (π o.v)) :=
  PE.imp (pe_fld ha hb) fun σ H Q ⟨F, g, w, q, h⟩ => by
    refine ⟨F, g, w, q, ?_⟩
    cases e1 : fa g with
    | ok o =>
      intro v F1 H1 w1 r1
      simp only [e1] at h
      obtain ⟨p, dx, vs, ev, hp, hl, hr⟩ := r1
      obtain ⟨u, hu, ru⟩ := P.get hr
      exact ⟨p, _, dx, _, u, ev, w1.s _ _ hp, cl, na, zip_lookup hi hl hu, h u F1 H1 w1 ru⟩
    | er c' fs => simp only [e1] at h; exact h
    | no => simp only [e1] at h; exact h
end
/-! methods -/
section
variable {X : Cx} {CX : CXT} {k : Nat} {f C : Addr} {fd : FuncData} {ps : List Str} {sp : Sp} {E : St → XK} {m : Str} {pos apos : Pos} {e o : Expr} {es : List Expr} {ta : TE} {t : TA} {pl : Sem Bool}
def tMethW (C : Addr) (m : Str) (sp : Sp) (E : St → XK) (ta : TE) (t : TA) : TE := fun σ H Q => ta σ H fun x H1 => ∃ a dx fs, x = .ref a ∧ H1 a = some (.ins C dx fs) ∧ fs.lookup m = none ∧ t σ H1 fun vs H2 => sp (x :: vs) H2 Q (E σ)
theorem pe_methW (he : PE X o ta) (c : Cls X.K C) (hm : Meth X.K C m f) (F : FnOk X.prog X.w X.K X.mg X.base CX k f fd ps sp) (hr : Room k X.A) (hb : Binds X.K fd ps []) (hx : ∀ σ, PassesAt CX X σ (E σ)) (ha : PA X (e :: es) t)
    (hst : starEach (e :: es) X.env = (false, eval e X.env) :: starEach es X.env := by rfl) (hpl : (backTo pos (starEach es X.env)).any (·.1) = false := by rfl)
    (ht : eval (.Call (.Attribute o m apos) (e :: es) [] pos) X.env = (do
      let ov ← eval o X.env
      standAt apos.atName
      let (f, first) ← holding [ov] (getMethod ov m pl)
      callWith pos f first (backTo pos (starEach (e :: es) X.env)) (backToKw pos (keywordEach [] X.env))) := by rfl) :
    PE X (.Call (.Attribute o m apos) (e :: es) [] pos) (tMethW C m sp E ta t) := by
  refine ⟨fun pins s σ H Q I h => ?_⟩
  refine PySem.W.methodCall_KW (pl := pl) (thn (he.run pins s σ H _ I h) fun u s1 ⟨x, H1, I1, rx, a, dx, fs, ex, ea, l, q⟩ => ?_) ht
  subst ex
  obtain rfl : u = Value.ref a := rx
  refine getmeth_ok I1 ea c hm l ?_
  refine PySem.W.callWith_K (first := [.ref a]) (h₀ := X.base) I.ok.mod.kin hm.kp (thn (ha.run pos pins s1 σ H1 _ I1 q) fun us s2 ⟨vs, H2, I2, r, q2⟩ => ⟨I2.kIn, ?_⟩) hst hpl
  exact run_fnS (us := .ref a :: us) (vs := .ref a :: vs) F hr hb (hx σ) I2 (.cons rfl r) q2
theorem pe_methW0 (he : PE X o ta) (c : Cls X.K C) (hm : Meth X.K C m f) (F : FnOk X.prog X.w X.K X.mg X.base CX k f fd ps sp) (hr : Room k X.A) (hb : Binds X.K fd ps []) (hx : ∀ σ, PassesAt CX X σ (E σ))
    (ht : eval (.Call (.Attribute o m apos) [] [] pos) X.env = (do
      let ov ← eval o X.env
      standAt apos.atName
      let (f, first) ← holding [ov] (getMethod ov m pl)
      callWith pos f first (backTo pos (starEach [] X.env)) (backToKw pos (keywordEach [] X.env))) := by rfl) :
    PE X (.Call (.Attribute o m apos) [] [] pos) (tMethW C m sp E ta tNil) := by
  refine ⟨fun pins s σ H Q I h => ?_⟩
  refine PySem.W.methodCall_KW (pl := pl) (thn (he.run pins s σ H _ I h) fun u s1 ⟨x, H1, I1, rx, a, dx, fs, ex, ea, l, q⟩ => ?_) ht
  subst ex
  obtain rfl : u = Value.ref a := rx
  refine getmeth_ok I1 ea c hm l ?_
  exact PySem.W.callWith_K0 (first := [.ref a]) I1.kIn hm.kp (run_fnS (us := [.ref a]) (vs := [.ref a]) F hr hb (hx σ) I1 (.cons rfl .nil) q)
end
/-- the method m of the class C keeps the promise sp -/
structure Dm (P : Program) (w : World) (K : PySem.W.Frag) (mg : Str → Option Value) (base : Heap) (C m : Str) (ps : List Str) (k : Nat) (sp : Sp) : Prop where
  ex : ∃ fd, FnOk P w K mg base (L2.CX P w) k (He.ma K (He.ga K C) m) fd ps sp ∧ Binds K fd ps []
  meth : Meth K (He.ga K C) m (He.ma K (He.ga K C) m)
section
variable {X : Cx} {c : C0} {γ α ρ αs : Type} {G : EnvT γ} [Rps α] [Rp ρ] [Rps αs] {e o : Expr} {es : List Expr} {pos apos : Pos} {C : Str} {ns : List Str} {ps : List Str} {k j : Nat} {m : Str} {pl : Sem Bool}
/-- o.m(e, ..) -/
theorem fe_meth {mm : Ob C ns α × αs → Xc ρ} {fa : γ → Xc (Ob C ns α)} {fs : γ → Xc αs} (D : Dm X.prog X.w X.K X.mg X.base C m ps j (spF X.K (rtF ρ) mm)) (cl : Cls X.K (He.ga X.K C)) (tk : Takes X c.W) (hr : Room k X.A) (he : FE X c G o fa) (ha : FA X c G (e :: es) fs) (hn : m ∉ ns := by decide) (hjk : j ≤ k := by decide)
    (hst : starEach (e :: es) X.env = (false, eval e X.env) :: starEach es X.env := by rfl) (hpl : (backTo pos (starEach es X.env)).any (·.1) = false := by rfl)
    (ht : eval (.Call (.Attribute o m apos) (e :: es) [] pos) X.env = (do
      let ov ← eval o X.env
      standAt apos.atName
      let (f, first) ← holding [ov] (getMethod ov m pl)
      callWith pos f first (backTo pos (starEach (e :: es) X.env)) (backToKw pos (keywordEach [] X.env))) := by rfl) :
    FE X c G (.Call (.Attribute o m apos) (e :: es) [] pos) (fun g => (fa g).bind fun x => (fs g).bind fun as => mm (x, as)) := by
  obtain ⟨⟨fd, F, B⟩, hm⟩ := D
  refine PE.imp (pe_methW (E := WE c.W) he cl hm F (hr.mono hjk) B (fun σ => passAt tk σ) ha hst hpl ht) fun σ H Q ⟨F, g, w, q, h⟩ => ?_
  refine ⟨F, g, w, q, ?_⟩
  cases e1 : fa g with
  | ok x =>
    intro v F1 H1 w1 r1
    simp only [e1] at h
    have h : Po X.K F H Q (WE c.W σ) ((fs g).bind fun as => mm (x, as)) := h
    have rx := r1
    obtain ⟨p, dx, vs, ev, hp, hl, hrr⟩ := r1
    refine ⟨p, dx, _, ev, w1.s _ _ hp, zip_none hn, F1, g, w.trans w1, G.mono q w1, ?_⟩
    cases e2 : fs g with
    | ok as =>
      intro us F2 H2 w2 r2
      simp only [e2] at h
      have h : Po X.K F H Q (WE c.W σ) (mm (x, as)) := h
      refine ⟨F2, (x, as), w2.s, ⟨v, us, rfl, Rp.mono w2.f rx, r2⟩, ?_⟩
      revert h
      cases mm (x, as) with
      | ok r => exact fun h v F3 H3 w3 rr => h v F3 H3 ((w1.trans w2).trans w3) rr
      | er cc fs => exact fun h => ErP.on h (w1.trans w2)
      | no => exact fun h => h
    | er c' fs => simp only [e2] at h; exact ErP.on h w1
    | no => simp only [e2] at h; exact h
  | er c' fs => simp only [e1] at h; exact h
  | no => simp only [e1] at h; exact h
theorem fe_meth0 {mm : Ob C ns α × Unit → Xc ρ} {fa : γ → Xc (Ob C ns α)} (D : Dm X.prog X.w X.K X.mg X.base C m ps j (spF X.K (rtF ρ) mm)) (cl : Cls X.K (He.ga X.K C)) (tk : Takes X c.W) (hr : Room k X.A) (he : FE X c G o fa) (hn : m ∉ ns := by decide) (hjk : j ≤ k := by decide)
    (ht : eval (.Call (.Attribute o m apos) [] [] pos) X.env = (do
      let ov ← eval o X.env
      standAt apos.atName
      let (f, first) ← holding [ov] (getMethod ov m pl)
      callWith pos f first (backTo pos (starEach [] X.env)) (backToKw pos (keywordEach [] X.env))) := by rfl) :
    FE X c G (.Call (.Attribute o m apos) [] [] pos) (fun g => (fa g).bind fun x => mm (x, ())) := by
  obtain ⟨⟨fd, F, B⟩, hm⟩ := D
  refine PE.imp (pe_methW0 (E := WE c.W) he cl hm F (hr.mono hjk) B (fun σ => passAt tk σ) ht) fun σ H Q ⟨F, g, w, q, h⟩ => ?_
  refine ⟨F, g, w, q, ?_⟩
  cases e1 : fa g with
  | ok x =>
    intro v F1 H1 w1 r1
    simp only [e1] at h
    have h : Po X.K F H Q (WE c.W σ) (mm (x, ())) := h
    have rx := r1
    obtain ⟨p, dx, vs, ev, hp, hl, hrr⟩ := r1
    refine ⟨p, dx, _, ev, w1.s _ _ hp, zip_none hn, F1, (x, ()), w1.s, ⟨v, [], rfl, rx, rfl⟩, ?_⟩
    revert h
    cases mm (x, ()) with
    | ok r => exact fun h v F3 H3 w3 rr => h v F3 H3 (w1.trans w3) rr
    | er cc fs => exact fun h => ErP.on h w1
    | no => exact fun h => h
  | er c' fs => simp only [e1] at h; exact h
  | no => simp only [e1] at h; exact h
end
end FL

/-! FK2: instances made. -/
namespace FL
open PySem L2
/-- a value behind the others -/
class Snc (α : Type) [Rps α] (τ : Type) [Rp τ] {β : outParam Type} [Rps β] (ap : outParam (α → τ → β)) : Prop where
  ap : ∀ {K F vs v} {a : α} {t : τ}, Rps.isL K F vs a → Rp.is K F v t → Rps.isL K F (vs ++ [v]) (ap a t)
instance {τ : Type} [Rp τ] : Snc Unit τ (fun _ t => (t, ())) := ⟨fun {K F vs v a t} h r => by have h : vs = [] := h; subst h; exact ⟨v, [], rfl, r, rfl⟩⟩
instance {α αs τ β : Type} [Rp α] [Rps αs] [Rp τ] [Rps β] (ap : αs → τ → β) [S : Snc αs τ ap] : Snc (α × αs) τ (fun a t => (a.1, ap a.2 t)) := ⟨fun ⟨v, r, e, h, q⟩ r' => by subst e; exact ⟨v, _, rfl, h, S.ap q r'⟩⟩
theorem putF_zip {f : Str} {v : V} : ∀ {ns : List Str} {vs : List V}, f ∉ ns → vs.length = ns.length → putF f v (ns.zip vs) = (ns ++ [f]).zip (vs ++ [v])
  | [], vs, _, l => by
    have : vs = [] := List.length_eq_zero_iff.mp (by simpa using l)
    subst this
    rfl
  | n :: ns, [], _, l => by simp at l
  | n :: ns, u :: vs, h, l => by
    have h1 : ¬ n = f := fun e => h (by rw [e]; exact List.mem_cons_self)
    have ih := putF_zip (f := f) (v := v) (ns := ns) (vs := vs) (fun m => h (List.mem_cons_of_mem _ m)) (by simpa using l)
    rw [List.zip_cons_cons, List.cons_append, List.cons_append, List.zip_cons_cons, ← ih]
    show (if n = f then _ else _) = _
    rw [if_neg h1]
/-- self, under construction: what H0 holds of it -/
def sf (x : Addr) (C : Str) (ns : List Str) (α : Type) {γ : Type} [Rps α] (G : EnvT γ) : EnvT (α × γ) where
  rel := fun K H0 F H σ g => ∃ dx vs σ', σ = some (.ref x) :: σ' ∧ H0 x = some (.ins (He.ga K C) dx (ns.zip vs)) ∧ vs.length = ns.length ∧ Rps.isL K F vs g.1 ∧ G.rel K H0 F H σ' g.2
  own := fun σ => G.own σ.tail
  mono := fun ⟨dx, vs, σ', e, h0, l, r, h⟩ w => ⟨dx, vs, σ', e, h0, l, Rps.mono w.f r, G.mono h w⟩
  mu := fun ⟨dx, vs, σ', e, h0, l, r, h⟩ n => ⟨dx, vs, σ', e, h0, l, r, G.mu h (by subst e; exact n)⟩
  al := fun ⟨dx, vs, σ', e, h0, l, r, h⟩ n => G.al h (by subst e; exact n)
section
variable {x : Addr} {C : Str} {ns : List Str} {α : Type} [Rps α]
instance {τ γ : Type} [r : Rp τ] (G : EnvT γ) (i : Nat) (π : γ → τ) [a : At G i τ r π] : At (sf x C ns α G) (i + 1) τ r (fun g => π g.2) := ⟨fun ⟨dx, vs, σ', e, _, _, _, q⟩ => by
  obtain ⟨u, e2, q2⟩ := a.get q
  exact ⟨u, by subst e; exact e2, q2⟩⟩
instance {τ γ δ : Type} [Rp τ] (G : EnvT γ) (i : Nat) (G' : EnvT δ) (ψ : γ → τ → δ) [P : Put G i τ G' ψ] : Put (sf x C ns α G) (i + 1) τ (sf x C ns α G') (fun g a => (g.1, ψ g.2 a)) :=
  ⟨fun ⟨dx, vs, σ', e, h0, l, r', q⟩ r => ⟨dx, vs, σ'.set i _, by subst e; rfl, h0, l, r', P.put q r⟩, fun ⟨dx, vs, σ', e, h0, l, r', q⟩ h => by subst e; exact P.own q h⟩
instance {γ δ : Type} {G : EnvT γ} {i : Nat} {G' : EnvT δ} {h : γ → δ} [W : Wi1 G i G' h] : Wi1 (sf x C ns α G) (i + 1) (sf x C ns α G') (fun g => (g.1, h g.2)) := ⟨fun z ⟨dx, vs, σ', e, h0, l, r, q⟩ => ⟨dx, vs, σ'.set i z, by subst e; rfl, h0, l, r, W.wi z q⟩, fun z ⟨dx, vs, σ', e, h0, l, r, q⟩ m => by subst e; exact W.own z q m⟩
instance subSf {γ γ' : Type} {G : EnvT γ} {G' : EnvT γ'} {h : γ → γ'} [S : Sub G G' h] : Sub (sf x C ns α G) (sf x C ns α G') (fun g => (g.1, h g.2)) :=
  ⟨fun ⟨dx, vs, σ', e, h0, l, r, q⟩ => ⟨dx, vs, σ', e, h0, l, r, S.sub q⟩, fun ⟨dx, vs, σ', e, h0, l, r, q⟩ m => by subst e; exact S.own q m⟩
end
/-- slots that lean on no list of one's own -/
class Stab {γ : Type} (G : EnvT γ) : Prop where
  st : ∀ {K H0 F H H0' F' H' σ g}, G.rel K H0 F H σ g → Same F F' → G.rel K H0' F' H' σ g
instance : Stab nl := ⟨fun h _ => h⟩
instance {α γ : Type} [Rp α] (G : EnvT γ) [S : Stab G] : Stab (va α G) := ⟨fun ⟨v, σ', e, r, q⟩ s => ⟨v, σ', e, Rp.mono s r, S.st q s⟩⟩
instance {γ : Type} (G : EnvT γ) [S : Stab G] : Stab (un G) := ⟨fun ⟨v, σ', e, q⟩ s => ⟨v, σ', e, S.st q s⟩⟩
section
variable {X : Cx} {γ γ1 α β τ ρ αs : Type} {G : EnvT γ} {G1 : EnvT γ1} [Rps α] [Rps β] [Rp τ] [Rps ρ] [Rps αs] {e o : Expr} {es : List Expr} {pos apos p : Pos} {C : Str} {ns nsF : List Str} {k j : Nat} {f slf : Str} {x : Addr} {st : Stmt} {sts : List Stmt}
/-- self.f, read while self is under construction -/
theorem fe_slf (i : Nat) {c : C0} {r : Rp τ} {π : α → τ} [P : Prj α i τ r π] (cl : Cls X.K (He.ga X.K C)) (na : NoAttr X.K (He.ga X.K C) f) (hi : ns.findIdx (· == f) = i := by decide) (hN : X.N[0]? = some slf := by rfl)
    (hv : Vis X.env.scope slf := by first | exact Or.inl rfl | exact Or.inr (Or.inl rfl) | exact Or.inr (Or.inr rfl)) (hd : (slf == ("__debug__" : Str)) = false := by decide) (hcd : (slf == ("__classdict__" : Str)) = false := by decide)
    (hb : attributeBase (.Name slf p) f X.env (eval (.Name slf p) X.env) = eval (.Name slf p) X.env := by rfl) : FE X c (sf x C ns α G) (.Attribute (.Name slf p) f pos) (fun g => Xc.ok (π g.1)) :=
  PE.imp (pe_fld (pe_var (i := 0) hN hv hd hcd) hb) fun σ H Q ⟨F, g, w, q, h⟩ => by
    obtain ⟨dx, vs, σ', e, h0, l, r', q'⟩ := q
    obtain ⟨u, hu, ru⟩ := P.get r'
    subst e
    exact ⟨.ref x, rfl, x, _, dx, _, u, rfl, w.h _ _ h0, cl, na, zip_lookup hi l hu, h u F H (Wd.refl w.s) ru⟩
/-- what the rest of an __init__ leaves -/
def PoK_ (K : PySem.W.Frag) (c : C1) (C : Str) (nsF : List Str) (x : Addr) (D : Ends) (m : Xc ρ) : Prop := match m with
  | .ok r => ∀ σ' F' H' dx vs, Wd c.F0 c.H0 F' H' → F' x = none → H' x = some (.ins (He.ga K C) dx (nsF.zip vs)) → vs.length = nsF.length → Rps.isL K F' vs r → D.nx σ' H'
  | .er cc fs => ∀ σ', ErP K c.F0 c.H0 (WE c.W σ') cc fs
  | .no => False
def tK_ (K : PySem.W.Frag) (c : C1) (C : Str) (ns nsF : List Str) (x : Addr) (G : EnvT γ) (m : α × γ → Xc ρ) : TS := fun D σ H => ∃ F1 H1 F g, Wd F1 H1 F H ∧ Wd c.F0 c.H0 F1 H1 ∧ c.H0 x = none ∧ F1 x = none ∧ (sf x C ns α G).rel K H1 F H σ g ∧ PoK_ K c C nsF x D (m g)
/-- the rest of an __init__: the fields that self has in the end -/
def FK_ (X : Cx) (c : C1) (C : Str) (ns nsF : List Str) (x : Addr) (G : EnvT γ) (sts : List Stmt) (m : α × γ → Xc ρ) : Prop := PSs X sts (tK_ X.K c C ns nsF x G m)
theorem fk_nil {c : C1} : FK_ X c C ns ns x G [] (fun g : α × γ => Xc.ok g.1) := PSs.imp pss_nil fun D σ H ⟨F1, H1, F, g, w1, w, h0, hf, ⟨dx, vs, σ', e, hx, l, r, q⟩, p⟩ => p σ F H dx vs (w.trans w1) (w1.own hf hx) (w1.h _ _ hx) l r
theorem Wd.put {F0 H0 F H : Hp} {x : Addr} {o : HO} (w : Wd F0 H0 F H) (h0 : H0 x = none) (f : F x = none) : Wd F0 H0 F (upd H x o) :=
  ⟨w.f, fun b u e => by rw [upd_ne (ne_of_none e h0)]; exact w.h b u e, fun b u e => by rw [upd_ne (ne_of_none e f)]; exact w.s b u e, w.n⟩
theorem fk_n {c : C1} {st : Stmt} {m1 : α × γ → Xc (α × γ1)} {m2 : α × γ1 → Xc ρ} (h1 : ∀ F' H', FN X ⟨⟨F', H', c.W⟩, c.M⟩ (sf x C ns α G) st (sf x C ns α G1) m1) (h2 : FK_ X c C ns nsF x G1 sts m2) : FK_ X c C ns nsF x G (st :: sts) (fun g => (m1 g).bind m2) := by
  have h1' : PS X st (fun D σ H => ∃ F' H', tN X.K ⟨⟨F', H', c.W⟩, c.M⟩ (sf x C ns α G) (sf x C ns α G1) m1 D σ H) := ⟨fun pins s σ H D I ⟨F', H', q⟩ => (h1 F' H').run pins s σ H D I q⟩
  refine PSs.imp (pss_cons h1' h2) fun D σ H ⟨F1, H1, F, g, w1, w, h0, hf, q, p⟩ => ?_
  refine ⟨F1, H1, F, g, w1, q, ?_⟩
  obtain ⟨dx0, vs0, _, _, hx0, _⟩ := q
  cases e1 : m1 g with
  | ok g1 =>
    intro σ' F' H' w2 a1 q1
    simp only [e1] at p
    exact ⟨F1, H1, F', g1, w2.w, w, h0, hf, q1, p⟩
  | er c' fs =>
    simp only [e1] at p
    intro σ' F' H' w2 a1
    exact ErP.on (show ErP X.K c.F0 c.H0 (WE c.W σ') c' fs from p σ') (w.trans w2.w)
  | no => simp only [e1] at p; exact p
theorem fk_fld {c : C1} {ap : α → τ → β} [S : Snc α τ ap] [T : Stab G] {fe : α × γ → Xc τ} {m2 : β × γ → Xc ρ} {value : Expr} {pos' : Pos} (he : ∀ F' H', FE X ⟨F', H', c.W⟩ (sf x C ns α G) value fe) (h2 : FK_ X c C (ns ++ [f]) nsF x G sts m2) (cl : Cls X.K (He.ga X.K C)) (na : NoAttr X.K (He.ga X.K C) f)
    (hnf : f ∉ ns := by decide) (hnl : ns.length < 1000 := by decide) (hN : X.N[0]? = some slf := by rfl)
    (hv : Vis X.env.scope slf := by first | exact Or.inl rfl | exact Or.inr (Or.inl rfl) | exact Or.inr (Or.inr rfl)) (hd : (slf == ("__debug__" : Str)) = false := by decide) (hcd : (slf == ("__classdict__" : Str)) = false := by decide)
    (hs : swapsWith value (some (.Attribute (.Name slf p) f pos')) pos.line X.env = pure false := by rfl) :
    FK_ X c C ns nsF x G (.Assign [.Attribute (.Name slf p) f pos'] value pos :: sts) (fun g => (fe g).bind fun t => m2 (ap g.1 t, g.2)) := by
  have he' : PE X value (fun σ H Q => ∃ F' H', tF X.K ⟨F', H', c.W⟩ (sf x C ns α G) fe σ H Q) := ⟨fun pins s σ H Q I ⟨F', H', q⟩ => (he F' H').run pins s σ H Q I q⟩
  refine PSs.imp (pss_cons (ps_fld (pe_var (i := 0) hN hv hd hcd) he' hs) h2) fun D σ H ⟨F2, H2, F, g, w2, w, h0, hf, q, p⟩ => ?_
  refine ⟨F2, H2, F, g, w2, q, ?_⟩
  obtain ⟨dx, vs, σ', e, hx, l, r, q'⟩ := q
  have hf' := w2.own hf hx
  replace hx := w2.h _ _ hx
  replace w := w.trans w2
  replace hf := hf'
  cases e1 : fe g with
  | ok t =>
    intro v F1 H1 w1 r1
    simp only [e1] at p
    have hx1 : H1 x = some (.ins (He.ga X.K C) dx (ns.zip vs)) := w1.h _ _ hx
    have hf1 : F1 x = none := w1.own hf hx
    refine ⟨.ref x, by rw [e]; rfl, x, _, dx, ns.zip vs, rfl, hx1, cl, na, by rw [List.length_zip, l]; omega, ?_⟩
    rw [putF_zip hnf l]
    refine ⟨F1, _, F1, (ap g.1 t, g.2), Wd.refl ((w.trans w1).put h0 hf1).s, (w.trans w1).put h0 hf1, h0, hf1, ⟨dx, vs ++ [v], σ', e, upd_same, by rw [List.length_append, List.length_append, l]; rfl, S.ap (Rps.mono w1.f r) r1, T.st q' w1.f⟩, p⟩
  | er c' fs =>
    simp only [e1] at p
    exact ErP.on (show ErP X.K c.F0 c.H0 (WE c.W σ) c' fs from p σ) w
  | no => simp only [e1] at p; exact p
end
end FL

/-! FK3: __init__, calls of a class. -/
namespace FL
open PySem L2
section
variable {X : Cx} {γ γ' : Type} {c : C1} {G : EnvT γ} {G' : EnvT γ'} {pos pos2 p p2 : Pos} {j : Nat}
/-- raise X('..') -/
theorem fn_rai {x m : Str} (tk : Takes X c.W) (k : Xk X.K X.mg x) (hc : X.calm = true := by rfl) (hg : Gl X x := by rfl) (hdb : (x == ("__debug__" : Str)) = false := by decide) :
    FN X c G (.Raise (some (.Call (.Name x p) [.Constant (.str m) j p2] [] pos)) none pos2) G' (fun _ => Xc.er x []) :=
  PS.imp (ps_raise hc tk (pmk_own PySem.F.excBase_ValueError k.q k.mg k.kp (raises_own k.h1 k.h2) hg hdb)) fun D σ H ⟨F, g, w, q, d⟩ => d σ F H (Ws.refl w) Ag.refl F H (Wd.refl w.s)
end
/-- what an __init__ promises -/
def PoM {ρ : Type} [Rps ρ] (K : PySem.W.Frag) (C : Str) (ns : List Str) (x : Addr) (F H1 : Hp) (Q : VK) (E : XK) (m : Xc ρ) : Prop := match m with
  | .ok r => ∀ F' H' dx vs, Wd F H1 F' H' → F' x = none → H' x = some (.ins (He.ga K C) dx (ns.zip vs)) → vs.length = ns.length → Rps.isL K F' vs r → Q .non H'
  | .er cc fs => ErP K F H1 E cc fs
  | .no => False
def spI {αs ρ : Type} [Rps αs] [Rps ρ] (K : PySem.W.Frag) (C : Str) (ns : List Str) (m : αs → Xc ρ) : Sp := fun vs H Q E => ∃ x dx H1 F ws as, vs = .ref x :: ws ∧ H = upd (upd H1 dx (.own x)) x (.ins (He.ga K C) dx []) ∧ H1 x = none ∧ H1 dx = none ∧ dx ≠ x ∧ Same F H1 ∧ Rps.isL K F ws as ∧
  PoM K C ns x F H1 Q E (m as)
section
variable {P : Program} {w : World} {K : PySem.W.Frag} {mg : Str → Option Value} {base : Heap} {αs ρ γ : Type} [Rps αs] [Rps ρ] {G : EnvT γ} {h : αs → γ}
/-- the context of an __init__'s body -/
def cI (F H : Hp) (E : XK) : C1 := { F0 := F, H0 := H, W := fun cls d _ H => E cls d H, M := fun _ => true }
theorem fn_init {C : Str} {nsF : List Str} {x qual : Str} {params : Arguments} {body : List Stmt} {scope : Scope} {dvs : List V} {kws : List (Str × V)} {f : Addr} {fd : FuncData} {N ps : List Str} {k n pn : Nat} {m : αs → Xc ρ} {fm : Unit × γ → Xc ρ}
    (Fd : FunD K x qual params body scope dvs kws f fd) (S : FnScope N ps scope) [RN : RpsN αs pn] (hpn : ps.length = pn + 1) [ET : EntryT αs n G h] (hn : N.length = pn + 1 + n)
    (hb : ∀ (cdv : Value) (A : Around) (outer : List Env) (s : Shared) (F H1 H : Hp) (E : XK) (x : Addr), Room k (A.deeper (PyProof.Rows.envOfC qual scope s.heap.objs.size f cdv)) → 
      Takes (cxOf (L2.CX P w) P w K mg base N qual scope f cdv A outer s H E) (cI F H1 E).W →
      FK_ (cxOf (L2.CX P w) P w K mg base N qual scope f cdv A outer s H E) (cI F H1 E) C [] nsF x G body fm)
    (hm : ∀ as, m as = fm ((), h as)) : FnOk P w K mg base (L2.CX P w) (k + 1) f fd ps (spI K C nsF m) := by
  refine Fd.ok S (fun vs H Q E ⟨x, dx, H1, F, ws, as, e, _, _, _, _, _, r, _⟩ => by rw [hpn, e, List.length_cons, RN.len r]) fun cdv A outer s H vs Q E hr ⟨x, dx, H1, F, ws, as, e, eH, hx, hd, hne, sm, r, p⟩ => ?_
  have fx : F x = none := sm.free hx
  have fd : F dx = none := sm.free hd
  refine ⟨_, hb cdv A outer s F H1 H E x hr (takes_of rfl rfl rfl rfl), F, H, F, ((), h as), Wd.refl ?_, ?_, hx, fx, ⟨dx, [], ws.map some ++ List.replicate (N.length - vs.length) none, ?_, ?_, rfl, rfl, ?_⟩, ?_⟩
  · subst eH
    exact (((Wd.refl sm).put hd fd).put hx fx).s
  · subst eH
    exact ((Wd.refl sm).put hd fd).put hx fx
  · subst e; rfl
  · subst eH; exact upd_same
  · have e2 : N.length - vs.length = n := by rw [e, List.length_cons, RN.len r, hn]; omega
    rw [e2]
    exact ET.st r (Nat.le_refl _)
  · rw [hm as] at p
    revert p
    cases fm ((), h as) with
    | ok t => exact fun p σ' F' H' dx vs w f' h' l r' => p F' H' dx vs w f' h' l r'
    | er cc fs => exact fun p σ' => p
    | no => exact fun p => p
end
/-! C(..) -/
section
variable {X : Cx} {CX : CXT} {k : Nat} {f C : Addr} {fd : FuncData} {ps : List Str} {sp : Sp} {E : St → XK} {x : Str} {pos p : Pos} {e : Expr} {es : List Expr} {t : TA} {dvs : List V} {ds : List Value}
def tMakeW (C : Addr) (sp : Sp) (dvs : List V) (E : St → XK) (t : TA) : TE := fun σ H Q => t σ H fun vs H1 => ∀ x dx, H1 x = none → H1 dx = none → dx ≠ x →
  sp (.ref x :: (vs ++ dvs)) (upd (upd H1 dx (.own x)) x (.ins C dx [])) (fun v H2 => v = .non ∧ Q (.ref x) H2) (E σ)
theorem run_makeW {pins : List (Addr × Obj)} {σ : St} {H : Hp} {s : Shared} {Q : VK} {us : List Value} {vs : List V} (M : Mk X.K C f) (F : FnOk X.prog X.w X.K X.mg X.base CX k f fd ps sp) (hr : Room (k + 1) X.A) (hb : Binds X.K fd ps ds) (hd : Vals dvs ds)
    (hx : PassesAt CX X σ (E σ)) (I : Inv X pins σ H s) (r : Vals vs us)
    (h : ∀ x dx, H x = none → H dx = none → dx ≠ x → sp (.ref x :: (vs ++ dvs)) (upd (upd H dx (.own x)) x (.ins C dx [])) (fun v H2 => v = .non ∧ Q (.ref x) H2) (E σ)) :
    wpAny (model X.prog X.w) X.A (call (.ref C) us) (EP X pins σ Q) X.xe s := by
  have hq := h (s.heap.objs.size + 1) s.heap.objs.size (I.hok.fresh (Nat.le_succ _)) (I.hok.fresh (Nat.le_refl _)) (Nat.ne_of_lt (Nat.lt_succ_self _))
  have I2 := Inv.made (C := C) I
  have r2 : Vals (V.ref (s.heap.objs.size + 1) :: (vs ++ dvs)) (Value.ref (s.heap.objs.size + 1) :: (us ++ ds)) := .cons rfl (r.append hd)
  have hl : (Value.ref (s.heap.objs.size + 1) :: us ++ ds).length = ps.length := by
    have e := r2.length
    rw [F.len _ _ _ _ hq] at e
    exact e.symm
  refine wpAny_call (make_map (f := f) I.kIn M.makes M.init (beq_iff_eq.mp M.fn) (codeAny_mono (F.run _ X.stack _ _ ⟨Value.ref (s.heap.objs.size + 1) :: us, []⟩ (Value.ref (s.heap.objs.size + 1) :: (us ++ ds)) _ _ (E σ) (hr.make C us [])
    (I2.env0.make C us []) (hb _ (Value.ref (s.heap.objs.size + 1) :: us) I2.kIn hl) r2 hq) fun r s' hq' => ?_))
  cases r with
  | error e => exact hx pins _ _ e s' I2 hq'
  | ok fl =>
    cases fl with
    | ret u =>
      obtain ⟨v, H', I3, rv, ev, q3⟩ := I2.after hq'
      subst ev
      exact ⟨rv, ⟨V.ref (s.heap.objs.size + 1), H', I3, rfl, q3⟩⟩
    | next => exact False.elim hq'
    | brk => exact False.elim hq'
    | cont => exact False.elim hq'
theorem pe_makeW (M : Mk X.K C f) (F : FnOk X.prog X.w X.K X.mg X.base CX k f fd ps sp) (hr : Room (k + 1) X.A) (hg : Gl X x) (hm : X.mg x = some (.ref C)) (hb : Binds X.K fd ps ds) (hd : Vals dvs ds) (hx : ∀ σ, PassesAt CX X σ (E σ))
    (ha : PA X (e :: es) t) (hdb : (x == ("__debug__" : Str)) = false := by decide) (he : starEach (e :: es) X.env = (false, eval e X.env) :: starEach es X.env := by rfl) (hpl : (backTo pos (starEach es X.env)).any (·.1) = false := by rfl) :
    PE X (.Call (.Name x p) (e :: es) [] pos) (tMakeW C sp dvs E t) := by
  refine ⟨fun pins s σ H Q I h => ?_⟩
  refine wpAny_Call_Name_kw (ld_glob I hg hm ?_ hdb)
  refine PySem.W.callWith_K (h₀ := X.base) I.ok.mod.kin M.kp (thn (ha.run pos pins s σ H _ I h) fun us s1 ⟨vs, H1, I1, r, q⟩ => ⟨I1.kIn, ?_⟩) he hpl
  exact run_makeW M F hr hb hd (hx σ) I1 r q
end
/-- the class C's __init__ keeps the promise sp; the last parameters' defaults -/
structure Di (P : Program) (w : World) (K : PySem.W.Frag) (mg : Str → Option Value) (base : Heap) (C : Str) (ps : List Str) (dvs : List V) (k : Nat) (sp : Sp) : Prop where
  ex : ∃ fd, FnOk P w K mg base (L2.CX P w) k (He.ma K (He.ga K C) "__init__") fd ps sp ∧ ∃ ds, Vals dvs ds ∧ Binds K fd ps ds
  mkr : Mk K (He.ga K C) (He.ma K (He.ga K C) "__init__")
  mg : mg C = some (.ref (He.ga K C))
section
variable {X : Cx} {c : C0} {γ α ρ αs βs : Type} {G : EnvT γ} [Rps ρ] [Rps αs] [Rps βs] {e o : Expr} {es : List Expr} {pos p : Pos} {C : Str} {ns : List Str} {ps : List Str} {k j : Nat}
theorem fe_makeX {mm : βs → Xc ρ} {fs : γ → Xc αs} {dvs : List V} (ext : αs → βs) (hext : ∀ {K F vs} {as : αs}, Rps.isL K F vs as → Rps.isL K F (vs ++ dvs) (ext as)) (D : Di X.prog X.w X.K X.mg X.base C ps dvs j (spI X.K C ns mm)) (tk : Takes X c.W) (hr : Room (k + 1) X.A) (ha : FA X c G (e :: es) fs) (hjk : j ≤ k := by decide) (hg : Gl X C := by rfl)
    (hdb : (C == ("__debug__" : Str)) = false := by decide) (he : starEach (e :: es) X.env = (false, eval e X.env) :: starEach es X.env := by rfl) (hpl : (backTo pos (starEach es X.env)).any (·.1) = false := by rfl) :
    FE X c G (.Call (.Name C p) (e :: es) [] pos) (fun g => (fs g).bind fun as => (mm (ext as)).bind fun r => Xc.ok (⟨r⟩ : Ob C ns ρ)) := by
  obtain ⟨⟨fd, F, ds, vd, B⟩, M, mg⟩ := D
  refine PE.imp (pe_makeW (E := WE c.W) M F (hr.mono (Nat.succ_le_succ hjk)) hg mg B vd (fun σ => passAt tk σ) ha hdb he hpl) fun σ H Q ⟨F, g, w, q, h⟩ => ?_
  refine ⟨F, g, w, q, ?_⟩
  cases e1 : fs g with
  | ok as =>
    intro vs F1 H1 w1 r1 x dx hx hd hne
    simp only [e1] at h
    have h : Po X.K F H Q (WE c.W σ) ((mm (ext as)).bind fun r => Xc.ok (⟨r⟩ : Ob C ns ρ)) := h
    refine ⟨x, dx, H1, F1, _, ext as, rfl, rfl, hx, hd, hne, w1.s, hext r1, ?_⟩
    revert h
    cases mm (ext as) with
    | ok r =>
      intro h F2 H2 dx' vs' w2 f2 h2 l2 r2
      refine ⟨rfl, h (.ref x) (upd F2 x (.ins (He.ga X.K C) dx' (ns.zip vs'))) H2 (w1.trans ?_) ⟨x, dx', vs', rfl, upd_same, l2, Rps.mono (same_new f2) r2⟩⟩
      refine ⟨w2.f.trans (same_new f2), w2.h, fun b u q => ?_, fun b hb q => ?_⟩
      · by_cases z : b = x
        · subst z; rw [upd_same] at q; rw [h2]; exact q
        · rw [upd_ne z] at q; exact w2.s b u q
      · by_cases z : b = x
        · subst z; exact hx
        · rw [upd_ne z] at hb; exact w2.n b hb q
    | er cc fs => exact fun h => ErP.on (show ErP X.K F H (WE c.W σ) cc fs from h) w1
    | no => exact fun h => h
  | er c' fs => simp only [e1] at h; exact h
  | no => simp only [e1] at h; exact h
/-- C(e, ..), all parameters written -/
theorem fe_make {mm : αs → Xc ρ} {fs : γ → Xc αs} (D : Di X.prog X.w X.K X.mg X.base C ps [] j (spI X.K C ns mm)) (tk : Takes X c.W) (hr : Room (k + 1) X.A) (ha : FA X c G (e :: es) fs) (hjk : j ≤ k := by decide) (hg : Gl X C := by rfl)
    (hdb : (C == ("__debug__" : Str)) = false := by decide) (he : starEach (e :: es) X.env = (false, eval e X.env) :: starEach es X.env := by rfl) (hpl : (backTo pos (starEach es X.env)).any (·.1) = false := by rfl) :
    FE X c G (.Call (.Name C p) (e :: es) [] pos) (fun g => (fs g).bind fun as => (mm as).bind fun r => Xc.ok (⟨r⟩ : Ob C ns ρ)) :=
  fe_makeX id (fun h => by rw [List.append_nil]; exact h) D tk hr ha hjk hg hdb he hpl
/-- C(e, ..), the last parameter by its default, a whole number -/
theorem fe_make1 {d : Int} {ap : αs → Int → βs} [S : Snc αs Int ap] {mm : βs → Xc ρ} {fs : γ → Xc αs} (D : Di X.prog X.w X.K X.mg X.base C ps [.int d] j (spI X.K C ns mm)) (tk : Takes X c.W) (hr : Room (k + 1) X.A) (ha : FA X c G (e :: es) fs) (hjk : j ≤ k := by decide) (hg : Gl X C := by rfl)
    (hdb : (C == ("__debug__" : Str)) = false := by decide) (he : starEach (e :: es) X.env = (false, eval e X.env) :: starEach es X.env := by rfl) (hpl : (backTo pos (starEach es X.env)).any (·.1) = false := by rfl) :
    FE X c G (.Call (.Name C p) (e :: es) [] pos) (fun g => (fs g).bind fun as => (mm (ap as d)).bind fun r => Xc.ok (⟨r⟩ : Ob C ns ρ)) :=
  fe_makeX (fun as => ap as d) (fun h => S.ap h rfl) D tk hr ha hjk hg hdb he hpl
end
end FL

/-! FK4: operators of one's own. -/
namespace FL
open PySem L2
def tOpS (r : St → R2) (ta tb : TE) : TE := fun σ H Q => ta σ H fun x H1 => tb σ H1 fun y H2 => r σ x y H2 Q
def OpS (X : Cx) (f : Value → Value → Sem Value) (r : St → R2) : Prop :=
  ∀ (pins : List (Addr × Obj)) (s : Shared) (σ : St) (H : Hp) (x y : V) (v u : Value) (Q : VK), Inv X pins σ H s → RelV x v → RelV y u → r σ x y H Q → wpAny (model X.prog X.w) X.A (f v u) (EP X pins σ Q) X.xe s
section
variable {X : Cx} {a b : Expr} {ta tb : TE} {pos : Pos}
theorem pe_opS {op : Operator} {r : St → R2} (ho : OpS X (binaryOp op) r) (ha : PE X a ta) (hb : PE X b tb) : PE X (.BinOp a op b pos) (tOpS r ta tb) := by
  refine ⟨fun pins s σ H Q I h => ?_⟩
  exact wpAny_BinOp (binT ha hb I h fun v u s2 x y H2 I2 rx ry q => ho pins s2 σ H2 x y v u Q I2 rx ry q)
theorem pe_cmpS {op : CmpOp} {r : St → R2} (ho : OpS X (compareOp op) r) (ha : PE X a ta) (hb : PE X b tb) (hm : behindInMarks op b = false) : PE X (.Compare a [op] [b] pos) (tOpS r ta tb) := by
  refine ⟨fun pins s σ H Q I h => ?_⟩
  exact wpAny_Compare1 (binT ha hb I h fun v u s2 x y H2 I2 rx ry q => ho pins s2 σ H2 x y v u Q I2 rx ry q) hm
end
section
variable {X : Cx} {c : C0} {γ α β ρ : Type} {G : EnvT γ} [Rp α] [Rp β] [Rp ρ]
theorem twoS {a b : Expr} {fa : γ → Xc α} {fb : γ → Xc β} {op : α → β → Xc ρ} {r : St → R2} {e : Expr} (h : ∀ {ta tb : TE}, PE X a ta → PE X b tb → PE X e (tOpS r ta tb)) (ha : FE X c G a fa) (hb : FE X c G b fb)
    (hop : ∀ {F H x y i j Q σ}, Same F H → Rp.is X.K F x i → Rp.is X.K F y j → Po X.K F H Q (WE c.W σ) (op i j) → r σ x y H Q) : FE X c G e (fun g => (fa g).bind fun i => (fb g).bind fun j => op i j) :=
  PE.imp (h ha hb) fun σ H Q ⟨F, g, w, q, p⟩ => by
    refine ⟨F, g, w, q, ?_⟩
    cases e1 : fa g with
    | ok i =>
      intro v F1 H1 w1 r1
      have p2 : Po X.K F H Q (WE c.W σ) ((fb g).bind fun j => op i j) := by simp only [e1] at p; exact p
      refine ⟨F1, g, w.trans w1, G.mono q w1, ?_⟩
      cases e3 : fb g with
      | ok j =>
        intro u F2 H2 w2 r2
        have p5 : Po X.K F H Q (WE c.W σ) (op i j) := by rw [e3] at p2; exact p2
        exact hop w2.s (Rp.mono w2.f r1) r2 (p5.on (w1.trans w2))
      | er c' fs => rw [e3] at p2; exact ErP.on (show ErP X.K F H (WE c.W σ) c' fs from p2) w1
      | no => rw [e3] at p2; exact p2
    | er c' fs => simp only [e1] at p; exact p
    | no => simp only [e1] at p; exact p
end
/-! the machine's part -/
section
variable {X : Cx} {CX : CXT} {k : Nat} {f C : Addr} {fd : FuncData} {ps : List Str} {sp : Sp} {E : St → XK}
/-- two instances of one class -/
def rOO (C : Addr) (sp : Sp) (E : St → XK) : St → R2 := fun σ x y H Q => ∃ a dx fs b dy gs, x = .ref a ∧ y = .ref b ∧ H a = some (.ins C dx fs) ∧ H b = some (.ins C dy gs) ∧ sp [x, y] H Q (E σ)
/-- an instance and a whole number -/
def rOI (C : Addr) (sp : Sp) (E : St → XK) : St → R2 := fun σ x y H Q => ∃ a dx fs i, x = .ref a ∧ y = .int i ∧ H a = some (.ins C dx fs) ∧ sp [x, y] H Q (E σ)
/-- a whole number and an instance: the reflected one -/
def rIO (C : Addr) (sp : Sp) (E : St → XK) : St → R2 := fun σ x y H Q => ∃ a dx fs i, x = .int i ∧ y = .ref a ∧ H a = some (.ins C dx fs) ∧ sp [y, x] H Q (E σ)
theorem cmpEP {pins : List (Addr × Obj)} {σ : St} {Q : VK} : ∀ (w : Value) (s' : Shared), EP X pins σ Q w s' → PySem.W.CmpBack (EP X pins σ Q) w s' := fun w s' ⟨z, H', I, rz, q⟩ => SlX.cmpback rz ⟨z, H', I, rz, q⟩
theorem op_oo {op : Operator} {m : Str} (hm : Meth X.K C m f) (hop : PySem.dunder op.info.2 = m) (hc : PySem.W.selfFirst X.K C = true) (F : FnOk X.prog X.w X.K X.mg X.base CX k f fd ps sp) (hr : Room k X.A) (hb : Binds X.K fd ps []) (hx : ∀ σ, PassesAt CX X σ (E σ)) : OpS X (binaryOp op) (rOO C sp E) := by
  intro pins s σ H x y v u Q I rx ry ⟨a, dx, fs, b, dy, gs, e1, e2, ha, hb', h⟩
  subst e1 e2
  cases (show v = Value.ref a from rx)
  cases (show u = Value.ref b from ry)
  obtain ⟨mA, J, _⟩ := ins_get I.hok ha
  obtain ⟨mB, J', _⟩ := ins_get I.hok hb'
  obtain ⟨od, J, _⟩ := J.look
  obtain ⟨od', J', _⟩ := J'.look
  obtain ⟨m', hF⟩ := I.fr
  exact PySem.W.binop_K hF I.ok.mod.kin J J'.type hc (by rw [hop]; exact hm.at_) hm.fn (wpAny_mono (run_fnS (us := [.ref a, .ref b]) (vs := [.ref a, .ref b]) F hr hb (hx σ) I (.cons rfl (.cons rfl .nil)) h) cmpEP fun _ _ x => x)
theorem op_oi {op : Operator} {m : Str} {fo ro rc : Option Value} (hm : Meth X.K C m f) (hop : PySem.dunder op.info.2 = m) (hc : PySem.W.selfFirst X.K C = true) (hrc : PySem.W.findIn X.K (.ref C) (dunderR op.info.2) = some rc) (hp : rc = none ∨ ∃ g : Addr, rc = some (.ref g))
    (h1 : PySem.W.findIn X.K (.type "int") m = some fo) (h2 : PySem.W.findIn X.K (.type "int") (dunderR op.info.2) = some ro) (hsub : PySem.W.subIn X.K (.type "int") (.ref C) = some false)
    (F : FnOk X.prog X.w X.K X.mg X.base CX k f fd ps sp) (hr : Room k X.A) (hb : Binds X.K fd ps []) (hx : ∀ σ, PassesAt CX X σ (E σ)) : OpS X (binaryOp op) (rOI C sp E) := by
  intro pins s σ H x y v u Q I rx ry ⟨a, dx, fs, i, e1, e2, ha, h⟩
  subst e1 e2
  cases (show v = Value.ref a from rx)
  obtain ⟨t, e⟩ := (show ∃ t, u = Value.int i t from ry)
  cases e
  obtain ⟨mA, J, _⟩ := ins_get I.hok ha
  obtain ⟨od, J, _⟩ := J.look
  obtain ⟨m', hF⟩ := I.fr
  exact PySem.W.ksp_binT (T := "int") hF I.ok.mod.kin J rfl hc (by rw [hop]; exact hm.at_) hm.fn hrc hp (by rw [hop]; exact h1) h2 hsub (wpAny_mono (run_fnS (us := [.ref a, .int i t]) (vs := [.ref a, .int i]) F hr hb (hx σ) I (.cons rfl (.cons ⟨t, rfl⟩ .nil)) h) cmpEP fun _ _ x => x)
end
end FL

/-! FK5: a whole number times an instance. -/
namespace PySem.W
open PySem PySem.Calls PyProof.Rows
theorem int_mul_own (a : Int) (t : Tok) (x C dx : Addr) :
    Meets (Builtin.«int.__mul__» ⟨[.int a t, .ref x], []⟩) (fun _ R s => s.heap.get? x = some (instObj C dx) ∧ R (.ok (.ret Value.notImplemented)) s) :=
  .of_wp fun prog w A R s h => by obtain ⟨hp, g, d, tk, os⟩ := s; obtain ⟨hl, h⟩ := h; unfold instObj at hl; wp_walk; exact ⟨_, rfl, h⟩
section
variable {prog : Program} {w : World} {A : Around} {E : Value → Shared → Prop} {s : Shared} {K : Frag} {x C L f dx : Addr} {h₀ : Heap} {m : Str → Option Value} {od : Option Obj}
theorem binop_io {i : Int} {t : Tok} {fm : Option Value} {Q : Value → Shared → Prop} (Fm : Fr h₀ L s.heap m) (X₀ : K.In h₀) (I : InstAt s.heap x (instObj C dx) C od) (hc : selfFirst K C = true)
    (hm : findIn K (.ref C) (PySem.dunder "mul") = some (some (.ref f))) {g : Addr} (hs : findIn K (.ref C) (dunderR "mul") = some (some (.ref g))) (hf : isFn K (.ref g) = true) (hsub : subIn K (.ref C) (.type "int") = some false)
    (h : wpAny (model prog w) A (call (.ref g) [.ref x, .int i t]) (CmpBack Q) E s) : wpAny (model prog w) A (binaryOp .Mult (.int i t) (.ref x)) Q E s := by
  have X := X₀.keeps Fm.keep
  obtain ⟨cd, rest, hcd, hmr⟩ := ksp_first hc
  have one := ksp_try X I hs hf h
  have zero : wpAny (model prog w) A (tryMethod (.int i t) (PySem.dunder "mul") (.ref x)) (fun r s' => r = none ∧ s' = s) E s := by
    unfold tryMethod
    refine wpAny_bind (wpAny_callSpecial?_slot (typeIs_int s i t) PySem.F.slot_int_mul (call_meets PySem.F.slot_int_mul (typeIs_int s i t) PySem.F.entry_int_mul (PySem.F.args_int_mul_2 _ _) (int_mul_own i t x C dx) ⟨I.at_, ?_⟩))
    exact wpAny_pure ⟨rfl, rfl⟩
  obtain ⟨hh, gg, d, tt, os⟩ := s
  have L2 : Looks (model prog w) hh (typeOf (.ref x)) (.ref C) := I.type
  have L3 : Looks (model prog w) hh (fillsNumberSlot (.ref C) "mul") true := fills_K X hcd hmr hm
  have L4 : Looks (model prog w) hh (fillsNumberSlot (.type "int") "mul") true := Looks.of_pure PySem.F.fills_int_mul
  have L5 : Looks (model prog w) hh (isSubtype (.ref C) (.type "int")) false := looks_subIn X hsub
  have L7 : Looks (model prog w) hh (numberSlotInPython (.type "int") "mul") false := Looks.of_pure rfl
  have hne : (Value.type "int" == Value.ref C) = false := Bool.eq_false_iff.mpr fun q => by cases beq_iff_eq.mp q
  have hi : Operator.Mult.info = ("*", "mul") := rfl
  simp only [binaryOp, hi]
  refine wpAny_holding (wpAny_bind ?_)
  unfold binaryOp1
  refine wpAny_bind (wpAny_typeOf (typeIs_int _ i t) ?_)
  refine wpAny_bind (L2.at (wpAny_bind (L4.at ?_)))
  simp only [hne, Bool.false_eq_true, if_false]
  ksp_lk
  refine wpAny_mono zero (fun r s' hr' => ?_) fun _ _ e => e
  obtain ⟨rfl, rfl⟩ := hr'
  ksp_lk
  refine wpAny_mono one (fun r s' hr' => ?_) fun _ _ e => e
  obtain ⟨v, rfl, hq⟩ := hr'
  ksp_lk
  exact hq
end
end PySem.W
namespace FL
open PySem L2
section
variable {X : Cx} {CX : CXT} {k : Nat} {f C : Addr} {fd : FuncData} {ps : List Str} {sp : Sp} {E : St → XK}
theorem op_io {g : Addr} (hm : Meth X.K C "__mul__" f) (hm2 : Meth X.K C "__rmul__" g) (hc : PySem.W.selfFirst X.K C = true) (hsub : PySem.W.subIn X.K (.ref C) (.type "int") = some false)
    (F : FnOk X.prog X.w X.K X.mg X.base CX k g fd ps sp) (hr : Room k X.A) (hb : Binds X.K fd ps []) (hx : ∀ σ, PassesAt CX X σ (E σ)) (h1 : PySem.dunder "mul" = "__mul__" := by rfl) (h2 : dunderR "mul" = "__rmul__" := by rfl) : OpS X (binaryOp .Mult) (rIO C sp E) := by
  intro pins s σ H x y v u Q I rx ry ⟨a, dx, fs, i, e1, e2, ha, h⟩
  subst e1 e2
  cases (show u = Value.ref a from ry)
  obtain ⟨t, e⟩ := (show ∃ t, v = Value.int i t from rx)
  cases e
  obtain ⟨mA, J, _⟩ := ins_get I.hok ha
  obtain ⟨od, J, _⟩ := J.look
  obtain ⟨m', hF⟩ := I.fr
  exact PySem.W.binop_io (fm := none) hF I.ok.mod.kin J hc (by rw [h1]; exact hm.at_) (by rw [h2]; exact hm2.at_) hm2.fn hsub (wpAny_mono (run_fnS (us := [.ref a, .int i t]) (vs := [.ref a, .int i]) F hr hb (hx σ) I (.cons rfl (.cons ⟨t, rfl⟩ .nil)) h) cmpEP fun _ _ x => x)
end
end FL

/-! FK6: ==, -, calls of instances, isinstance, staticmethods; typed rules. -/
namespace FL
open PySem L2
section
variable {X : Cx} {CX : CXT} {k : Nat} {f C : Addr} {fd : FuncData} {ps : List Str} {sp : Sp} {E : St → XK}
theorem eq_oo (hm : Meth X.K C "__eq__" f) (F : FnOk X.prog X.w X.K X.mg X.base CX k f fd ps sp) (hr : Room k X.A) (hb : Binds X.K fd ps []) (hx : ∀ σ, PassesAt CX X σ (E σ)) : OpS X (compareOp .Eq) (rOO C sp E) := by
  intro pins s σ H x y v u Q I rx ry ⟨a, dx, fs, b, dy, gs, e1, e2, ha, hb', h⟩
  subst e1 e2
  cases (show v = Value.ref a from rx)
  cases (show u = Value.ref b from ry)
  obtain ⟨mA, J, _⟩ := ins_get I.hok ha
  obtain ⟨mB, J', _⟩ := ins_get I.hok hb'
  obtain ⟨od, J, _⟩ := J.look
  obtain ⟨od', J', _⟩ := J'.look
  obtain ⟨m', hF⟩ := I.fr
  exact PySem.W.cmp_K (op := .Eq) (tb := .ref C) hr.units0 hF I.ok.mod.kin J J'.type (by simp [PySem.W.notFirst]) hm.at_ hm.fn (wpAny_mono (run_fnS (us := [.ref a, .ref b]) (vs := [.ref a, .ref b]) F hr hb (hx σ) I (.cons rfl (.cons rfl .nil)) h) cmpEP fun _ _ x => x)
theorem eq_oi (hm : Meth X.K C "__eq__" f) (hn : PySem.W.notFirst X.K C (.type "int") = true) (F : FnOk X.prog X.w X.K X.mg X.base CX k f fd ps sp) (hr : Room k X.A) (hb : Binds X.K fd ps []) (hx : ∀ σ, PassesAt CX X σ (E σ)) : OpS X (compareOp .Eq) (rOI C sp E) := by
  intro pins s σ H x y v u Q I rx ry ⟨a, dx, fs, i, e1, e2, ha, h⟩
  subst e1 e2
  cases (show v = Value.ref a from rx)
  obtain ⟨t, e⟩ := (show ∃ t, u = Value.int i t from ry)
  cases e
  obtain ⟨mA, J, _⟩ := ins_get I.hok ha
  obtain ⟨od, J, _⟩ := J.look
  obtain ⟨m', hF⟩ := I.fr
  exact PySem.W.cmp_K (op := .Eq) (tb := .type "int") hr.units0 hF I.ok.mod.kin J (.of_pure rfl) hn hm.at_ hm.fn (wpAny_mono (run_fnS (us := [.ref a, .int i t]) (vs := [.ref a, .int i]) F hr hb (hx σ) I (.cons rfl (.cons ⟨t, rfl⟩ .nil)) h) cmpEP fun _ _ x => x)
/-- -x -/
def tUnS (r : St → V → Hp → VK → Prop) (ta : TE) : TE := fun σ H Q => ta σ H fun x H1 => r σ x H1 Q
def rO (C : Addr) (sp : Sp) (E : St → XK) : St → V → Hp → VK → Prop := fun σ x H Q => ∃ a dx fs, x = .ref a ∧ H a = some (.ins C dx fs) ∧ sp [x] H Q (E σ)
theorem pe_negO {a : Expr} {ta : TE} {pos : Pos} (hm : Meth X.K C "__neg__" f) (F : FnOk X.prog X.w X.K X.mg X.base CX k f fd ps sp) (hr : Room k X.A) (hb : Binds X.K fd ps []) (hx : ∀ σ, PassesAt CX X σ (E σ)) (ha : PE X a ta) : PE X (.UnaryOp .USub a pos) (tUnS (rO C sp E) ta) := by
  refine ⟨fun pins s σ H Q I h => ?_⟩
  refine wpAny_UnaryOp (thn (ha.run pins s σ H _ I h) fun u s1 ⟨x, H1, I1, rx, a, dx, fs, e1, ea, q⟩ => ?_)
  subst e1
  cases (show u = Value.ref a from rx)
  obtain ⟨mA, J, _⟩ := ins_get I1.hok ea
  obtain ⟨od, J, _⟩ := J.look
  obtain ⟨m', hF⟩ := I1.fr
  exact PySem.W.ksp_neg hF I1.ok.mod.kin J hm.at_ hm.fn (run_fnS (us := [.ref a]) (vs := [.ref a]) F hr hb (hx σ) I1 (.cons rfl .nil) q)
theorem code_fnS {pins : List (Addr × Obj)} {σ : St} {H : Hp} {s : Shared} {Q : VK} {us : List Value} {vs : List V} (F : FnOk X.prog X.w X.K X.mg X.base CX k f fd ps sp) (hr : Room k X.A) (hb : Binds X.K fd ps []) (hx : PassesAt CX X σ (E σ))
    (I : Inv X pins σ H s) (r : Vals vs us) (h : sp vs H Q (E σ)) : codeAny (model X.prog X.w) X.A (.call (.ref f) ⟨us, []⟩) (fun r s' => match r with | .ok (.ret v) => EP X pins σ Q v s' | .ok _ => False | .error e => X.xe e s') s := by
  have hl : us.length = ps.length := by rw [← r.length]; exact F.len _ _ _ _ h
  have b := hb s us I.kIn (by rw [List.append_nil]; exact hl)
  rw [List.append_nil] at b
  refine codeAny_mono (F.run X.A X.stack s H ⟨us, []⟩ us vs Q (E σ) hr I.env0 b r h) fun r s' hq => ?_
  cases r with
  | error e => exact hx pins H s e s' I hq
  | ok fl =>
    cases fl with
    | ret u => exact I.after hq
    | next => exact False.elim hq
    | brk => exact False.elim hq
    | cont => exact False.elim hq
theorem callWith_any {M : Model} {A : Around} {E : Value → Shared → Prop} {s : Shared} {env : Env} {pos : Pos} {x : Addr} {e : Expr} {es : List Expr} {Q : Value → Shared → Prop} (he : starEach (e :: es) env = (false, eval e env) :: starEach es env) (hpl : (backTo pos (starEach es env)).any (·.1) = false)
    (h : wpAny M A (spliced (backTo pos (starEach (e :: es) env))) (fun vs s₁ => ∃ ox : Obj, s₁.heap.get? x = some ox ∧ ox.data = .plain ∧ wpAny M A (call (.ref x) vs) Q E s₁) E s) :
    wpAny M A (callWith pos (.ref x) [] (backTo pos (starEach (e :: es) env)) []) Q E s := by
  unfold callWith
  rw [he] at h ⊢
  have hplain : ((backTo pos ((false, eval e env) :: starEach es env)).any (·.1) || ([] : List (Option Str × Sem Value)).any (·.1.isNone)) = false := by show ((false || (backTo pos (starEach es env)).any (·.1)) || false) = false; rw [hpl]; rfl
  refine wpAny_bind (wpAny_holding (wpAny_mono (show wpAny M A (evalArgs (.ref x) true (backTo pos ((false, eval e env) :: starEach es env)) []) (fun a s₁ => ∃ ox : Obj, s₁.heap.get? x = some ox ∧ ox.data = .plain ∧ wpAny M A (call (.ref x) ([] ++ a.pos) a.kw) Q E s₁) E s from PySem.Calls.evalArgs_plain h) (fun a s₁ h₁ => wpAny_bind (wpAny_standAt ?_)) fun _ _ y => y))
  obtain ⟨ox, hx, hd, hc⟩ := h₁
  have L : PySem.W.Looks M s₁.heap (keeperOf (.ref x)) .caller := by
    refine (PySem.W.Looks.ld (part := none) hx).andThen ?_
    simp only [hd]
    exact .now
  simp only [hplain]
  refine wpAny_bind (L.here ?_)
  have tail : ∀ {t : Sem Value}, wpAny M A t Q E s₁ → wpAny M A (t >>= fun r => holding [r] point >>= fun _ => pure r) Q E s₁ :=
    fun ht => wpAny_bind (wpAny_mono ht (fun r s₂ hr => wpAny_bind (wpAny_holding (wpAny_point (wpAny_pure hr)))) fun _ _ y => y)
  exact tail (wpAny_operateT hc)
/-- x(e, ..), x a name -/
theorem pe_callO {x : Str} {p pos : Pos} {e : Expr} {es : List Expr} {tf : TE} {t : TA} (hm : Meth X.K C "__call__" f) (hfn : PySem.W.fnIn X.K f = true) (F : FnOk X.prog X.w X.K X.mg X.base CX k f fd ps sp) (hr : Room k X.A) (hb : Binds X.K fd ps []) (hx : ∀ σ, PassesAt CX X σ (E σ)) (hf : PE X (.Name x p) tf) (ha : PA X (e :: es) t)
    (he : starEach (e :: es) X.env = (false, eval e X.env) :: starEach es X.env := by rfl) (hpl : (backTo pos (starEach es X.env)).any (·.1) = false := by rfl) :
    PE X (.Call (.Name x p) (e :: es) [] pos) (fun σ H Q => tf σ H fun v H1 => ∃ a, v = .ref a ∧ t σ H1 fun vs H2 => ∃ dx fs, H2 a = some (.ins C dx fs) ∧ sp (v :: vs) H2 Q (E σ)) := by
  refine ⟨fun pins s σ H Q I h => ?_⟩
  refine wpAny_Call_Name_kw (thn (hf.run pins s σ H _ I h) fun u s1 ⟨v, H1, I1, rv, a, e1, q⟩ => ?_)
  subst e1
  cases (show u = Value.ref a from rv)
  refine callWith_any he hpl (thn (ha.run pos pins s1 σ H1 _ I1 q) fun us s2 ⟨vs, H2, I2, r, dx, fs, ea, q2⟩ => ?_)
  obtain ⟨mA, J, _⟩ := ins_get I2.hok ea
  have hJ := J.obj
  obtain ⟨od, J, _⟩ := J.look
  refine ⟨_, hJ, rfl, ?_⟩
  exact wpAny_call (PySem.W.kco_code I2.kIn J rfl hm.at_ hm.fn hfn (code_fnS (us := .ref a :: us) (vs := .ref a :: vs) F hr hb (hx σ) I2 (.cons rfl r) q2))
end
end FL

/-! FK7: typed rules for operators, calls, isinstance, staticmethods of one's own classes. -/
namespace FL
open PySem L2
theorem por_of {ρ : Type} [Rp ρ] {K : PySem.W.Frag} {F H : Hp} {Q : VK} {E : XK} {m : Xc ρ} (h : Po K F H Q E m) : PoR (rtF ρ) K F H Q E m := by
  cases m with
  | ok r => exact h
  | er cc fs => exact h
  | no => exact h
section
variable {X : Cx} {c : C0} {γ α β ρ αs : Type} {G : EnvT γ} [Rps α] [Rp ρ] [Rps αs] {a b e : Expr} {es : List Expr} {pos p apos : Pos} {C m : Str} {ns : List Str} {ps : List Str} {k j : Nat}
theorem ob_at {K : PySem.W.Frag} {F H : Hp} {v : V} {x : Ob C ns α} (s : Same F H) (r : Rp.is K F v x) : ∃ a dx fs, v = .ref a ∧ H a = some (.ins (He.ga K C) dx fs) := by
  obtain ⟨a, dx, vs, e, h, _⟩ := r
  exact ⟨a, dx, _, e, s _ _ h⟩
/-- x op y, two instances -/
theorem fe_opOO {op : Operator} {mm : Ob C ns α × Ob C ns α × Unit → Xc ρ} {fa fb : γ → Xc (Ob C ns α)} (D : Dm X.prog X.w X.K X.mg X.base C m ps j (spF X.K (rtF ρ) mm)) (hsf : PySem.W.selfFirst X.K (He.ga X.K C) = true) (tk : Takes X c.W) (hr : Room k X.A) (ha : FE X c G a fa) (hb : FE X c G b fb) (hjk : j ≤ k := by decide)
    (hop : PySem.dunder op.info.2 = m := by rfl) : FE X c G (.BinOp a op b pos) (fun g => (fa g).bind fun x => (fb g).bind fun y => mm (x, (y, ()))) := by
  obtain ⟨⟨fd, F, B⟩, hm⟩ := D
  refine twoS (fun h1 h2 => pe_opS (op_oo (E := WE c.W) hm hop hsf F (hr.mono hjk) B (fun σ => passAt tk σ)) h1 h2) ha hb fun {F H x y i j Q σ} s r1 r2 q => ?_
  obtain ⟨a1, dx, fs, e1, h1⟩ := ob_at s r1
  obtain ⟨a2, dy, gs, e2, h2⟩ := ob_at s r2
  exact ⟨a1, dx, fs, a2, dy, gs, e1, e2, h1, h2, F, (i, (j, ())), s, ⟨x, [y], rfl, r1, y, [], rfl, r2, rfl⟩, por_of q⟩
/-- x op i, an instance and a whole number -/
structure OpI (K : PySem.W.Frag) (C m mr : Str) : Prop where
  sf : PySem.W.selfFirst K (He.ga K C) = true
  rc : ∃ rc, PySem.W.findIn K (.ref (He.ga K C)) mr = some rc ∧ (rc = none ∨ ∃ g : Addr, rc = some (.ref g))
  h1 : ∃ fo, PySem.W.findIn K (.type "int") m = some fo
  h2 : ∃ ro, PySem.W.findIn K (.type "int") mr = some ro
  sub : PySem.W.subIn K (.type "int") (.ref (He.ga K C)) = some false
theorem fe_opOI {op : Operator} {mr : Str} {mm : Ob C ns α × Int × Unit → Xc ρ} {fa : γ → Xc (Ob C ns α)} {fb : γ → Xc Int} (D : Dm X.prog X.w X.K X.mg X.base C m ps j (spF X.K (rtF ρ) mm)) (hi : OpI X.K C m mr) (tk : Takes X c.W) (hr : Room k X.A) (ha : FE X c G a fa) (hb : FE X c G b fb) (hjk : j ≤ k := by decide)
    (hop : PySem.dunder op.info.2 = m := by rfl) (hop2 : dunderR op.info.2 = mr := by rfl) : FE X c G (.BinOp a op b pos) (fun g => (fa g).bind fun x => (fb g).bind fun y => mm (x, (y, ()))) := by
  obtain ⟨⟨fd, F, B⟩, hm⟩ := D
  obtain ⟨hsf, ⟨rc, hrc, hp⟩, ⟨fo, h1⟩, ⟨ro, h2⟩, hsub⟩ := hi
  subst hop2
  refine twoS (fun h1' h2' => pe_opS (op_oi (E := WE c.W) hm hop hsf hrc hp h1 h2 hsub F (hr.mono hjk) B (fun σ => passAt tk σ)) h1' h2') ha hb fun {F H x y i j Q σ} s r1 r2 q => ?_
  obtain ⟨a1, dx, fs, e1, h1⟩ := ob_at s r1
  exact ⟨a1, dx, fs, j, e1, r2, h1, F, (i, (j, ())), s, ⟨x, [y], rfl, r1, y, [], rfl, r2, rfl⟩, por_of q⟩
/-- i * x -/
theorem fe_opIO {mm : Ob C ns α × Int × Unit → Xc ρ} {fa : γ → Xc Int} {fb : γ → Xc (Ob C ns α)} (D : Dm X.prog X.w X.K X.mg X.base C "__rmul__" ps j (spF X.K (rtF ρ) mm)) (hmul : Meth X.K (He.ga X.K C) "__mul__" (He.ma X.K (He.ga X.K C) "__mul__")) (hsf : PySem.W.selfFirst X.K (He.ga X.K C) = true) (hsub : PySem.W.subIn X.K (.ref (He.ga X.K C)) (.type "int") = some false)
    (tk : Takes X c.W) (hr : Room k X.A) (ha : FE X c G a fa) (hb : FE X c G b fb) (hjk : j ≤ k := by decide) : FE X c G (.BinOp a .Mult b pos) (fun g => (fa g).bind fun x => (fb g).bind fun y => mm (y, (x, ()))) := by
  obtain ⟨⟨fd, F, B⟩, hm⟩ := D
  refine twoS (fun h1' h2' => pe_opS (op_io (E := WE c.W) hmul hm hsf hsub F (hr.mono hjk) B (fun σ => passAt tk σ)) h1' h2') ha hb fun {F H x y i j Q σ} s r1 r2 q => ?_
  obtain ⟨a1, dx, fs, e1, h1⟩ := ob_at s r2
  exact ⟨a1, dx, fs, i, r1, e1, h1, F, (j, (i, ())), s, ⟨y, [x], rfl, r2, x, [], rfl, r1, rfl⟩, por_of q⟩
/-- x == y -/
theorem fe_eqOO {mm : Ob C ns α × Ob C ns α × Unit → Xc ρ} {fa fb : γ → Xc (Ob C ns α)} (D : Dm X.prog X.w X.K X.mg X.base C "__eq__" ps j (spF X.K (rtF ρ) mm)) (tk : Takes X c.W) (hr : Room k X.A) (ha : FE X c G a fa) (hb : FE X c G b fb) (hjk : j ≤ k := by decide) :
    FE X c G (.Compare a [.Eq] [b] pos) (fun g => (fa g).bind fun x => (fb g).bind fun y => mm (x, (y, ()))) := by
  obtain ⟨⟨fd, F, B⟩, hm⟩ := D
  refine twoS (fun h1 h2 => pe_cmpS (eq_oo (E := WE c.W) hm F (hr.mono hjk) B (fun σ => passAt tk σ)) h1 h2 (nomark _)) ha hb fun {F H x y i j Q σ} s r1 r2 q => ?_
  obtain ⟨a1, dx, fs, e1, h1⟩ := ob_at s r1
  obtain ⟨a2, dy, gs, e2, h2⟩ := ob_at s r2
  exact ⟨a1, dx, fs, a2, dy, gs, e1, e2, h1, h2, F, (i, (j, ())), s, ⟨x, [y], rfl, r1, y, [], rfl, r2, rfl⟩, por_of q⟩
theorem fe_eqOI {mm : Ob C ns α × Int × Unit → Xc ρ} {fa : γ → Xc (Ob C ns α)} {fb : γ → Xc Int} (D : Dm X.prog X.w X.K X.mg X.base C "__eq__" ps j (spF X.K (rtF ρ) mm)) (hn : PySem.W.notFirst X.K (He.ga X.K C) (.type "int") = true) (tk : Takes X c.W) (hr : Room k X.A) (ha : FE X c G a fa) (hb : FE X c G b fb) (hjk : j ≤ k := by decide) :
    FE X c G (.Compare a [.Eq] [b] pos) (fun g => (fa g).bind fun x => (fb g).bind fun y => mm (x, (y, ()))) := by
  obtain ⟨⟨fd, F, B⟩, hm⟩ := D
  refine twoS (fun h1 h2 => pe_cmpS (eq_oi (E := WE c.W) hm hn F (hr.mono hjk) B (fun σ => passAt tk σ)) h1 h2 (nomark _)) ha hb fun {F H x y i j Q σ} s r1 r2 q => ?_
  obtain ⟨a1, dx, fs, e1, h1⟩ := ob_at s r1
  exact ⟨a1, dx, fs, j, e1, r2, h1, F, (i, (j, ())), s, ⟨x, [y], rfl, r1, y, [], rfl, r2, rfl⟩, por_of q⟩
/-- -x -/
theorem fe_negO {mm : Ob C ns α × Unit → Xc ρ} {fa : γ → Xc (Ob C ns α)} (D : Dm X.prog X.w X.K X.mg X.base C "__neg__" ps j (spF X.K (rtF ρ) mm)) (tk : Takes X c.W) (hr : Room k X.A) (ha : FE X c G a fa) (hjk : j ≤ k := by decide) :
    FE X c G (.UnaryOp .USub a pos) (fun g => (fa g).bind fun x => mm (x, ())) := by
  obtain ⟨⟨fd, F, B⟩, hm⟩ := D
  refine PE.imp (pe_negO (E := WE c.W) hm F (hr.mono hjk) B (fun σ => passAt tk σ) ha) fun σ H Q ⟨F, g, w, q, h⟩ => ?_
  refine ⟨F, g, w, q, ?_⟩
  cases e1 : fa g with
  | ok x =>
    intro v F1 H1 w1 r1
    simp only [e1] at h
    obtain ⟨a1, dx, fs, e2, h1⟩ := ob_at w1.s r1
    exact ⟨a1, dx, fs, e2, h1, F1, (x, ()), w1.s, ⟨v, [], rfl, r1, rfl⟩, por_of (Po.on (show Po X.K F H Q (WE c.W σ) (mm (x, ())) from h) w1)⟩
  | er c' fs => simp only [e1] at h; exact h
  | no => simp only [e1] at h; exact h
/-- x(e, ..), x a name of an instance -/
theorem fe_callO {x : Str} {mm : Ob C ns α × αs → Xc ρ} {fa : γ → Xc (Ob C ns α)} {fs : γ → Xc αs} (D : Dm X.prog X.w X.K X.mg X.base C "__call__" ps j (spF X.K (rtF ρ) mm)) (hfn : PySem.W.fnIn X.K (He.ma X.K (He.ga X.K C) "__call__") = true) (tk : Takes X c.W) (hr : Room k X.A) (hf : FE X c G (.Name x p) fa) (ha : FA X c G (e :: es) fs) (hjk : j ≤ k := by decide)
    (hst : starEach (e :: es) X.env = (false, eval e X.env) :: starEach es X.env := by rfl) (hpl : (backTo pos (starEach es X.env)).any (·.1) = false := by rfl) :
    FE X c G (.Call (.Name x p) (e :: es) [] pos) (fun g => (fa g).bind fun x => (fs g).bind fun as => mm (x, as)) := by
  obtain ⟨⟨fd, F, B⟩, hm⟩ := D
  refine PE.imp (pe_callO (E := WE c.W) hm hfn F (hr.mono hjk) B (fun σ => passAt tk σ) hf ha hst hpl) fun σ H Q ⟨F, g, w, q, h⟩ => ?_
  refine ⟨F, g, w, q, ?_⟩
  cases e1 : fa g with
  | ok x =>
    intro v F1 H1 w1 r1
    simp only [e1] at h
    have h : Po X.K F H Q (WE c.W σ) ((fs g).bind fun as => mm (x, as)) := h
    obtain ⟨a1, dx, gs, ev, h1⟩ := ob_at w1.s r1
    refine ⟨a1, ev, F1, g, w.trans w1, G.mono q w1, ?_⟩
    cases e2 : fs g with
    | ok as =>
      intro us F2 H2 w2 r2
      simp only [e2] at h
      exact ⟨dx, gs, w2.h _ _ h1, F2, (x, as), w2.s, ⟨v, us, rfl, Rp.mono w2.f r1, r2⟩, por_of (Po.on (show Po X.K F H Q (WE c.W σ) (mm (x, as)) from h) (w1.trans w2))⟩
    | er c' fs => simp only [e2] at h; exact ErP.on (show ErP X.K F H (WE c.W σ) c' fs from h) w1
    | no => simp only [e2] at h; exact h
  | er c' fs => simp only [e1] at h; exact h
  | no => simp only [e1] at h; exact h
/-! isinstance(e, C), C a class of one's own -/
/-- what isinstance asks of the class of an instance -/
structure Isi (K : PySem.W.Frag) (C : Str) : Prop where
  cl : Cls K (He.ga K C)
  si : SlX.SIsi K (He.ga K C)
/-- what isinstance sees -/
class HasTyV (α : Type) [Rp α] (ok : outParam (PySem.W.Frag → Prop)) (ty : outParam (PySem.W.Frag → Value)) : Prop where
  is : ∀ {K F H v} {a : α}, ok K → Same F H → Rp.is K F v a → TyX K H v (ty K)
instance {C : Str} {ns : List Str} {α : Type} [Rps α] : HasTyV (Ob C ns α) (fun K => Isi K C) (fun K => .ref (He.ga K C)) := ⟨fun i s r => by
  obtain ⟨a, dx, vs, e, h, _⟩ := r
  subst e
  exact .base (.ins (s _ _ h) i.cl i.si.ca i.si.cn i.si.ct i.si.cm)⟩
instance : HasTyV Int (fun _ => True) (fun _ => .type "int") := ⟨fun _ s r => HasTy.is s r⟩
theorem fe_isiC {α : Type} [Rp α] {ok : PySem.W.Frag → Prop} {ty : PySem.W.Frag → Value} [T : HasTyV α ok ty] {D : Str} (r : Bool) {p2 : Pos} {fa : γ → Xc α} (ha : FE X c G a fa) (i : ok X.K) (hk : PySem.W.kitOne X.K (ty X.K) (.ref (He.ga X.K D)) = some r) (hD : X.mg D = some (.ref (He.ga X.K D))) (hm : X.mg "isinstance" = none)
    (hg : Gl X "isinstance" := by rfl) (hgT : Gl X D := by rfl) (hd : (D == ("__debug__" : Str)) = false := by decide)
    (hs : starEach [a, .Name D p2] X.env = (false, eval a X.env) :: starEach [.Name D p2] X.env := by rfl) (hs2 : starEach [.Name D p2] X.env = (false, eval (.Name D p2) X.env) :: starEach [] X.env := by rfl)
    (hpl : (backTo pos (starEach [.Name D p2] X.env)).any (·.1) = false := by rfl) : FE X c G (.Call (.Name "isinstance" p) [a, .Name D p2] [] pos) (fun g => (fa g).bind fun _ => Xc.ok r) :=
  PE.imp (pe_callB call_isi hg hm PyProof.Rows.boot_isinstance (pa_cons ha (pa_cons (pe_glob (v := .ref (He.ga X.K D)) hgT hD rfl hd) pa_nil hs2) hs) (he := hs) (hpl := hpl)) fun σ H Q ⟨F, g, w, q, h⟩ => by
    refine ⟨F, g, w, q, ?_⟩
    cases e1 : fa g with
    | ok o =>
      intro v F1 H1 w1 r1
      simp only [e1] at h
      exact ⟨v, .ref (He.ga X.K D), _, _, r, rfl, .own _, T.is i w1.s r1, hk, h (.bl r) F1 H1 w1 rfl⟩
    | er c' fs => simp only [e1] at h; exact h
    | no => simp only [e1] at h; exact h
end
/-! staticmethods -/
section
variable {X : Cx} {CX : CXT} {k : Nat} {f C g : Addr} {fd : FuncData} {ps : List Str} {sp : Sp} {E : St → XK} {x m : Str} {pos apos p : Pos} {e : Expr} {es : List Expr} {t : TA} {pl : Sem Bool} {mc : Value}
theorem getsm_ok {pins : List (Addr × Obj)} {σ : St} {H : Hp} {s : Shared} {A : Around} {E : Value → Shared → Prop} {rest : List Value} {Q : Value × List Value → Shared → Prop} (I : Inv X pins σ H s) (r : ClX.CRead X.K C mc)
    (at_ : PySem.W.findCls X.K (.ref C) mc m = some (.get (.builtin "staticmethod.__get__") (.ref f) .none (.ref C))) (hp : PySem.W.recIn X.K f "staticmethod" = some (.ref g :: rest))
    (h : ∀ s', Inv X pins σ H s' → Q (.ref g, []) s') : wpAny (model X.prog X.w) A (getMethod (.ref C) m pl) Q E s := by
  refine PySem.W.method_cls I.kIn r.ga (PySem.W.cls_bind I.kIn r.rd at_ ?_)
  exact wpAny_call (PySem.W.sm_get (s := { s with toks := s.toks + 1 }) I.kIn hp (PySem.W.handed_on rfl (h _ (I.tok _))))
theorem pe_smW {rest : List Value} (r : ClX.CRead X.K C mc) (at_ : PySem.W.findCls X.K (.ref C) mc m = some (.get (.builtin "staticmethod.__get__") (.ref f) .none (.ref C))) (hp : PySem.W.recIn X.K f "staticmethod" = some (.ref g :: rest)) (kp : PySem.W.keepIn X.K (.ref g) = true)
    (F : FnOk X.prog X.w X.K X.mg X.base CX k g fd ps sp) (hr : Room k X.A) (hb : Binds X.K fd ps []) (hx : ∀ σ, PassesAt CX X σ (E σ)) (hg : Gl X x) (hm : X.mg x = some (.ref C)) (ha : PA X (e :: es) t) (hdb : (x == ("__debug__" : Str)) = false := by decide)
    (hst : starEach (e :: es) X.env = (false, eval e X.env) :: starEach es X.env := by rfl) (hpl : (backTo pos (starEach es X.env)).any (·.1) = false := by rfl)
    (ht : eval (.Call (.Attribute (.Name x p) m apos) (e :: es) [] pos) X.env = (do
      let ov ← eval (.Name x p) X.env
      standAt apos.atName
      let (f, first) ← holding [ov] (getMethod ov m pl)
      callWith pos f first (backTo pos (starEach (e :: es) X.env)) (backToKw pos (keywordEach [] X.env))) := by rfl) :
    PE X (.Call (.Attribute (.Name x p) m apos) (e :: es) [] pos) (tCallS sp E t) := by
  refine ⟨fun pins s σ H Q I h => ?_⟩
  refine PySem.W.methodCall_KW (pl := pl) (thn ((pe_glob (v := .ref C) (pos := p) hg hm rfl hdb).run pins s σ H (fun v H1 => v = .ref C ∧ H1 = H) I ⟨rfl, rfl⟩) fun u s1 ⟨v, H1, I1, r1, ev, eH⟩ => ?_) ht
  subst ev
  subst eH
  cases (show u = Value.ref C from r1)
  refine getsm_ok I1 r at_ hp fun s2 I2 => ?_
  refine PySem.W.callWith_K (first := []) (h₀ := X.base) I.ok.mod.kin kp (thn (ha.run pos pins s2 σ _ _ I2 h) fun us s3 ⟨vs, H2, I3, r3, q3⟩ => ⟨I3.kIn, ?_⟩) hst hpl
  exact run_fnS F hr hb (hx σ) I3 r3 q3
end
/-- the staticmethod m of the class C keeps the promise sp -/
structure Ds (P : Program) (w : World) (K : PySem.W.Frag) (mg : Str → Option Value) (base : Heap) (C m : Str) (ps : List Str) (k : Nat) (sp : Sp) : Prop where
  ex : ∃ fd, FnOk P w K mg base (L2.CX P w) k (He5.wf K (He.ga K C) "staticmethod" m) fd ps sp ∧ Binds K fd ps []
  at_ : PySem.W.findCls K (.ref (He.ga K C)) (.type "type") m = some (.get (.builtin "staticmethod.__get__") (.ref (He.ma K (He.ga K C) m)) .none (.ref (He.ga K C)))
  rc : ∃ rest, PySem.W.recIn K (He.ma K (He.ga K C) m) "staticmethod" = some (.ref (He5.wf K (He.ga K C) "staticmethod" m) :: rest)
  kp : PySem.W.keepIn K (.ref (He5.wf K (He.ga K C) "staticmethod" m)) = true
  rd : ClX.CRead K (He.ga K C) (.type "type")
  mg : mg C = some (.ref (He.ga K C))
section
variable {X : Cx} {c : C0} {γ ρ αs : Type} {G : EnvT γ} [Rp ρ] [Rps αs] {e : Expr} {es : List Expr} {pos p apos : Pos} {C m : Str} {ps : List Str} {k j : Nat} {pl : Sem Bool}
theorem fe_sm {mm : αs → Xc ρ} {fs : γ → Xc αs} (D : Ds X.prog X.w X.K X.mg X.base C m ps j (spF X.K (rtF ρ) mm)) (tk : Takes X c.W) (hr : Room k X.A) (ha : FA X c G (e :: es) fs) (hjk : j ≤ k := by decide) (hg : Gl X C := by rfl)
    (hdb : (C == ("__debug__" : Str)) = false := by decide) (hst : starEach (e :: es) X.env = (false, eval e X.env) :: starEach es X.env := by rfl) (hpl : (backTo pos (starEach es X.env)).any (·.1) = false := by rfl)
    (ht : eval (.Call (.Attribute (.Name C p) m apos) (e :: es) [] pos) X.env = (do
      let ov ← eval (.Name C p) X.env
      standAt apos.atName
      let (f, first) ← holding [ov] (getMethod ov m pl)
      callWith pos f first (backTo pos (starEach (e :: es) X.env)) (backToKw pos (keywordEach [] X.env))) := by rfl) :
    FE X c G (.Call (.Attribute (.Name C p) m apos) (e :: es) [] pos) (fun g => (fs g).bind mm) := by
  obtain ⟨⟨fd, F, B⟩, at_, ⟨rest, hp⟩, kp, rd, mg⟩ := D
  refine PE.imp (pe_smW (E := WE c.W) rd at_ hp kp F (hr.mono hjk) B (fun σ => passAt tk σ) hg mg ha hdb hst hpl ht) fun σ H Q ⟨F, g, w, q, h⟩ => ?_
  refine ⟨F, g, w, q, ?_⟩
  cases e1 : fs g with
  | ok as =>
    intro us F1 H1 w1 r1
    simp only [e1] at h
    exact ⟨F1, as, w1.s, r1, por_of (Po.on (show Po X.K F H Q (WE c.W σ) (mm as) from h) w1)⟩
  | er c' fs => simp only [e1] at h; exact h
  | no => simp only [e1] at h; exact h
end
end FL

/-! FK8: any, all; dead code; chains of an __init__'s statements; what a head tells of classes. -/
namespace FL
open PySem L2
theorem al_bls {K : PySem.W.Frag} {F : Hp} : ∀ {xs : List V} {l : List Bool}, Al K F xs l → xs = l.map V.bl
  | _, _, .nil => rfl
  | _, _, .cons h t => by
    have h' : _ = V.bl _ := h
    rw [h', al_bls t]
    rfl
section
variable {X : Cx} {c : C0} {γ : Type} {G : EnvT γ} {a : Expr} {pos p : Pos}
theorem fe_any {fa : γ → Xc (List Bool)} (hc : X.calm = true) (ha : FE X c G a fa) (hm : X.mg "any" = none) (hg : Gl X "any" := by rfl) (hs : starEach [a] X.env = (false, eval a X.env) :: starEach [] X.env := by rfl)
    (hpl : (backTo pos (starEach [] X.env)).any (·.1) = false := by rfl) : FE X c G (.Call (.Name "any" p) [a] [] pos) (fun g => (fa g).bind fun l => Xc.ok (l.any id)) :=
  PE.imp (pe_callB (cr_any hc) hg hm PyProof.Rows.boot_any (pa_cons ha pa_nil hs) (he := hs) (hpl := hpl)) fun σ H Q ⟨F, g, w, q, h⟩ => by
    refine ⟨F, g, w, q, ?_⟩
    cases e1 : fa g with
    | ok l =>
      intro v F1 H1 w1 r1
      simp only [e1] at h
      obtain ⟨q', xs, ev, hq, z, al⟩ := r1
      subst ev
      have e := al_bls al
      subst e
      exact ⟨q', l, rfl, Same.seq w1.s hq, h (.bl _) F1 H1 w1 rfl⟩
    | er c' fs => simp only [e1] at h; exact h
    | no => simp only [e1] at h; exact h
theorem fe_all {fa : γ → Xc (List Bool)} (hc : X.calm = true) (ha : FE X c G a fa) (hm : X.mg "all" = none) (hg : Gl X "all" := by rfl) (hs : starEach [a] X.env = (false, eval a X.env) :: starEach [] X.env := by rfl)
    (hpl : (backTo pos (starEach [] X.env)).any (·.1) = false := by rfl) : FE X c G (.Call (.Name "all" p) [a] [] pos) (fun g => (fa g).bind fun l => Xc.ok (l.all id)) :=
  PE.imp (pe_callB (cr_all hc) hg hm PyProof.Rows.boot_all (pa_cons ha pa_nil hs) (he := hs) (hpl := hpl)) fun σ H Q ⟨F, g, w, q, h⟩ => by
    refine ⟨F, g, w, q, ?_⟩
    cases e1 : fa g with
    | ok l =>
      intro v F1 H1 w1 r1
      simp only [e1] at h
      obtain ⟨q', xs, ev, hq, z, al⟩ := r1
      subst ev
      have e := al_bls al
      subst e
      exact ⟨q', l, rfl, Same.seq w1.s hq, h (.bl _) F1 H1 w1 rfl⟩
    | er c' fs => simp only [e1] at h; exact h
    | no => simp only [e1] at h; exact h
theorem fe_dead {α : Type} [Rp α] : FE X c G a (fun _ => (Xc.no : Xc α)) := ⟨fun pins s σ H Q I ⟨F, g, w, q, h⟩ => h.elim⟩
end
section
variable {X : Cx} {γ γ1 α τ ρ : Type} {G : EnvT γ} {G1 : EnvT γ1} [Rps α] [Rps ρ] {C : Str} {ns nsF : List Str} {x : Addr} {st : Stmt} {sts : List Stmt} {c : C1}
theorem FK_.cast {m m' : α × γ → Xc ρ} (h : FK_ X c C ns nsF x G sts m) (i : ∀ g, m' g = m g) : FK_ X c C ns nsF x G sts m' := by rw [show m' = m from funext i]; exact h
theorem fk_B {fa : α × γ → Xc τ} {ψ : α × γ → τ → α × γ1} {m2 : α × γ1 → Xc ρ} (h1 : ∀ F' H', FN X ⟨⟨F', H', c.W⟩, c.M⟩ (sf x C ns α G) st (sf x C ns α G1) (fun g => (fa g).bind fun v => Xc.ok (ψ g v))) (h2 : FK_ X c C ns nsF x G1 sts m2) :
    FK_ X c C ns nsF x G (st :: sts) (fun g => (fa g).bind fun v => m2 (ψ g v)) := FK_.cast (fk_n h1 h2) fun g => by cases fa g <;> rfl
end
/-! heads -/
abbrev FnM (K : PySem.W.Frag) (x q : Str) (st : Stmt) (dvs : List V) (f : Addr) (fd : FuncData) : Prop := FunD K x q (defArgs st) (defBody st) (defScope st) dvs [] f fd
def clsBody (s : Stmt) : List Stmt := match s with
  | .ClassDef _ _ _ b _ _ _ _ _ _ _ => b
  | _ => []
section
variable {P : Program} {w : World} {K : PySem.W.Frag} {mg : Str → Option Value} {base : Heap} {C m x qual : Str} {params : Arguments} {body : List Stmt} {scope : Scope} {fd : FuncData} {ps : List Str} {k : Nat} {sp : Sp} {dvs : List V}
theorem dm_of (M : Meth K (He.ga K C) m (He.ma K (He.ga K C) m)) (b : Binds K fd ps []) (h : FnOk P w K mg base (L2.CX P w) k (He.ma K (He.ga K C) m) fd ps sp) : Dm P w K mg base C m ps k sp := ⟨⟨fd, h, b⟩, M⟩
theorem di_of (M : Mk K (He.ga K C) (He.ma K (He.ga K C) "__init__")) (g : mg C = some (.ref (He.ga K C))) (b : ∃ ds, Vals dvs ds ∧ Binds K fd ps ds) (h : FnOk P w K mg base (L2.CX P w) k (He.ma K (He.ga K C) "__init__") fd ps sp) : Di P w K mg base C ps dvs k sp := ⟨⟨fd, h, b⟩, M, g⟩
theorem ds_of (F : FunD K x qual params body scope [] [] (He5.wf K (He.ga K C) "staticmethod" m) fd) (r : ClX.CRead K (He.ga K C) (.type "type")) (hw : He5.wrapB K (He.ga K C) "staticmethod" "staticmethod.__get__" m = true) (g : mg C = some (.ref (He.ga K C))) (b : Binds K fd ps [])
    (h : FnOk P w K mg base (L2.CX P w) k (He5.wf K (He.ga K C) "staticmethod" m) fd ps sp) : Ds P w K mg base C m ps k sp := ⟨⟨fd, h, b⟩, (He5.wrapB_ok hw).1, (He5.wrapB_ok hw).2, F.kp, r, g⟩
end
/-- what a head asks of a class, as Bools -/
def someB {α : Type} (o : Option α) : Bool := o.isSome
def refB (o : Option (Option Value)) : Bool := match o with
  | some none => true
  | some (some (.ref _)) => true
  | _ => false
def opIB (K : PySem.W.Frag) (C m mr : Str) : Bool := PySem.W.selfFirst K (He.ga K C) && (refB (PySem.W.findIn K (.ref (He.ga K C)) mr) && ((PySem.W.findIn K (.type "int") m).isSome && ((PySem.W.findIn K (.type "int") mr).isSome && decide (PySem.W.subIn K (.type "int") (.ref (He.ga K C)) = some false))))
theorem opIB_ok {K : PySem.W.Frag} {C m mr : Str} (h : opIB K C m mr = true) : OpI K C m mr := by
  obtain ⟨h1, h⟩ := He.ba h
  obtain ⟨h2, h⟩ := He.ba h
  obtain ⟨h3, h⟩ := He.ba h
  obtain ⟨h4, h5⟩ := He.ba h
  refine ⟨h1, ?_, Option.isSome_iff_exists.mp h3, Option.isSome_iff_exists.mp h4, of_decide_eq_true h5⟩
  unfold refB at h2
  split at h2
  · rename_i e; exact ⟨_, e, .inl rfl⟩
  · rename_i g e; exact ⟨_, e, .inr ⟨g, rfl⟩⟩
  · cases h2
def isiB (K : PySem.W.Frag) (C : Str) : Bool := decide (PySem.W.findIn K (.ref (He.ga K C)) "__class__" = some (some (.builtin "object.__class__"))) && (decide (PySem.W.specialIn K (.builtin "object.__class__") "__get__" = some (some (.builtin "getset_descriptor.__get__"))) && (decide (PySem.W.takesIn K (.builtin "object.__class__") = some true) && decide (PySem.W.mroIn K (He.ga K C) (.type "object") = some true)))
theorem isiB_ok {K : PySem.W.Frag} {C : Str} (cl : Cls K (He.ga K C)) (h : isiB K C = true) : Isi K C := by
  obtain ⟨h1, h⟩ := He.ba h
  obtain ⟨h2, h⟩ := He.ba h
  obtain ⟨h3, h4⟩ := He.ba h
  exact ⟨cl, ⟨of_decide_eq_true h1, of_decide_eq_true h2, of_decide_eq_true h3, of_decide_eq_true h4⟩⟩
def readB (K : PySem.W.Frag) (C : Str) : Bool := PySem.W.readsIn K (He.ga K C) (.type "type") && decide (PySem.W.specialIn K (.ref (He.ga K C)) "__getattribute__" = some (some (.builtin "type.__getattribute__")))
theorem readB_ok {K : PySem.W.Frag} {C : Str} (h : readB K C = true) : ClX.CRead K (He.ga K C) (.type "type") := ⟨(He.ba h).1, of_decide_eq_true (He.ba h).2⟩
/-! the hook: facts, defs at any address, one more Bool -/
structure SaysK (fa : List He.Fa) (fn : List He5.DefA) (ex : PySem.W.Frag → Bool) (K : PySem.W.Frag) : Prop where
  a : He5.SaysA fa fn K
  more : ex K = true
def obsK (n : Nat) (fa : List He.Fa) (fn : List He5.DefA) (ex : PySem.W.Frag → Bool) (g : Addr → Option Obj) : He.AlD × Bool := (He5.obsA fa fn (He.frG g (He5.asA g n)), ex (He.frG g (He5.asA g n)))
def hookK (n : Nat) (fa : List He.Fa) (fn : List He5.DefA) (ex : PySem.W.Frag → Bool) : PySem.W.Hook where
  α := He.AlD × Bool
  obs := fun s => obsK n fa fn ex s.heap.get?
  val := fun _ => (He5.valA fn, true)
  says := fun _ h => ∃ K : PySem.W.Frag, K.In h ∧ SaysK fa fn ex K
  of := fun _ _ e => ⟨_, He.frG_in, congrArg (fun z : He.AlD × Bool => z.1) e, congrArg (fun z : He.AlD × Bool => z.2) e⟩
  keeps := fun _ _ _ ⟨K, hK, c⟩ k => ⟨K, PySem.W.Frag.In.keeps hK k, c⟩
theorem obsK_eq {n : Nat} {fa : List He.Fa} {fn : List He5.DefA} {ex : PySem.W.Frag → Bool} {g : Addr → Option Obj} {s : Shared} (h : ∀ a, g a = s.heap.get? a) : obsK n fa fn ex g = (hookK n fa fn ex).obs s := by
  have e : g = s.heap.get? := funext h
  rw [e] <;> rfl
end FL

/-! FK9: constants of classes; dicts with fixed keys; dead code in blocks. -/
namespace FL
open PySem L2
section
variable {X : Cx} {c : C1} {γ γ' : Type} {G : EnvT γ} {G' : EnvT γ'} {sts : List Stmt}
theorem fns_dead : FNs X c G sts G' (fun _ => Xc.no) := ⟨fun pins s σ H D I ⟨F, g, w, q, h⟩ => h.elim⟩
end
/-! C.F, a whole number -/
def conB (K : PySem.W.Frag) (C f : Str) (i : Int) : Bool := match PySem.W.findCls K (.ref (He.ga K C)) (.type "type") f with
  | some (.val (.int j _)) => decide (j = i)
  | _ => false
theorem conB_ok {K : PySem.W.Frag} {C f : Str} {i : Int} (h : conB K C f i = true) : ∃ t, PySem.W.findCls K (.ref (He.ga K C)) (.type "type") f = some (.val (.int i t)) := by
  unfold conB at h
  split at h
  · rename_i j t e
    exact ⟨t, by rw [e, of_decide_eq_true h]⟩
  · cases h
section
variable {X : Cx} {c : C0} {γ : Type} {G : EnvT γ} {pos p : Pos} {C f : Str}
theorem fe_ccon {i : Int} (rd : ClX.CRead X.K (He.ga X.K C) (.type "type")) (h : ∃ t, PySem.W.findCls X.K (.ref (He.ga X.K C)) (.type "type") f = some (.val (.int i t))) (hm : X.mg C = some (.ref (He.ga X.K C))) (hg : Gl X C := by rfl) (hd : (C == ("__debug__" : Str)) = false := by decide)
    (hb : attributeBase (.Name C p) f X.env (eval (.Name C p) X.env) = eval (.Name C p) X.env := by rfl) : FE X c G (.Attribute (.Name C p) f pos) (fun _ => Xc.ok i) := by
  obtain ⟨t, h⟩ := h
  exact PE.imp (ClX.pe_cval (pe_glob (v := .ref (He.ga X.K C)) hg hm rfl hd) hb) fun σ H Q ⟨F, g, w, q, p⟩ => ⟨_, _, .int i, _, rfl, rd, ⟨h, t, rfl⟩, p (.int i) F H (Wd.refl w.s) rfl⟩
end
/-! dicts with fixed keys -/
structure Dc (ns : List Str) (α : Type) where
  v : α
def kvs (ns : List Str) (vs : List V) : List (Key × V) := (ns.zip vs).map fun p => (.inr p.1, p.2)
instance {ns : List Str} {α : Type} [Rps α] : Rp (Dc ns α) := ⟨fun K F v o => ∃ p vs, v = .ref p ∧ F p = some (.dK (kvs ns vs)) ∧ vs.length = ns.length ∧ Rps.isL K F vs o.v,
  fun s ⟨p, vs, e, h, l, r⟩ => ⟨p, vs, e, s _ _ h, l, Rps.mono s r⟩⟩
instance {ns : List Str} {α : Type} [Rps α] [RpsT α] : RpT (Dc ns α) := ⟨fun s ⟨p, vs, e, h, l, r⟩ => ⟨p, vs, e, s _ _ h (fun _ z => nomatch z), l, RpsT.down s r⟩⟩
instance {ns : List Str} {α : Type} [Rps α] : NotNone (Dc ns α) := ⟨fun ⟨p, vs, h, _⟩ => by subst h; intro z; cases z⟩
theorem kvs_get {f : Str} : ∀ {ns : List Str} {vs : List V} {i : Nat} {v : V}, ns.findIdx (· == f) = i → vs.length = ns.length → vs[i]? = some v → valV (kvs ns vs) (.inr f) = some v
  | [], vs, i, v, h, l, e => by
    have : vs = [] := List.length_eq_zero_iff.mp (by simpa using l)
    subst this
    simp at e
  | n :: ns, [], i, v, h, l, e => by simp at l
  | n :: ns, u :: vs, i, v, h, l, e => by
    rw [List.findIdx_cons] at h
    by_cases q : n = f
    · subst q
      rw [beq_self_eq_true, cond_true] at h
      subst h
      have e : u = v := by simpa using e
      subst e
      exact valV_pos rfl
    · rw [beq_eq_false_iff_ne.mpr q, cond_false] at h
      subst h
      have ih := kvs_get (ns := ns) (vs := vs) (i := ns.findIdx (· == f)) (v := v) rfl (by simpa using l) (by simpa using e)
      unfold valV kvs at ih ⊢
      rw [List.zip_cons_cons, List.map_cons, List.find?_cons]
      have : decide ((Sum.inr n : Key) = Sum.inr f) = false := decide_eq_false fun z => q (Sum.inr.inj z)
      rw [this]
      exact ih
theorem merge_kvs {ns : List Str} (hn : ns.Nodup) {vs : List V} (hl : vs.length = ns.length) : mergeK [] (kvs ns vs) = kvs ns vs := by
  have go : ∀ (ms : List Str) (us : List V) (acc : List (Key × V)), ms.Nodup → (∀ m ∈ ms, ∀ p ∈ acc, p.1 ≠ .inr m) → mergeK acc (kvs ms us) = acc ++ kvs ms us := by
    intro ms
    induction ms with
    | nil => intro us acc _ _; simp [kvs, mergeK]
    | cons m ms ih =>
      intro us acc nd ha
      cases us with
      | nil => simp [kvs, mergeK]
      | cons u us =>
        have nd' := List.nodup_cons.mp nd
        have e : putK acc (.inr m) u = acc ++ [(.inr m, u)] := by
          unfold putK
          rw [if_neg]
          rw [List.any_eq_true]
          rintro ⟨p, mp, hp⟩
          exact ha m (by simp) p mp (of_decide_eq_true hp)
        show mergeK (putK acc (.inr m) u) (kvs ms us) = acc ++ ((.inr m, u) :: kvs ms us)
        rw [e, ih us _ nd'.2 fun n mn p mp => ?_, List.append_assoc]
        · rfl
        · rcases List.mem_append.mp mp with mp | mp
          · exact ha n (by simp [mn]) p mp
          · rw [List.mem_singleton.mp mp]
            exact fun z => nd'.1 (Sum.inr.inj z ▸ mn)
  have := go ns vs [] hn (fun _ _ _ h => by cases h)
  simpa using this
section
variable {X : Cx} {c : C0} {γ α τ αs : Type} {G : EnvT γ} [Rps α] [Rps αs] {o : Expr} {pos p2 : Pos} {ns : List Str} {k j : Nat}
/-- d['f'] -/
theorem fe_dcget (i : Nat) {r : Rp τ} {π : α → τ} [P : Prj α i τ r π] {f : Str} {fa : γ → Xc (Dc ns α)} (hr : Room k X.A) (ha : FE X c G o fa) (hi : ns.findIdx (· == f) = i := by decide) (hs : NoSl (.Constant (.str f) j p2) := by exact fun _ _ => rfl) : FE X c G (.Subscript o (.Constant (.str f) j p2) pos) (fun g => (fa g).bind fun o => Xc.ok (π o.v)) :=
  PE.imp (pe_dget (by have := hr.un; omega) ha pe_str hs) fun σ H Q ⟨F, g, w, q, h⟩ => by
    refine ⟨F, g, w, q, ?_⟩
    cases e1 : fa g with
    | ok o =>
      intro v F1 H1 w1 r1
      simp only [e1] at h
      obtain ⟨p, vs, ev, hp, hl, hr'⟩ := r1
      obtain ⟨u, hu, ru⟩ := P.get hr'
      exact ⟨p, u, ev, .inl ⟨_, .inr f, .inl (w1.s _ _ hp), rfl, (kvs_get hi hl hu).symm⟩, h u F1 H1 w1 ru⟩
    | er c' fs => simp only [e1] at h; exact h
    | no => simp only [e1] at h; exact h
/-- the values of a display -/
def tDp (K : PySem.W.Frag) (c : C0) (G : EnvT γ) (ns : List Str) (f : γ → Xc αs) (σ : St) (H : Hp) (Q : List (V × V) → Hp → Prop) : Prop := ∃ F g, Wd c.F0 c.H0 F H ∧ G.rel K c.H0 F H σ g ∧ PoA K F H (fun vs H' => vs.length = ns.length → Q ((kvs ns vs).map fun kv => (kV kv.1, kv.2)) H') (WE c.W σ) (f g)
structure FDp (X : Cx) (c : C0) (G : EnvT γ) (keys : List (Option Expr)) (values : List Expr) (ns : List Str) (f : γ → Xc αs) : Prop where
  ex : ∃ trs, (∀ pos, PPs X pos keys values trs) ∧ ∀ σ H Q, tDp X.K c G ns f σ H Q → tPairs trs σ H Q
theorem fdp_nil : FDp X c G [] [] [] (fun _ => Xc.ok ()) := ⟨[], fun _ => pps_nil, fun σ H Q ⟨F, g, w, q, h⟩ => h [] F H (Wd.refl w.s) rfl rfl⟩
end
section
variable {X : Cx} {c : C0} {γ α αs : Type} {G : EnvT γ} [Rp α] [Rps αs] {pos p2 : Pos} {ns : List Str} {j : Nat}
theorem fdp_cons {f : Str} {ve : Expr} {keys : List (Option Expr)} {values : List Expr} {fv : γ → Xc α} {fs : γ → Xc αs} (hv : FE X c G ve fv) (hr : FDp X c G keys values ns fs) : FDp X c G (some (.Constant (.str f) j p2) :: keys) (ve :: values) (f :: ns) (fun g => (fv g).bind fun v => (fs g).bind fun r => Xc.ok (v, r)) := by
  obtain ⟨trs, h1, h2⟩ := hr
  refine ⟨_, fun pos => pps_cons pe_str hv (h1 pos), fun σ H Q ⟨F, g, w, q, h⟩ => ?_⟩
  show tF X.K c G fv σ H fun y H2 => tPairs trs σ H2 fun ps H3 => Q ((.str f, y) :: ps) H3
  refine ⟨F, g, w, q, ?_⟩
  cases e1 : fv g with
  | ok v =>
    intro y F1 H1 w1 r1
    simp only [e1] at h
    have h : PoA X.K F H _ (WE c.W σ) ((fs g).bind fun r => Xc.ok (v, r)) := h
    refine h2 σ H1 _ ⟨F1, g, w.trans w1, G.mono q w1, ?_⟩
    cases e2 : fs g with
    | ok r =>
      intro vs F2 H2 w2 r2 l2
      simp only [e2] at h
      exact h (y :: vs) F2 H2 (w1.trans w2) ⟨y, vs, rfl, Rp.mono w2.f r1, r2⟩ (by rw [List.length_cons, List.length_cons, l2])
    | er c' fs => simp only [e2] at h; exact ErP.on (show ErP X.K F H (WE c.W σ) c' fs from h) w1
    | no => simp only [e2] at h; exact h
  | er c' fs => simp only [e1] at h; exact h
  | no => simp only [e1] at h; exact h
/-- {'a': e, ..} -/
theorem fe_dc {keys : List (Option Expr)} {values : List Expr} {fs : γ → Xc αs} {n : Nat} [RN : RpsN αs n] (h : FDp X c G keys values ns fs) (hn : ns.length = n := by rfl) (hd : ns.Nodup := by decide) (h15 : ns.length ≤ 15 := by decide) (hall : keys.all (·.isSome) = true := by rfl) (hl : keys.length = values.length := by rfl) (h0 : keys ≠ [] := by exact fun z => nomatch z)
    (hk15 : keys.length ≤ 15 := by decide) : FE X c G (.Dict keys values pos) (fun g => (fs g).bind fun as => Xc.ok (⟨as⟩ : Dc ns αs)) := by
  obtain ⟨trs, h1, h2⟩ := h
  refine PE.imp (pe_disp (h1 pos) hall hl h0 hk15) fun σ H Q ⟨F, g, w, q, p⟩ => ?_
  intro a ha
  have w0 : Wd F H F (upd H a (.dK [])) := Wd.newO w.s ha
  refine h2 σ _ _ ⟨F, g, w.trans w0, G.mono q w0, ?_⟩
  cases e1 : fs g with
  | ok as =>
    intro vs F1 H1 w1 r1 _
    simp only [e1] at p
    have hl1 : vs.length = ns.length := by rw [RN.len r1, hn]
    have f0 : F a = none := w.s.free ha
    have h1 : H1 a = some (.dK []) := w1.h _ _ upd_same
    have f1 : F1 a = none := w1.own f0 upd_same
    refine ⟨h1, kvs ns vs, rfl, by unfold kvs; rw [List.length_map, List.length_zip, hl1]; omega, ?_⟩
    rw [merge_kvs hd hl1]
    refine p (.ref a) (upd F1 a (.dK (kvs ns vs))) _ ?_ ⟨a, vs, rfl, upd_same, hl1, Rps.mono (same_new f1) r1⟩
    refine ⟨w1.f.trans (same_new f1), fun b u e => ?_, same_upd w1.s, fun b hb e => ?_⟩
    · rw [upd_ne (ne_of_none e ha)]
      exact w1.h b u (by rw [upd_ne (ne_of_none e ha)]; exact e)
    · by_cases z : b = a
      · subst z; exact ha
      · rw [upd_ne z] at hb
        have := w1.n b hb e
        rwa [upd_ne z] at this
  | er c' fs =>
    simp only [e1] at p
    exact ErP.on (show ErP X.K F H (WE c.W σ) c' fs from p) w0
  | no => simp only [e1] at p; exact p
end
end FL

/-! FX1: an __init__ of an own error class that says super().__init__(..) first. -/
namespace FL
open PySem L2 PySem.Spec PyProof.Rows

theorem lookup_nd {x : Str} {u : Value} : ∀ {l : List (Str × Value)}, (l.map (·.1)).Nodup → (x, u) ∈ l → l.lookup x = some u
  | [], _, h => by cases h
  | (y, v) :: l, nd, h => by
    rw [List.map_cons, List.nodup_cons] at nd
    by_cases e : x = y
    · subst e
      rcases List.mem_cons.mp h with h | h
      · cases h; simp [List.lookup]
      · exact absurd (List.mem_map_of_mem (f := (·.1)) h) nd.1
    · have e' : (x == y) = false := by simpa using e
      rcases List.mem_cons.mp h with h | h
      · cases h; exact absurd rfl e
      · simp only [List.lookup, e']
        exact lookup_nd nd.2 h
theorem zip_fst_sub {ps : List Str} {us : List Value} : ((ps.zip us).map (·.1)).Sublist ps := by
  induction ps generalizing us with
  | nil => simp
  | cons p ps ih =>
    cases us with
    | nil => simp
    | cons u us => simpa using ih.cons₂ p
theorem rlook {ps : List Str} {us : List Value} {i : Nat} {x : Str} {u : Value} (nd : ps.Nodup) (h1 : ps[i]? = some x) (h2 : us[i]? = some u) : (ps.zip us).reverse.lookup x = some u := by
  refine lookup_nd ?_ ?_
  · rw [List.map_reverse]
    exact (List.reverse_perm _).symm.nodup (nd.sublist zip_fst_sub)
  · rw [List.mem_reverse]
    have q : (ps.zip us)[i]? = some (x, u) := by rw [List.getElem?_zip_eq_some]; exact ⟨h1, h2⟩
    exact List.mem_of_getElem? q

/-- what the written part says of an error class whose __init__ uses super() -/
structure SupC (P : Program) (K : PySem.W.Frag) (C cc cda : Addr) : Prop where
  oex : OexC K C
  cell : ∃ (cl : Value) (cld : Option Addr) (csl : Array (Option Value)), K.lookup cc = some ⟨cl, cld, .cell (some (.ref C)), csl⟩
  code : ∃ (ccl : Value) (cdd : Option Addr) (vs : Array Value) (ccs : Array (Option Value)) (file : Str) (tf : Tok), K.lookup cda = some ⟨ccl, cdd, .fields vs, ccs⟩ ∧ vs[2]? = some (.str file tf) ∧ ((P.main.file : Str) == file) = true
  sub : PySem.W.mroIn K C (.ref C) = some true
  top : (P.main.scope.names.lookup ("super" : Str)).isSome = false
  any : PySem.W.nsIn K PySem.cStatics "thirdparty.any" = some none
  met : PySem.W.ks_superIn K C C "__init__" = some (some (.builtin "ValueError.__init__"))
  val : PySem.W.subIn K (.ref C) (.type "ValueError") = some true

abbrev envS (qual : Str) (scope : Scope) (L f cda cc : Addr) : Env := PySem.W.ksEnv qual scope L f (.ref cda) cc
def cxS (CX : CXT) (P : Program) (w : World) (K : PySem.W.Frag) (mg : Str → Option Value) (base : Heap) (N : List Str) (qual : Str) (scope : Scope) (f cda cc : Addr) (A : Around) (outer : List Env) (s : Shared) (H : Hp) (E : XK) : Cx where
  prog := P
  w := w
  K := K
  mg := mg
  base := base
  A := A.deeper (envS qual scope s.heap.objs.size f cda cc)
  N := N
  s_0 := s
  H_0 := H
  env := envS qual scope s.heap.objs.size f cda cc
  outer := outer
  stack := envS qual scope s.heap.objs.size f cda cc :: outer
  ex := []
  calm := true
  fn := fun x => !(x == ("__class__" : Str))
  pn := []
  xe := fun e s' => wpAny (model P w) (A.deeper (envS qual scope s.heap.objs.size f cda cc)) (leaving (envS qual scope s.heap.objs.size f cda cc) e) (fun _ s'' => CX outer H s E e s'') (fun e' s'' => CX outer H s E e' s'') s'
structure SupS (ps : List Str) (scope : Scope) : Prop where
  kind : scope.kind = .function
  co : scope.isCoroutine = false
  gen : scope.isGenerator = false
  nd : ps.Nodup
  par : ∀ x ∈ ps, scope.names.lookup x = some .local
  nocell : ∀ y ∈ scope.names, y.2 ≠ .cell
  free : ∀ y ∈ scope.names, y.2 = .free → y.1 = "__class__"
  cls : scope.names.lookup ("__class__" : Str) = some .free
  sup : scope.names.lookup ("super" : Str) = some .globalImplicit
theorem cells_one {cc : Addr} {x : Str} {c : Addr} (h : ([(("__class__" : Str), cc)] : List (Str × Addr)).lookup x = some c) : x = "__class__" ∧ c = cc := by
  by_cases e : x = "__class__"
  · subst e
    simp [List.lookup] at h
    exact ⟨rfl, h.symm⟩
  · have e' : (x == ("__class__" : Str)) = false := by simpa using e
    simp [List.lookup, e'] at h
theorem inv_startS {CX : CXT} {P : Program} {w : World} {K : PySem.W.Frag} {mg : Str → Option Value} {base : Heap} {ps : List Str} {qual : Str} {scope : Scope} {C f cda cc : Addr} {A : Around} {outer : List Env} {s : Shared} {h1 : Heap} {tk : Nat} {H : Hp} {E : XK} {us : List Value} {vs : List V}
    (S : SupS ps scope) (SC : SupC P K C cc cda) (hd : A.handled = none) (e0 : Env0 P w K mg base A outer s H) (hl : vs.length = ps.length) (r : Vals vs us)
    (hns : h1.Ns s.heap.objs.size (fun x => (ps.zip us).reverse.lookup x)) (hk : ∀ b o, s.heap.get? b = some o → h1.get? b = some o) :
    Inv (cxS CX P w K mg base ps qual scope f cda cc A outer s H E) [] (L2.start ps vs) H { s with heap := h1, toks := tk } := by
  obtain ⟨cl, cld, csl, hcc⟩ := SC.cell
  have cb : base.get? cc = some ⟨cl, cld, .cell (some (.ref C)), csl⟩ := e0.mod.kin _ _ hcc
  have cs := e0.bs _ _ cb
  have noA : ∀ b : Addr, b ∉ (cxS CX P w K mg base ps qual scope f cda cc A outer s H E).ex := fun b z => absurd (show b ∈ ([] : List Addr) from z) (by simp)
  refine ⟨⟨e0.mod, S.kind, rfl, rfl, Nat.le_refl _, fun y z c h1 h2 => ?_, fun y hy => ?_, fun y c hf h => ?_, fun _ => hd, Around.frames_deeper e0.frames, .inr ⟨rfl, rfl⟩, fun b z => absurd z (noA b), e0.bs, e0.bsz, fun b _ _ => noA b, fun b z => absurd z (noA b), e0.funs, e0.frf⟩,
    rfl, e0.bare, Un.kept hk, ⟨_, hns, fun i y v h1 h2 h3 => ?_⟩, fun y c h => ?_, e0.hok.fresh (Nat.le_refl _), fun y c h => ?_, fun p hp => absurd (show p ∈ ([] : List (Addr × Obj)) from hp) (by simp), e0.hok.kept hk, ?_⟩
  · exact (cells_one h1).1.trans (cells_one h2).1.symm
  · have hy : scope.names.lookup y = some .cell ∨ scope.names.lookup y = some .free := hy
    rcases hy with hy | hy
    · exact absurd rfl (S.nocell _ (PySem.mem_of_lookup hy))
    · have e := S.free _ (PySem.mem_of_lookup hy) rfl
      refine ⟨cc, ?_⟩
      have e : y = "__class__" := e
      subst e
      show ([(("__class__" : Str), cc)] : List (Str × Addr)).lookup ("__class__" : Str) = some cc
      simp [List.lookup]
  · have e := (cells_one h).1
    subst e
    exact absurd (show (!(("__class__" : Str) == ("__class__" : Str))) = true from hf) (by simp)
  · have hi : i < vs.length := by
      unfold L2.start at h2
      by_cases hi : i < vs.length
      · exact hi
      · rw [List.getElem?_append_right (by simpa using hi)] at h2
        rw [List.getElem?_replicate] at h2
        split at h2 <;> cases h2
    have ha : vs[i]? = some v := by
      unfold L2.start at h2
      rw [List.getElem?_append_left (by simpa using hi), List.getElem?_map] at h2
      cases e : vs[i]? with
      | none => rw [e] at h2; cases h2
      | some a => rw [e] at h2; cases h2; rfl
    obtain ⟨u, hu, rv⟩ := r.get ha
    have hp : ps[i]? = some y := h1
    exact ⟨u, rv, .inl ⟨S.par y (List.mem_of_getElem? hp), rlook S.nd hp hu⟩⟩
  · obtain ⟨_, e⟩ := cells_one h
    subst e
    exact ⟨some (.ref C), _, hk _ _ cs.1, rfl⟩
  · obtain ⟨_, e⟩ := cells_one h
    subst e
    exact cs.2
  · unfold L2.start
    show _ = ps.length
    rw [List.length_append, List.length_map, List.length_replicate]
    omega
theorem ea_one {M : Model} {A : Around} {E : Value → Shared → Prop} {s : Shared} {f : Value} {pos : Pos} {e : Expr} {env : Env} {Q : Args → Shared → Prop} (he : starEach [e] env = (false, eval e env) :: starEach [] env)
    (h : wpAny M A (spliced (backTo pos (starEach [e] env))) (fun vs s' => Q ⟨vs, []⟩ s') E s) : wpAny M A (evalArgs f true (backTo pos (starEach [e] env)) []) Q E s := by
  rw [he] at h ⊢
  exact PySem.Calls.evalArgs_plain h
section
variable {CX : CXT} {P : Program} {w : World} {K : PySem.W.Frag} {mg : Str → Option Value} {base : Heap} {ps : List Str} {qual : Str} {scope : Scope} {C f cda cc : Addr} {params : Arguments} {e : Expr} {rest : List Stmt} {dV kV doc pm ct oc : Value} {an od : Option Addr} {osl : Array (Option Value)}
  {p0 p1 p2 p3 p4 : Pos} {sp : Sp} {k : Nat} {ar : Arg}
theorem fn_sup (lk : K.lookup f = some ⟨oc, od, .func (PySem.W.ksFn "__init__" qual params (.Expr (.Call (.Attribute (.Call (.Name "super" p0) [] [] p1) "__init__" p2) [e] [] p3) p4 :: rest) scope dV kV doc pm an (.ref cda) ct cc), osl⟩)
    (hcd : PySem.W.codeIn K (.ref cda) qual = true) (S : SupS ps scope) (SC : SupC P K C cc cda) (hmg : mg "super" = none) (hp : (params.posonlyargs ++ params.args).head? = some ar) (hp0 : ps[0]? = some ar.arg)
    (len : ∀ vs H Q E, sp vs H Q E → vs.length = ps.length)
    (hbody : ∀ (A : Around) (outer : List Env) (s : Shared) (H : Hp) (vs : List V) (Q : VK) (E : XK), Room k (A.deeper (envS qual scope s.heap.objs.size f cda cc)) → sp vs H Q E →
      ∃ a ys ta t, PA (cxS CX P w K mg base ps qual scope f cda cc A outer s H E) [e] ta ∧ PSs (cxS CX P w K mg base ps qual scope f cda cc A outer s H E) rest t ∧ vs = .ref a :: ys ∧ H a = some (exo a C none) ∧
        ta (L2.start ps vs) H fun zs H1 => zs.length ≤ 1000 ∧ H1 a = some (exo a C none) ∧ t { nx := fun _ H' => Q .non H', rt := Q } (L2.start ps vs) H1)
    {pl : Sem Bool} (hev : ∀ env, eval (.Call (.Attribute (.Call (.Name "super" p0) [] [] p1) "__init__" p2) [e] [] p3) env = (do
      let ov ← attributeBase (.Call (.Name "super" p0) [] [] p1) "__init__" env (eval (.Call (.Name "super" p0) [] [] p1) env)
      standAt p2.atName
      let (f, first) ← holding [ov] (getMethod ov "__init__" pl)
      callWith p3 f first (backTo p3 (starEach [e] env)) []) := by intro _; rfl)
    (he : ∀ env, starEach [e] env = (false, eval e env) :: starEach [] env := by intro _; rfl) (hsw : ∀ env, swapsWith (.Call (.Attribute (.Call (.Name "super" p0) [] [] p1) "__init__" p2) [e] [] p3) none p4.line env = pure false := by intro _; rfl) :
    FnOk P w K mg base CX (k + 1) f (PySem.W.ksFn "__init__" qual params (.Expr (.Call (.Attribute (.Call (.Name "super" p0) [] [] p1) "__init__" p2) [e] [] p3) p4 :: rest) scope dV kV doc pm an (.ref cda) ct cc) ps sp := by
  refine ⟨len, fun A outer s H args us vs Q E hr e0 hb r hsp => ?_⟩
  have hl := len _ _ _ _ hsp
  have KX : K.In s.heap := e0.mod.kin.keeps fun b o e => (e0.bs b o e).1
  have lim : s.heap.NoLimit := e0.mod.nolimit.keeps fun b o e => (e0.bs b o e).1
  have hloc : ∀ y ∈ ps.zip us, scope.names.lookup y.1 = some .local := fun ⟨n, v⟩ hy => S.par n (List.of_mem_zip hy).1
  refine PySem.ks_codeAny_call_defAt hr.depth (KX _ _ lk) rfl lim (PySem.W.codeRec_of KX hcd) rfl hb S.nocell hloc (fun h1 hns hk => ?_) S.co S.gen S.kind
  obtain ⟨a, ys, ta, t, hta, ht, ev, ea, hq⟩ := hbody A outer s H vs Q E (hr.deeper _) hsp
  have I : Inv (cxS CX P w K mg base ps qual scope f cda cc A outer s H E) [] (L2.start ps vs) H { s with heap := h1, toks := s.toks + (ps.zip us).length } := inv_startS S SC hr.hd e0 hl r hns hk
  have K1 : K.In h1 := KX.keeps hk
  obtain ⟨nm, q, N, bs, bm, sn, sub, ab, col, dd, k0, k1, k2, k3, k5, hC, hbm⟩ := SC.oex.cls
  have hcl : PySem.W.clsIn K C = some { name := nm, bases := bs, mro := .ref C :: bm, ns := N, qualname := q, hasDict := true, slotNames := sn, subclasses := sub, abstract := ab, collection := col, hasDel := false } := by unfold PySem.W.clsIn; rw [hC] <;> rfl
  obtain ⟨cl, cld, csl, hcc⟩ := SC.cell
  obtain ⟨ccl, cdd, cvs, ccs, file, tf, hco, hvs, hfile⟩ := SC.code
  obtain ⟨t1, ho⟩ := exo_at I.hok ea
  have hu0 : us[0]? = some (.ref a) := by
    subst ev
    cases r with
    | cons ra _ => obtain rfl : _ = Value.ref a := ra; rfl
  have hv : (ps.zip us).reverse.lookup ar.arg = some (.ref a) := rlook S.nd hp0 hu0
  have hkl : (envS qual scope s.heap.objs.size f cda cc).kindOf ar.arg = some .local := S.par _ (List.mem_of_getElem? hp0)
  obtain ⟨mb, hb1, hb2⟩ := e0.mod.blt
  have fin : ∀ {u : Value} {s' : Shared} {σ' : L2.St} {H' : Hp} {v : V}, Inv (cxS CX P w K mg base ps qual scope f cda cc A outer s H E) [] σ' H' s' → RelV v u → Q v H' → CE outer P w H s Q u s' :=
    fun {u s' σ' H' v} J rv q => ⟨v, H', J.os, J.bare, J.base, J.hok, rv, q⟩
  refine PySem.ks_wpAt_execs_cons (PySem.ks_wpAt_Expr_any (PySem.ks_wpAt_MethodCall (PySem.ks_wpAt_super_base (env := envS qual scope s.heap.objs.size f cda cc) S.sup S.cls rfl rfl (K1 _ _ lk) rfl hp rfl (K1 _ _ hco) rfl hvs hfile SC.top ?_) (hev _)) I.quiet (hsw _))
  refine PySem.W.ks_loadName_global S.kind S.sup (Calls.loadGlobal_builtin ((e0.mod.glob.keeps fun b o e => (e0.bs b o e).1).keeps hk) hmg ((hb1.keeps fun b o e => (e0.bs b o e).1).keeps hk) ((hb2 _ (by decide +kernel)).trans PyProof.Rows.Boot.«super») ⟨rfl, ?_⟩)
  refine wpAny_loadName_free S.kind S.cls rfl ⟨_, K1 _ _ hcc, rfl⟩ ?_
  refine wpAny_loadName_local S.kind hkl hns hv ?_
  refine PySem.ks_wpAny_isType_cls (K1 _ _ hC) rfl ⟨rfl, ?_⟩
  refine PySem.ks_wpAny_call_super (K1 _ _ hC) rfl ho rfl (fun c z => nomatch z) (PySem.W.looks_mroIn K1 SC.sub) (fun h2 hso k2 => ?_)
  have K2 : K.In h2 := K1.keeps k2
  have I2 := I.kept (h' := h2) (t' := s.toks + (ps.zip us).length) k2
  have haC : a ≠ C := fun z => by
    have y := K1 _ _ hC
    rw [← z, ho] at y
    have y2 := congrArg (fun o => o.map (·.data)) y
    cases y2
  have ho2 := k2 _ _ ho
  have I0 : PySem.W.Looks (model P w) h2 (isInstance (.ref a) (.type "ValueError")) true := (show PySem.W.Looks (model P w) h2 (typeOf (.ref a)) (.ref C) from fun A Q E s k q => wpAny_typeOf_ref (k _ _ ho2) q).andThen (PySem.W.looks_subIn K2 SC.val)
  have hm := SC.met
  unfold PySem.W.ks_superIn at hm
  rw [hcl] at hm
  refine PySem.W.kxs_getMethod PySem.W.kxs_ValueError hso (PySem.W.looks_opaque K2 SC.any) (l₀ := .ref C :: bm) (fun A Q E s k q => wpAny_bind ((PySem.W.looks_clsIn K2 hcl) A _ E s k (wpAny_pure q))) rfl K2 hm I0 haC rfl ?_
  have k3 : ∀ b o, h2.get? b = some o → (h2.push (PySem.W.kxs_mw "ValueError.__init__" a)).get? b = some o := fun b o z => Heap.get?_push_of_some _ z
  have I3 := I2.kept (h' := h2.push (PySem.W.kxs_mw "ValueError.__init__" a)) (t' := s.toks + (ps.zip us).length + 1) k3
  have hmw : (h2.push (PySem.W.kxs_mw "ValueError.__init__" a)).get? h2.objs.size = some (PySem.W.kxs_mw "ValueError.__init__" a) := Heap.get?_push_at rfl rfl
  have nL : h2.objs.size ≠ s.heap.objs.size := Nat.ne_of_gt I2.lt
  have I4 := I3.pins_of (pins' := [(h2.objs.size, PySem.W.kxs_mw "ValueError.__init__" a)]) (fun p hp => by
    rw [List.mem_singleton] at hp
    subst hp
    exact ⟨hmw, I2.hok.fresh (Nat.le_refl _), nL, I2.nofs (Nat.le_refl _), fun v z => nomatch z⟩)
  refine PySem.W.kxs_callWith (i := "ValueError.__init__") (x := a) (by rw [he]; rfl) ?_
  refine ea_one (he _) ?_
  refine wpAny_mono (hta.run p3 _ _ _ H _ I4 hq) (fun ws s5 ⟨zs, H1, I5, rz, hz, ea5, hq5⟩ => ?_) fun _ _ z => z
  obtain ⟨hmw5, _⟩ := I5.pin _ (List.mem_append_right _ (List.mem_singleton.mpr rfl))
  refine ⟨hmw5, ?_⟩
  have hwl : ws.length ≤ sizeLine := by
    rw [← Paired.length rz, sizeLine_eq]
    omega
  obtain ⟨t5, ho5⟩ := exo_at I5.hok ea5
  have K5 : K.In s5.heap := I5.kIn
  obtain ⟨hp5, g5, d5, tk5, os5⟩ := s5
  refine wpAny_call (codeAny_of_tree ?_)
  show wpAny _ (A.deeper (envS qual scope s.heap.objs.size f cda cc)).in1 (callAny (.ref h2.objs.size) ⟨[] ++ ws, []⟩) _ _ _
  rw [List.nil_append]
  simp only [callAny]
  refine wpAny_bind (wpAny_load hmw5 ?_)
  simp only [PySem.W.kxs_mw, show (Value.type "method-wrapper" == Value.type "method" || Value.type "method-wrapper" == Value.type "builtin_function_or_method" || Value.type "method-wrapper" == Value.type "method-wrapper") = true by decide, if_true]
  refine PySem.W.KFB.if_so (by decide) ?_
  refine wpAny_bind (PySem.W.check_bound_init PySem.F.excBase_ValueError.toExcCallFacts (K5 _ _ hC) ho5 rfl ?_)
  refine wpAny_bind (wpAny_pure (wpAny_pure ?_))
  refine ⟨PySem.plainId_quiet PySem.F.excBase_ValueError.init.plain _, codeAny_builtin PySem.F.excBase_ValueError.initEntry ?_⟩
  refine PySem.W.exc_init_tree (cls := .ref C) (t0 := t5) (dv := none) (c2 := .none) (c3 := .none) (b4 := .bool false) ho5 hwl (fun h6 k6 e6 _ => ?_)
  have J := I5.write (t' := tk5) (x := a) (e := a) (o := exo a C none) (by rw [ea5]; exact True.intro) (.inl rfl) k6 ⟨_, e6⟩ (exo_ok e6)
  have eu : upd H1 a (exo a C none) = H1 := by
    funext b
    by_cases hb : b = a
    · rw [hb, upd_same, ea5]
    · rw [upd_ne hb]
  rw [eu] at J
  have J := J.pins_of (pins' := []) (fun p hp => by cases hp)
  refine PySem.wpAt_of_wpAny (wpAny_mono (ht.run [] _ _ H1 _ J hq5) (fun fl s7 hs => ?_) fun _ _ z => z)
  cases fl with
  | ret u =>
    obtain ⟨v, σ', H', J7, rv, q⟩ := hs
    exact fin J7 rv q
  | next =>
    obtain ⟨σ', H', J7, q⟩ := hs
    exact fin (v := V.non) (u := Value.none) J7 rfl q
  | brk =>
    obtain ⟨_, _, _, q⟩ := hs
    exact False.elim q
  | cont =>
    obtain ⟨_, _, _, q⟩ := hs
    exact False.elim q
end
end FL

/-! FX2: errors with one field: made, raised. -/
namespace FL
open PySem L2
/-- an error raised, if its text fits -/
def raX {τ : Type} (m : Xc Str) (x : Str) (fs : List (Str × V)) : Xc τ := match m with
  | .ok _ => .er x fs
  | _ => .no
/-- what an __init__ of an error with the field fl promises -/
def spX {α : Type} [Rp α] (K : PySem.W.Frag) (C : Addr) (fl : Str) (ft : α → Xc Str) : Sp := fun vs H Q E => ∃ a y F x t, vs = [.ref a, y] ∧ H a = some (exo a C none) ∧ Same F H ∧ Rp.is K F y x ∧ ft x = .ok t ∧
  ∀ F1 H1 dx, Wd F H F1 H1 → H1 dx = none → dx ≠ a → Q .non (upd (upd H1 dx (exd dx [(fl, y)])) a (exo a C (some dx)))
/-- an error class of one field -/
structure Xf {α : Type} [Rp α] (P : Program) (w : World) (K : PySem.W.Frag) (mg : Str → Option Value) (base : Heap) (x fl : Str) (k : Nat) (ft : α → Xc Str) : Prop where
  oex : OexC K (He.ga K x)
  ini : ∃ fI fd ps, PySem.W.findIn K (.ref (He.ga K x)) "__init__" = some (some (.ref fI)) ∧ PySem.W.typeIn K (.ref fI) = some (.type "function") ∧ FnOk P w K mg base (L2.CX P w) k fI fd ps (spX K (He.ga K x) fl ft) ∧ Binds K fd ps []
  mg : mg x = some (.ref (He.ga K x))
section
variable {P : Program} {w : World} {K : PySem.W.Frag} {mg : Str → Option Value} {base : Heap} {ps : List Str} {qual : Str} {scope : Scope} {C f cda cc : Addr} {params : Arguments} {e : Expr} {dV kV doc pm ct oc : Value} {an od : Option Addr} {osl : Array (Option Value)}
  {p0 p1 p2 p3 p4 q0 q1 q2 q3 : Pos} {k : Nat} {ar : Arg} {α : Type} [Rp α] {ft : α → Xc Str} {self p fl : Str}
theorem fn_supx (lk : K.lookup f = some ⟨oc, od, .func (PySem.W.ksFn "__init__" qual params [.Expr (.Call (.Attribute (.Call (.Name "super" p0) [] [] p1) "__init__" p2) [e] [] p3) p4, .Assign [.Attribute (.Name self q0) fl q1] (.Name p q2) q3] scope dV kV doc pm an (.ref cda) ct cc), osl⟩)
    (hcd : PySem.W.codeIn K (.ref cda) qual = true) (S : SupS [self, p] scope) (SC : SupC P K C cc cda) (hmg : mg "super" = none) (hp : (params.posonlyargs ++ params.args).head? = some ar) (hp0 : ar.arg = self)
    (hno : PySem.W.findIn K (.ref C) fl = some none)
    (ht : ∀ (A : Around) (outer : List Env) (s : Shared) (H : Hp) (E : XK) (c : C0), FE (cxS (L2.CX P w) P w K mg base [self, p] qual scope f cda cc A outer s H E) c (un (va α nl)) e (fun g => ft g.1))
    {pl : Sem Bool} (hev : ∀ env, eval (.Call (.Attribute (.Call (.Name "super" p0) [] [] p1) "__init__" p2) [e] [] p3) env = (do
      let ov ← attributeBase (.Call (.Name "super" p0) [] [] p1) "__init__" env (eval (.Call (.Name "super" p0) [] [] p1) env)
      standAt p2.atName
      let (f, first) ← holding [ov] (getMethod ov "__init__" pl)
      callWith p3 f first (backTo p3 (starEach [e] env)) []) := by intro _; rfl)
    (he : ∀ env, starEach [e] env = (false, eval e env) :: starEach [] env := by intro _; rfl) (hsw : ∀ env, swapsWith (.Call (.Attribute (.Call (.Name "super" p0) [] [] p1) "__init__" p2) [e] [] p3) none p4.line env = pure false := by intro _; rfl)
    (hsw2 : ∀ env, swapsWith (.Name p q2) (some (.Attribute (.Name self q0) fl q1)) q3.line env = pure false := by intro _; rfl)
    (hd1 : (self == ("__debug__" : Str)) = false := by decide) (hd2 : (p == ("__debug__" : Str)) = false := by decide) (hd3 : (self == ("__classdict__" : Str)) = false := by decide) (hd4 : (p == ("__classdict__" : Str)) = false := by decide) :
    FnOk P w K mg base (L2.CX P w) (k + 1) f (PySem.W.ksFn "__init__" qual params [.Expr (.Call (.Attribute (.Call (.Name "super" p0) [] [] p1) "__init__" p2) [e] [] p3) p4, .Assign [.Attribute (.Name self q0) fl q1] (.Name p q2) q3] scope dV kV doc pm an (.ref cda) ct cc) [self, p] (spX K C fl ft) := by
  refine fn_sup (C := C) (ps := [self, p]) lk hcd S SC hmg hp (by rw [hp0]; rfl) (fun vs H Q E ⟨a, y, F, x, t, e, _⟩ => by rw [e]; rfl) (fun A outer s H vs Q E hr ⟨a, y, F, x, t, ev, ea, sm, r, et, hq⟩ => ?_) hev he hsw
  refine ⟨a, [y], _, _, fa_cons (ht A outer s H E ⟨F, H, fun _ _ _ _ => False⟩) fa_nil (he _), pss_one (ps_ost (pe_var (i := 0) rfl (.inl (S.par _ (by simp))) hd1 hd3) (pe_var (i := 1) rfl (.inl (S.par _ (by simp))) hd2 hd4) (hsw2 _)), ev, ea, ?_⟩
  subst ev
  refine ⟨F, (x, ()), Wd.refl sm, ⟨_, _, rfl, y, _, rfl, r, trivial⟩, ?_⟩
  show PoA K F H _ _ ((ft x).bind _)
  rw [et]
  intro vs F1 H1 w1 r1
  obtain ⟨v, rr, e1, r2, e2⟩ := r1
  have e2 : rr = [] := e2
  subst e1 e2
  refine ⟨by simp, w1.h _ _ ea, y, rfl, .ref a, rfl, a, C, rfl, SC.oex, hno, .inl ⟨w1.h _ _ ea, fun dx n ne => hq F1 H1 dx w1 n ne⟩⟩
end
section
variable {X : Cx} {τ ρ β γ γ' α : Type} [Rp α] [ScalR α] {c : C2 τ ρ β} {G : EnvT γ} {G' : EnvT γ'} {pos pos2 p p2 : Pos} {j k : Nat} {x fl : Str} {e : Expr} {ft : α → Xc Str} {fe : γ → Xc α}
/-- the heap of the error that is made, without the error itself -/
theorem wd_del {F1 H1 F2 H2 : Hp} {a : Addr} {o : HO} (s : Same F1 H1) (n : H1 a = none) (w : Wd F1 (upd H1 a o) F2 H2) : Wd F1 H1 F2 (del H2 a) := by
  have fa : F2 a = none := w.own (s.free n) upd_same
  refine ⟨w.f, fun b u e => ?_, fun b u e => ?_, fun b h e => ?_⟩
  · have hb : b ≠ a := fun z => by rw [z, n] at e; cases e
    rw [del_ne hb]
    exact w.h b u (by rw [upd_ne hb]; exact e)
  · have hb : b ≠ a := fun z => by rw [z, fa] at e; cases e
    rw [del_ne hb]
    exact w.s b u e
  · have q := w.n b h e
    have hb : b ≠ a := fun z => by rw [z, upd_same] at q; cases q
    rw [upd_ne hb] at q
    exact q
theorem same_put {F H : Hp} {a : Addr} {o : HO} (s : Same F H) (n : H a = none) : Same F (upd H a o) := fun b u e => by
  have hb : b ≠ a := fun z => by rw [z, s.free n] at e; cases e
  rw [upd_ne hb]
  exact s b u e
theorem del_upd {H2 : Hp} {a d : Addr} {o o1 o2 : HO} (ne : d ≠ a) : upd (del (upd (upd H2 d o1) a o2) a) d o = upd (del H2 a) d o := by
  funext b
  by_cases hd : b = d
  · rw [hd, upd_same, upd_same]
  · rw [upd_ne hd, upd_ne hd]
    by_cases ha : b = a
    · rw [ha, del_same, del_same]
    · rw [del_ne ha, del_ne ha, upd_ne ha, upd_ne hd]
/-- C(e) makes an error -/
theorem pmk_x (T : Xf X.prog X.w X.K X.mg X.base x fl j ft) {c : C0} (tk : Takes X c.W) (hr : Room k X.A) (he : FE X c G e fe) (hjk : j + 1 ≤ k := by decide) (hg : Gl X x := by rfl) (hdb : (x == ("__debug__" : Str)) = false := by decide)
    (hs : starEach [e] X.env = (false, eval e X.env) :: starEach [] X.env := by rfl) (hpl : (backTo pos (starEach [] X.env)).any (·.1) = false := by rfl) :
    PMk X (.Call (.Name x p) [e] [] pos) (fun σ H Q => ∃ F g, Wd c.F0 c.H0 F H ∧ G.rel X.K c.H0 F H σ g ∧ ((fe g).bind fun v => (raX (ft v) x [(fl, ScalR.toV v)] : Xc Unit)) ≠ .no ∧ ∀ cc fs, ((fe g).bind fun v => (raX (ft v) x [(fl, ScalR.toV v)] : Xc Unit)) = .er cc fs → ErP X.K F H Q cc fs ∧ ErP X.K F H (WE c.W σ) cc fs) := by
  obtain ⟨fI, fd, ps, i1, i2, F1, B⟩ := T.ini
  intro pins s σ H Q I ⟨F, g, w, q, nn, h⟩
  refine pmk_oex (ta := tA X.K c G fun g => (fe g).bind fun i => (Xc.ok ()).bind fun r => Xc.ok (i, r)) (dvs := []) T.oex i1 i2 F1 (hr.mono hjk) B .nil (fun pins σ H s e s' I z => passes_call tk (fun _ _ _ _ z => z.elim) pins σ H s e s' I z) hg T.mg (fa_cons he fa_nil hs) hdb hs hpl pins s σ H Q I ⟨F, g, w, q, ?_⟩
  show PoA X.K F H _ _ ((fe g).bind _)
  cases e1 : fe g with
  | no => rw [e1] at nn; exact absurd rfl nn
  | er cc fs => exact (h cc fs (by rw [e1]; rfl)).2
  | ok v =>
    rw [e1] at nn h
    cases e2 : ft v with
    | no => simp only [bind_ok, e2, raX] at nn; exact absurd rfl nn
    | er cc fs => simp only [bind_ok, e2, raX] at nn; exact absurd rfl nn
    | ok t =>
      have hq := (h x [(fl, ScalR.toV v)] (by simp only [bind_ok, e2, raX])).1
      intro vs F1 H1 w1 r1
      obtain ⟨y, rr, e3, r2, e4⟩ := r1
      have e4 : rr = [] := e4
      subst e3 e4
      have ey := ScalR.eq r2
      subst ey
      refine ⟨by simp, fun a ha => ⟨a, _, F1, v, t, rfl, upd_same, same_put w1.s ha, r2, e2, fun F2 H2 dx w2 n2 ne => ⟨rfl, dx, [(fl, ScalR.toV v)], upd_same, ?_, ?_, ?_⟩⟩⟩
      · rw [upd_ne ne, upd_same]
      · cases z : H1 dx with
        | none => rfl
        | some o =>
          have y := w2.h dx o (by rw [upd_ne ne]; exact z)
          rw [n2] at y
          cases y
      · rw [del_upd ne]
        exact hq F2 (del H2 a) dx (w1.trans (wd_del w1.s ha w2)) (by rw [del_ne ne]; exact n2)
/-- raise C(e) -/
theorem fs_raix {c : C2 τ ρ β} (T : Xf X.prog X.w X.K X.mg X.base x fl j ft) (tk : Takes X c.W) (hr : Room k X.A) (he : FE X c.toC0 G e fe) (hc : X.calm = true := by rfl) (hjk : j + 1 ≤ k := by decide) (hg : Gl X x := by rfl) (hdb : (x == ("__debug__" : Str)) = false := by decide)
    (hs : starEach [e] X.env = (false, eval e X.env) :: starEach [] X.env := by rfl) (hpl : (backTo pos (starEach [] X.env)).any (·.1) = false := by rfl) :
    FS X c G (.Raise (some (.Call (.Name x p) [e] [] pos)) none pos2) G' (fun g _ => (fe g).bind fun v => raX (ft v) x [(fl, ScalR.toV v)]) :=
  PS.imp (ps_raise hc tk (pmk_x T tk hr he hjk hg hdb hs hpl)) fun D σ H ⟨F, g, k, w, q, d, n⟩ => by
    have d : Done X.K c D F σ ((fe g).bind fun v => (raX (ft v) x [(fl, ScalR.toV v)] : Xc τ)) := d
    refine ⟨F, g, w, q, ?_, fun cc fs e1 => ?_⟩
    · intro z
      cases e1 : fe g with
      | no => simp only [e1, bind_no] at d; exact d
      | er cc fs => rw [e1] at z; cases z
      | ok v =>
        rw [e1] at z
        simp only [e1, bind_ok] at d z
        cases e2 : ft v with
        | ok t => rw [e2] at z; cases z
        | er cc fs => rw [e2] at d; exact d
        | no => rw [e2] at d; exact d
    · have e3 : ((fe g).bind fun v => (raX (ft v) x [(fl, ScalR.toV v)] : Xc τ)) = .er cc fs := by
        cases e1' : fe g with
        | no => rw [e1'] at e1; cases e1
        | er cc' fs' => rw [e1'] at e1; cases e1; rfl
        | ok v =>
          rw [e1'] at e1
          simp only [bind_ok] at e1 ⊢
          cases e2 : ft v with
          | ok t => rw [e2] at e1; cases e1; rfl
          | er cc fs => rw [e2] at e1; cases e1
          | no => rw [e2] at e1; cases e1
      rw [e3] at d
      exact ⟨d σ F H (Ws.refl w) Ag.refl, d σ F H (Ws.refl w) Ag.refl⟩
theorem fn_raix {c : C1} (T : Xf X.prog X.w X.K X.mg X.base x fl j ft) (tk : Takes X c.W) (hr : Room k X.A) (he : FE X c.toC0 G e fe) (hc : X.calm = true := by rfl) (hjk : j + 1 ≤ k := by decide) (hg : Gl X x := by rfl) (hdb : (x == ("__debug__" : Str)) = false := by decide)
    (hs : starEach [e] X.env = (false, eval e X.env) :: starEach [] X.env := by rfl) (hpl : (backTo pos (starEach [] X.env)).any (·.1) = false := by rfl) :
    FN X c G (.Raise (some (.Call (.Name x p) [e] [] pos)) none pos2) G' (fun g => (fe g).bind fun v => raX (ft v) x [(fl, ScalR.toV v)]) :=
  PS.imp (ps_raise hc tk (pmk_x T tk hr he hjk hg hdb hs hpl)) fun D σ H ⟨F, g, w, q, d⟩ => by
    have d : PoN X.K c G' D F H σ ((fe g).bind fun v => (raX (ft v) x [(fl, ScalR.toV v)] : Xc γ')) := d
    refine ⟨F, g, w, q, ?_, fun cc fs e1 => ?_⟩
    · intro z
      cases e1 : fe g with
      | no => simp only [e1, bind_no] at d; exact d
      | er cc fs => rw [e1] at z; cases z
      | ok v =>
        rw [e1] at z
        simp only [e1, bind_ok] at d z
        cases e2 : ft v with
        | ok t => rw [e2] at z; cases z
        | er cc fs => rw [e2] at d; exact d
        | no => rw [e2] at d; exact d
    · have e3 : ((fe g).bind fun v => (raX (ft v) x [(fl, ScalR.toV v)] : Xc γ')) = .er cc fs := by
        cases e1' : fe g with
        | no => rw [e1'] at e1; cases e1
        | er cc' fs' => rw [e1'] at e1; cases e1; rfl
        | ok v =>
          rw [e1'] at e1
          simp only [bind_ok] at e1 ⊢
          cases e2 : ft v with
          | ok t => rw [e2] at e1; cases e1; rfl
          | er cc fs => rw [e2] at e1; cases e1
          | no => rw [e2] at e1; cases e1
      rw [e3] at d
      exact ⟨d σ F H (Ws.refl w) Ag.refl, d σ F H (Ws.refl w) Ag.refl⟩
end
end FL

/-! FX3: several except clauses with a name; the error's field, its class. -/
namespace FL
open PySem L2 PySem.Spec PyProof.Rows
abbrev TsA := Addr → Value → Option Addr → TS
/-- the wish behind clauses that bind the slot i -/
def wAss (K : PySem.W.Frag) (i : Nat) (Wo : WX) (D : Ends) : List (Value × TsA) → WX
  | [] => Wo
  | (cv, ts) :: l => fun cls d σ H => ∃ b, PySem.W.exmOne K cls cv = some b ∧
      (b = true → ∀ p, H p = none → ts p cls d { nx := fun σ2 H2 => D.nx (σ2.set i none) H2, rt := D.rt, bk := fun σ2 H2 => D.bk (σ2.set i none) H2, ct := fun σ2 H2 => D.ct (σ2.set i none) H2 } (σ.set i (some (.ref p))) H) ∧
      (b = false → wAss K i Wo D l cls d σ H)
inductive HdA (X : Cx) (n : Str) : List ExceptHandler → List (Value × TsA) → Prop
  | nil : HdA X n [] []
  | cons {x : Str} {cv : Value} {ts : TsA} {b₀ : Stmt} {su : List Stmt} {np hp : Pos} {hs : List ExceptHandler} {l : List (Value × TsA)} (hc : Names X x cv)
      (hu : ∀ (p : Addr) (o : Obj) (cls : Value) (d : Option Addr) (pn : List (Addr × Obj)), Zc cls d o → (∃ vs, o.data = .fields vs) → PSs (X.suite p ((p, o) :: pn)) (b₀ :: su) (ts p cls d)) (r : HdA X n hs l) :
      HdA X n (.ExceptHandler (some (.Name x np)) (some n) (b₀ :: su) hp :: hs) ((cv, ts) :: l)
section
variable {X : Cx} {n : Str} {i : Nat} {body : List Stmt} {h₀ : ExceptHandler} {hs : List ExceptHandler} {l : List (Value × TsA)} {pos : Pos} {tb : WX → TS} {Wo : WX}
theorem ps_ass (hst : X.stack = X.env :: X.outer) (hfr : X.env.frame = some X.env.locals) (hN : X.N.Nodup) (hi : X.N[i]? = some n) (hln : X.env.kindOf n = some .local) (tk : Takes X Wo)
    (hb : ∀ (W : WX) (pn : List (Addr × Obj)) (xe : Value → Shared → Prop), Takes (X.tr pn xe) W → PassesOwn (model X.prog X.w) X.A X.env xe → PSs (X.tr pn xe) body (tb W))
    (hh : HdA X n (h₀ :: hs) l) : PS X (.Try body (h₀ :: hs) [] [] pos) (fun D σ H => tb (wAss X.K i Wo D l) D σ H) := by
  refine ⟨fun pins s σ H D I0 wish => ?_⟩
  have okX := I0.ok
  have fA : X.A.frames = some (X.env :: X.outer) := by rw [okX.frames, hst]
  have lcn : Loc X.env.scope n := .inl hln
  refine wpAny_Try_except ?_
  refine wpAny_mono ((hb (wAss X.K i Wo D l) (X.pn ++ pins) (fun er s₁ => wpAny (model X.prog X.w) X.A (noteFrame er X.env) (fun _ s₂ => wpAny (model X.prog X.w) X.A (setFlight er none) (fun _ s₃ => wpAny (model X.prog X.w) X.A (handleBy er X.env (h₀ :: hs)) (SP X pins D) X.xe s₃) X.xe s₂) X.xe s₁) (fun u sB xx => ?_) PassesOwn.looking).run [] s σ H D (I0.toTry _) wish) (fun fl sC hsp => ?_) (fun _ _ z => z)
  · obtain ⟨p, B, sI, pins', σB, HB, cls, d, rfl, JB, nb, up, sky, na, os, ag, ww⟩ := xx
    have J : Inv X pins σB HB sI := JB.ofTry okX
    have skyB : Sky B (X.env :: X.outer) p (Zc cls d) X.env.locals sB.heap := by rw [← hst]; exact sky
    show wpAny (model X.prog X.w) X.A (noteFrame (.ref p) X.env) _ _ _
    refine Sky.land Zc.steady fA hfr skyB fun hD flD upD => ?_
    have JD : Inv X pins σB HB { sB with heap := hD } := J.landed nb flD.1 (up.trans upD) os ag
    obtain ⟨oD, vD, heD, hzD, hdD⟩ := flD.there
    have nfr : p ∉ frs (X.env :: X.outer) := fun hm => by
      obtain ⟨_, o2, e2, hnf⟩ := flD.2.2.1.mem hm
      rw [heD] at e2; cases e2
      exact hnf _ hdD
    have nL : p ≠ X.env.locals := fun z => nfr (List.mem_filterMap.mpr ⟨X.env, List.mem_cons_self, by rw [hfr, z]⟩)
    have nF : p ∉ X.fs := fun hm => by
      obtain ⟨ev, hev, q⟩ := List.mem_filterMap.mp hm
      exact nfr (List.mem_filterMap.mpr ⟨ev, List.mem_cons_of_mem _ hev, q⟩)
    have SD := JD.suite heD hdD na nL nF
    have go : ∀ {hs2 : List ExceptHandler} {l2 : List (Value × TsA)}, HdA X n hs2 l2 → wAss X.K i Wo D l2 cls d σB HB → wpAny (model X.prog X.w) X.A (handleBy (.ref p) X.env hs2) (SP X pins D) X.xe { sB with heap := hD } := by
      intro hs2 l2 hk
      induction hk with
      | nil =>
        intro w0
        refine wpAny_handleBy_nil ?_
        obtain ⟨k1, k2, k3, o3, v3, T3, oT3, t3, he3, hz3, hd3, h13, hr3⟩ := id flD
        unfold PySem.passOn
        refine wpAny_bind (wpAny_field he3 hd3 h13 ?_)
        rw [if_neg (show ¬ ((Value.ref T3 == Value.none) = true) from by simp)]
        have last : wpAny (model X.prog X.w) X.A (setFlight (.ref p) X.env.frame) (fun _ s4 => wpAny (model X.prog X.w) X.A (throw (.ref p) : Sem Flow) (SP X pins D) X.xe s4) X.xe { sB with heap := hD } := by
          rw [hfr]
          refine HandSPX.setFlight_upZ flD fun h4 hh4 up4 => wpAny_throw (tk _ _ ?_)
          exact ⟨p, B, sI, pins, σB, HB, cls, d, rfl, J, nb, (up.trans upD).trans up4, .inr (.inr (by rw [hst]; exact hh4)), na, os, ag, w0⟩
        first
          | exact wpAny_bind (wpAny_pure (wpAny_bind last))
          | exact wpAny_bind last
      | @cons x cv ts b₀ su np hp hs3 l3 hc hu r ih =>
        intro w0
        obtain ⟨b, hb1, hyes, hno⟩ := w0
        refine wpAny_handleBy_cons (codeAny_handlers_test ?_) (by intro q; cases q)
        have LT : PySem.W.Looks (model X.prog X.w) hD (typeOf (.ref p)) cls := fun A Q E s k q => wpAny_typeOf_ref (k _ _ heD) (by rw [hzD.1]; exact q)
        have LM := PySem.W.exm_one (M := model X.prog X.w) (JD.kIn) LT hb1
        have asked : ∀ {Q : Value → Shared → Prop} {E : Value → Shared → Prop}, Q cv { sB with heap := hD } → wpAny (model X.prog X.w) (X.A.mark (some (.ref p))) (eval (.Name x np) X.env) Q E { sB with heap := hD } := fun {Q E} q => by
          obtain ⟨hg, hdbg, hm | ⟨hm, hv, hnn⟩⟩ := hc
          · exact ld_glob (X := X.suite p ((p, oD) :: (X.pn ++ pins))) SD hg hm q hdbg
          · exact ld_blt (X := X.suite p ((p, oD) :: (X.pn ++ pins))) SD hg hm hv q hnn hdbg
        refine asked (LM.here ?_)
        cases b with
        | false =>
          show wpAny _ X.A (handleBy (.ref p) X.env hs3) _ _ _
          exact ih (hno rfl)
        | true =>
          refine codeAny_handlers_suite_as ?_
          refine HandSPX.lands_againZ flD fun h4 fl4 up4 => ?_
          have J4 : Inv X pins σB HB { sB with heap := h4 } := J.landed nb fl4.1 ((up.trans upD).trans up4) os ag
          obtain ⟨o4, v4, he4, hz4, hd4⟩ := fl4.there
          have S4 := J4.suite he4 hd4 na nL nF
          refine store_ok (X := X.suite p ((p, o4) :: (X.pn ++ pins))) (v := .ref p) S4 hN hi lcn rfl (fun s5 S5 => ?_) (.inr hln)
          refine wpAny_mono ((hu p o4 cls d (X.pn ++ pins) hz4 ⟨_, hd4⟩).run [] s5 _ HB _ S5 (hyes rfl p na)) (fun f s6 hsp => ?_) (fun _ _ z => False.elim z)
          have leave : ∀ {σ6 : L2.St} {H6 : Hp} {Q : Shared → Prop}, Inv (X.suite p ((p, o4) :: (X.pn ++ pins))) [] σ6 H6 s6 → (∀ s7, Inv X pins (σ6.set i none) H6 s7 → Q s7) →
              wpAny (model X.prog X.w) X.A (do bindName X.env n .none; unbindBehindTheSuite X.env n hp) (fun _ s7 => Q s7) X.xe s6 := fun {σ6 H6 Q} S6 hq => gone_ok (S6.unsuite okX) hN hi hln hq
          cases f with
          | next =>
            obtain ⟨σ6, H6, S6, q6⟩ := hsp
            exact leave S6 fun s7 J7 => ⟨_, _, J7, q6⟩
          | brk =>
            obtain ⟨σ6, H6, S6, q6⟩ := hsp
            exact leave S6 fun s7 J7 => ⟨_, _, J7, q6⟩
          | cont =>
            obtain ⟨σ6, H6, S6, q6⟩ := hsp
            exact leave S6 fun s7 J7 => ⟨_, _, J7, q6⟩
          | ret u =>
            obtain ⟨v6, σ6, H6, S6, r6, q6⟩ := hsp
            exact leave S6 fun s7 J7 => ⟨_, _, _, J7, r6, q6⟩
    exact go hh ww
  · cases fl with
    | next =>
      obtain ⟨σ2, H2, J2, q⟩ := hsp
      exact wpAny_execs_nil ⟨σ2, H2, J2.ofTry okX, q⟩
    | brk =>
      obtain ⟨σ2, H2, J2, q⟩ := hsp
      exact ⟨σ2, H2, J2.ofTry okX, q⟩
    | cont =>
      obtain ⟨σ2, H2, J2, q⟩ := hsp
      exact ⟨σ2, H2, J2.ofTry okX, q⟩
    | ret u =>
      obtain ⟨v, σ2, H2, J2, r, q⟩ := hsp
      exact ⟨v, σ2, H2, J2.ofTry okX, r, q⟩
end
/-! ### isinstance of an error with fields -/
def rIsD (K : PySem.W.Frag) (D p dd : Addr) : List V → Hp → VK → Prop := fun xs H Q => ∃ (c : V) (cv : Value) (b : Bool) (fs : List (Str × V)), xs = [.ref p, c] ∧ (∀ u, RelV c u → u = cv) ∧ PySem.W.kitOne K (.ref D) cv = some b ∧ H dd = some (.xd fs) ∧ Q (.bl b) H
theorem call_isD {X : Cx} {p D dd : Addr} {oe : Obj} {pn : List (Addr × Obj)} (C : ExcC X.K D) (hz : Zc (.ref D) (some dd) oe) (hf : ∃ vs, oe.data = .fields vs) : CallR (X.suite p ((p, oe) :: pn)) (.builtin "isinstance") (rIsD X.K D p dd) := by
  intro pins s σ H xs us Q I r h
  obtain ⟨c, cv, b, fs, rfl, hcv, e, hd, q⟩ := h
  cases r with
  | cons rx rr =>
    cases rr with
    | cons rt rr =>
      cases rr
      cases rx
      have ec := hcv _ rt
      subst ec
      obtain ⟨hget, _⟩ := I.pin (p, oe) (List.mem_append.mpr (.inl List.mem_cons_self))
      obtain ⟨vs, hv⟩ := hf
      have hx : ObjOk X.prog X.w H s.heap dd (.xd fs) := I.hok dd _ hd
      obtain ⟨mA, hns, hr⟩ := hx
      obtain ⟨od, ho, hl⟩ := lookIn_ns hns
      have J : PySem.W.InstAt s.heap p oe D (some od) := ⟨hget, hz.1, by unfold PySem.W.notCls; rw [hv] <;> rfl, by rw [hz.2]; exact ho⟩
      obtain ⟨cd, hcl, _⟩ := PySem.W.any_some C.hd
      exact PySem.W.kia_one (PySem.W.kitx_exc (by rw [hcl]; rfl) C.hg C.hk C.hs C.ha C.hn C.ht C.hm) I.kIn J e (fun z => nomatch z) fun tk => ⟨.bl b, H, I.kept (t' := tk) fun _ _ z => z, rfl, q⟩
end FL

/-! FX4: try with several clauses that bind a name and read the error's fields. -/
namespace FL
open PySem L2
/-- the fields of the error that a suite holds lie at d -/
def wfd (d : Addr) {γ : Type} (G : EnvT γ) : EnvT (List (Str × V) × γ) where
  rel := fun K H0 F H σ g => F d = some (.xd g.1) ∧ G.rel K H0 F H σ g.2
  own := G.own
  mono := fun ⟨e, h⟩ w => ⟨w.f _ _ e, G.mono h w⟩
  mu := fun ⟨e, h⟩ n => ⟨e, G.mu h n⟩
  al := fun ⟨e, h⟩ m => G.al h m
instance {α γ : Type} [r : Rp α] (d : Addr) (G : EnvT γ) (i : Nat) (π : γ → α) [a : At G i α r π] : At (wfd d G) i α r (fun g => π g.2) := ⟨fun ⟨_, q⟩ => a.get q⟩
instance {γ : Type} (d : Addr) (G : EnvT γ) (i : Nat) (v : V) [a : AtX G i v] : AtX (wfd d G) i v := ⟨fun ⟨_, q⟩ => a.get q⟩
instance subWf {γ γ' : Type} (d : Addr) (G : EnvT γ) (G' : EnvT γ') (h : γ → γ') [S : Sub G G' h] : Sub (wfd d G) G' (fun g => h g.2) := ⟨fun ⟨_, q⟩ => S.sub q, fun ⟨_, q⟩ m => S.own q m⟩
structure Hd (γh γ' τ : Type) where
  k : Str → Option Bool
  h : Str → List (Str × V) × γh → (γ' → Xc (Sum γ' τ)) → Xc (Sum γ' τ)
def goF {γh γ' τ : Type} (cc : Str) (fs : List (Str × V)) (gh : γh) : List (Hd γh γ' τ) → Xc (Sum γ' τ)
  | [] => .er cc fs
  | q :: r => match q.k cc with
    | some true => if fs.isEmpty = true then .no else q.h cc (fs, gh) fun g' => .ok (.inl g')
    | some false => goF cc fs gh r
    | none => .no
def catF {γh γ' τ : Type} (hm : List (Hd γh γ' τ)) (m : Xc (Sum γ' τ)) (gh : γh) : Xc (Sum γ' τ) := match m with
  | .ok t => .ok t
  | .er cc fs => goF cc fs gh hm
  | .no => .no
def tsF {γh γ' τ ρ β : Type} (X : Cx) (c : C2 τ ρ β) (Gh : Addr → EnvT γh) (G' : EnvT γ') (q : Hd γh γ' τ) : TsA := fun a cls d D σ H => ∃ cc g0 dd, cls = .ref (He.ga X.K cc) ∧ d = some dd ∧ q.k cc = some true ∧ tS X.K (cT c c.M c.W g0) (wfd dd (Gh a)) G' (q.h cc) D σ H
inductive HdF {γh γ' τ ρ β : Type} (X : Cx) (c : C2 τ ρ β) (Gh : Addr → EnvT γh) (G' : EnvT γ') (n : Str) : List ExceptHandler → List (Hd γh γ' τ) → List (Value × TsA) → Prop
  | nil : HdF X c Gh G' n [] [] []
  | cons {x : Str} {cv : Value} {q : Hd γh γ' τ} {b₀ : Stmt} {su : List Stmt} {np hp : Pos} {hs : List ExceptHandler} {hm : List (Hd γh γ' τ)} {l : List (Value × TsA)} (hc : Names X x cv) (hx : ∀ cc b, q.k cc = some b → PySem.W.exmOne X.K (.ref (He.ga X.K cc)) cv = some b)
      (hh : ∀ a oe d cc pn g0, q.k cc = some true → Zc (.ref (He.ga X.K cc)) (some d) oe → (∃ vs, oe.data = .fields vs) → FSs (X.suite a ((a, oe) :: pn)) (cT c c.M c.W g0) (wfd d (Gh a)) (b₀ :: su) G' (q.h cc)) (r : HdF X c Gh G' n hs hm l) :
      HdF X c Gh G' n (.ExceptHandler (some (.Name x np)) (some n) (b₀ :: su) hp :: hs) (q :: hm) ((cv, tsF X c Gh G' q) :: l)
theorem HdF.hda {γh γ' τ ρ β : Type} {X : Cx} {c : C2 τ ρ β} {Gh : Addr → EnvT γh} {G' : EnvT γ'} {n : Str} {hs : List ExceptHandler} {hm : List (Hd γh γ' τ)} {l : List (Value × TsA)} (h : HdF X c Gh G' n hs hm l) : HdA X n hs l := by
  induction h with
  | nil => exact .nil
  | cons hc hx hh r ih =>
    exact .cons hc (fun p o cls d pn hz hv => ⟨fun pins s σ H D I ⟨cc, g0, dd, e1, e2, e3, q⟩ => by subst e1 e2; exact (hh p o dd cc pn g0 e3 hz hv).run pins s σ H D I q⟩) ih
section
variable {X : Cx} {τ ρ β γ γ' γf γh : Type} {c : C2 τ ρ β} {G : EnvT γ} {G' : EnvT γ'} {Gf : EnvT γf} {n : Str} {i : Nat} {body : List Stmt} {pos : Pos} {vs : List Nat} {h₀ : ExceptHandler} {hs : List ExceptHandler} {hm : List (Hd γh γ' τ)} {l : List (Value × TsA)}
theorem goF_none {cc : Str} {gh : γh} {D : Ends} {F F' H' : Hp} {σ σ' : St} {k : γ' → Xc τ} {Gh : Addr → EnvT γh} (hf : HdF X c Gh G' n hs hm l) (w' : Ws c.toC0 F F' H') (a' : Ag c.M σ σ') (d : Done X.K c D F σ (joinM (goF cc [] gh hm) k)) :
    ∀ F2 H2, Wd F' H' F2 H2 → wAss X.K i c.W D l (.ref (He.ga X.K cc)) none σ' H2 := by
  intro F2 H2 w2
  induction hf with
  | nil => exact (show Done X.K c D F σ (.er cc []) from d) σ' F' H' w' a' F2 H2 w2
  | @cons x cv q b₀ su np hp hs hm l hc hx hh r ih =>
    simp only [goF] at d
    cases e2 : q.k cc with
    | none => simp only [e2] at d; exact d.elim
    | some b =>
      cases b with
      | false =>
        simp only [e2] at d
        exact ⟨false, hx cc _ e2, (fun z => absurd z Bool.false_ne_true), fun _ => ih d⟩
      | true =>
        simp only [e2, List.isEmpty_nil, if_true] at d
        exact d.elim
theorem goF_some {cc f : Str} {v : V} {fs : List (Str × V)} {g : γ} {hp : γf → γh} {hf0 : γ → γf} {D : Ends} {F H F' H' : Hp} {σ σ' : St} {k : γ' → Xc τ} {Gh : Addr → EnvT γh} [FG : Fgt G vs Gf hf0] [FZ : Frz Gf] [PX : ∀ a, PutX Gf i (.ref a) (Gh a) hp] [WJ : Wi1 G' i G' fun g => g] [WB : Wi1 c.GB i c.GB fun g => g]
    (hf : HdF X c Gh G' n hs hm l) (q : G.rel X.K c.H0 F H σ g) (w' : Ws c.toC0 F F' H') (a0 : Ag (mOf vs) σ σ') (a' : Ag c.M σ σ') (hiM : c.M i = true) (d : Done X.K c D F σ (joinM (goF cc ((f, v) :: fs) (hp (hf0 g)) hm) k))
    (nn : ∀ g' σ' F' H', Ws c.toC0 F F' H' → Ag c.M σ σ' → G'.rel X.K c.H0 F' H' σ' g' → Done X.K c D F' σ' (k g') → D.nx σ' H') :
    ∀ F2 H2 d2, Wd F' H' F2 H2 → H2 d2 = none → wAss X.K i c.W D l (.ref (He.ga X.K cc)) (some d2) σ' (upd H2 d2 (.xd ((f, v) :: fs))) := by
  intro F2 H2 d2 w2 hd2
  induction hf with
  | nil => exact (show Done X.K c D F σ (.er cc ((f, v) :: fs)) from d) σ' F' H' w' a' F2 H2 d2 w2 hd2
  | @cons x cv qh b₀ su np hp2 hs hm l hc hx hh r ih =>
    simp only [goF] at d
    cases e2 : qh.k cc with
    | none => simp only [e2] at d; exact d.elim
    | some b =>
      cases b with
      | false =>
        simp only [e2] at d
        exact ⟨false, hx cc _ e2, (fun z => absurd z Bool.false_ne_true), fun _ => ih d⟩
      | true =>
        simp only [e2, List.isEmpty_cons, if_neg Bool.false_ne_true] at d
        refine ⟨true, hx cc _ e2, fun _ a ha => ?_, fun z => absurd z.symm Bool.false_ne_true⟩
        have wn : Wd F2 H2 (upd F2 d2 (.xd ((f, v) :: fs))) (upd H2 d2 (.xd ((f, v) :: fs))) := Wd.new w2.s hd2
        have wa := w2.trans wn
        generalize hF3 : upd F2 d2 (.xd ((f, v) :: fs)) = F3 at wa
        generalize hH3 : upd H2 d2 (.xd ((f, v) :: fs)) = H3 at wa ha ⊢
        have fd : F3 d2 = some (.xd ((f, v) :: fs)) := by rw [← hF3, upd_same]
        have q1 : Gf.rel X.K c.H0 F3 H3 σ' (hf0 g) := by
          rw [ag_setAll a0]
          exact FZ.fz (FG.fg _ q) (w'.f.trans wa.f)
        have q2 := (PX a).put q1
        have sF : Same F F3 := w'.f.trans wa.f
        have wd : Wd c.F0 c.H0 F3 H3 := w'.w.trans wa
        have ag2 : ∀ σ3, Ag c.M (σ'.set i (some (.ref a))) σ3 → Ag c.M σ (σ3.set i none) := fun σ3 a3 => ((a'.trans (Ag.set hiM)).trans a3).trans (Ag.set hiM)
        have ag3 : ∀ σ3, Ag c.M (σ'.set i (some (.ref a))) σ3 → Ag c.M σ σ3 := fun σ3 a3 => (a'.trans (Ag.set hiM)).trans a3
        cases e3 : qh.h cc ((f, v) :: fs, hp (hf0 g)) fun g' => Xc.ok (.inl g') with
        | no => simp only [e3, joinM, bind_no] at d; exact d.elim
        | er cc2 fs2 =>
          simp only [e3, joinM, bind_er] at d
          refine ⟨cc, none, d2, rfl, rfl, e2, F3, ((f, v) :: fs, hp (hf0 g)), fun g' => Xc.ok (.inl g'), wd, ⟨fd, q2⟩, ?_, fun g' σ3 F4 H4 w3 a3 q3 d3 => ?_⟩
          · rw [e3]
            exact fun σ3 F4 H4 w3 a3 => d σ3 F4 H4 ⟨sF.trans w3.f, w3.w⟩ (ag3 σ3 a3)
          · have d3 : some g' = none := d3
            cases d3
        | ok t =>
          cases t with
          | inl g1 =>
            simp only [e3, joinM, bind_ok] at d
            refine ⟨cc, some g1, d2, rfl, rfl, e2, F3, ((f, v) :: fs, hp (hf0 g)), fun g' => Xc.ok (.inl g'), wd, ⟨fd, q2⟩, by rw [e3]; exact (rfl : some g1 = some g1), fun g' σ3 F4 H4 w3 a3 q3 d3 => ?_⟩
            have d3 : some g' = some g1 := d3
            cases d3
            exact nn g1 (σ3.set i none) F4 H4 ⟨sF.trans w3.f, w3.w⟩ (ag2 σ3 a3) (WJ.wi none q3) (d.on (sF.trans w3.f) (ag2 σ3 a3))
          | inr t =>
            simp only [e3, joinM, bind_ok] at d
            refine ⟨cc, none, d2, rfl, rfl, e2, F3, ((f, v) :: fs, hp (hf0 g)), fun g' => Xc.ok (.inl g'), wd, ⟨fd, q2⟩, ?_, fun g' σ3 F4 H4 w3 a3 q3 d3 => ?_⟩
            · rw [e3]
              have d : c.O.sem t _ _ _ := d
              refine c.O.mono (fun r p v F3 H3 w3 rr => p v F3 H3 ⟨sF.trans w3.f, w3.w⟩ rr) (fun b p σ3 F3 H3 w3 a3 r3 => p (σ3.set i none) F3 H3 ⟨sF.trans w3.f, w3.w⟩ (ag2 σ3 a3) (WB.wi none r3)) (fun b p σ3 F3 H3 w3 a3 r3 => p (σ3.set i none) F3 H3 ⟨sF.trans w3.f, w3.w⟩ (ag2 σ3 a3) (WB.wi none r3)) d
            · have d3 : some g' = none := d3
              cases d3
theorem fs_tryF {Gh : Addr → EnvT γh} {hf : γ → γf} {hp : γf → γh} [FG : Fgt G vs Gf hf] [FZ : Frz Gf] [PX : ∀ a, PutX Gf i (.ref a) (Gh a) hp] {fb : γ → (γ' → Xc (Sum γ' τ)) → Xc (Sum γ' τ)}
    [WJ : Wi1 G' i G' fun g => g] [WB : Wi1 c.GB i c.GB fun g => g] (tk : Takes X c.W) (hN : X.N.Nodup)
    (hb : ∀ W pn xe g0, Takes (X.tr pn xe) W → PassesOwn (model X.prog X.w) X.A X.env xe → FSs (X.tr pn xe) (cT c (mOf vs) W g0) G body G' fb)
    (hh : HdF X c Gh G' n (h₀ :: hs) hm l)
    (hi : X.N[i]? = some n := by rfl) (hln : X.env.kindOf n = some .local := by rfl) (hvM : ∀ j ∈ vs, c.M j = true := by intro _ _; rfl) (hiM : c.M i = true := by rfl) (hst : X.stack = X.env :: X.outer := by rfl) (hfr : X.env.frame = some X.env.locals := by rfl) :
    FS X c G (.Try body (h₀ :: hs) [] [] pos) G' (fun g k => joinM (catF hm (fb g fun g' => Xc.ok (.inl g')) (hp (hf g))) k) :=
  PS.imp (ps_ass (tb := fun W D σ H => ∃ g0, tS X.K (cT c (mOf vs) W g0) G G' fb D σ H) hst hfr hN hi hln tk
    (fun W pn xe tk' po => ⟨fun pins s σ H D I ⟨g0, q⟩ => (hb W pn xe g0 tk' po).run pins s σ H D I q⟩) hh.hda) fun D σ H ⟨F, g, k, w, q, d, nn⟩ => by
    have agM : ∀ {σ σ' : St}, Ag (mOf vs) σ σ' → Ag c.M σ σ' := fun a => a.imp fun j hj => hvM j (by simpa [mOf] using hj)
    cases e1 : fb g fun g' => Xc.ok (.inl g') with
    | no => simp only [e1, joinM, catF] at d; exact d.elim
    | ok t =>
      cases t with
      | inl g1 =>
        simp only [e1, joinM, catF, bind_ok] at d
        refine ⟨some g1, F, g, fun g' => Xc.ok (.inl g'), w, q, by rw [e1]; exact (rfl : some g1 = some g1), fun g' σ' F' H' w' a' q' d' => ?_⟩
        have d' : some g' = some g1 := d'
        cases d'
        exact nn g1 σ' F' H' ⟨w'.f, w'.w⟩ (agM a') q' (d.on w'.f (agM a'))
      | inr t =>
        simp only [e1, joinM, catF, bind_ok] at d
        refine ⟨none, F, g, fun g' => Xc.ok (.inl g'), w, q, ?_, fun g' σ' F' H' w' a' q' d' => ?_⟩
        · rw [e1]
          have d : c.O.sem t _ _ _ := d
          refine c.O.mono (fun r p v F' H' w' rr => p v F' H' ⟨w'.f, w'.w⟩ rr) (fun b p σ' F' H' w' a' => p σ' F' H' ⟨w'.f, w'.w⟩ (agM a')) (fun b p σ' F' H' w' a' => p σ' F' H' ⟨w'.f, w'.w⟩ (agM a')) d
        · have d' : some g' = none := d'
          cases d'
    | er cc fs =>
      simp only [e1, catF] at d
      refine ⟨none, F, g, fun g' => Xc.ok (.inl g'), w, q, ?_, fun g' σ' F' H' w' a' q' d' => ?_⟩
      · rw [e1]
        intro σ' F' H' w' a'
        cases fs with
        | nil => exact goF_none hh ⟨w'.f, w'.w⟩ (agM a') d
        | cons fv fs =>
          obtain ⟨f, v⟩ := fv
          exact goF_some (hp := hp) (hf0 := hf) (PX := PX) hh q ⟨w'.f, w'.w⟩ a' (agM a') hiM d nn
      · have d' : some g' = none := d'
        cases d'
end
/-! ### what a clause asks of its error -/
def fldS (fs : List (Str × V)) (f : Str) : Xc Str := match fs.lookup f with
  | some (.str s) => if s.length ≤ sizeLine then .ok s else .no
  | _ => .no
def fldI (fs : List (Str × V)) (f : Str) : Xc Int := match fs.lookup f with
  | some (.int s) => .ok s
  | _ => .no
section
variable {X : Cx} {c : C0} {γ : Type} {G : EnvT γ} {a D d : Addr} {oe : Obj} {pn : List (Addr × Obj)} {n x f : Str} {pos p p1 p2 : Pos}
theorem pe_efld (i : Nat) [A : AtX G i (.ref a)] (T : XfC X.K D) (hno : PySem.W.findIn X.K (.ref D) f = some none) (hz : Zc (.ref D) (some d) oe) (hf : ∃ vs, oe.data = .fields vs)
    (hN : X.N[i]? = some n := by rfl) (hv : Vis X.env.scope n := by first | exact Or.inl rfl | exact Or.inr (Or.inl rfl) | exact Or.inr (Or.inr rfl)) (hd : (n == ("__debug__" : Str)) = false := by decide) (hcd : (n == ("__classdict__" : Str)) = false := by decide)
    (hb : attributeBase (.Name n p1) f X.env (eval (.Name n p1) X.env) = eval (.Name n p1) X.env := by rfl) :
    PE (X.suite a ((a, oe) :: pn)) (.Attribute (.Name n p1) f pos) (fun σ H Q => ∃ F g v, Wd c.F0 c.H0 F H ∧ (wfd d G).rel X.K c.H0 F H σ g ∧ g.1.lookup f = some v ∧ Q v H) :=
  PE.imp (pe_xf T hno hz hf (pe_var hN hv hd hcd) hb) fun σ H Q ⟨F, g, v, w, q, hl, h⟩ => ⟨.ref a, A.get q.2, rfl, rfl, d, g.1, v, rfl, w.s _ _ q.1, hl, h⟩
theorem fe_efldS (i : Nat) [A : AtX G i (.ref a)] (T : XfC X.K D) (hno : PySem.W.findIn X.K (.ref D) f = some none) (hz : Zc (.ref D) (some d) oe) (hf : ∃ vs, oe.data = .fields vs)
    (hN : X.N[i]? = some n := by rfl) (hv : Vis X.env.scope n := by first | exact Or.inl rfl | exact Or.inr (Or.inl rfl) | exact Or.inr (Or.inr rfl)) (hd : (n == ("__debug__" : Str)) = false := by decide) (hcd : (n == ("__classdict__" : Str)) = false := by decide)
    (hb : attributeBase (.Name n p1) f X.env (eval (.Name n p1) X.env) = eval (.Name n p1) X.env := by rfl) :
    FE (X.suite a ((a, oe) :: pn)) c (wfd d G) (.Attribute (.Name n p1) f pos) (fun g => fldS g.1 f) :=
  PE.imp (pe_efld (c := c) (G := G) i T hno hz hf hN hv hd hcd hb) fun σ H Q ⟨F, g, w, q, h⟩ => by
    have h : Po X.K F H Q (WE c.W σ) (fldS g.1 f) := h
    unfold fldS at h
    cases e : g.1.lookup f with
    | none => rw [e] at h; exact h.elim
    | some v =>
      rw [e] at h
      cases v with
      | str s =>
        simp only at h
        by_cases hl : s.length ≤ sizeLine
        · rw [if_pos hl] at h
          exact ⟨F, g, .str s, w, q, e, h.ret w.s ⟨rfl, hl⟩⟩
        · rw [if_neg hl] at h; exact h.elim
      | _ => exact h.elim
theorem fe_efldI (i : Nat) [A : AtX G i (.ref a)] (T : XfC X.K D) (hno : PySem.W.findIn X.K (.ref D) f = some none) (hz : Zc (.ref D) (some d) oe) (hf : ∃ vs, oe.data = .fields vs)
    (hN : X.N[i]? = some n := by rfl) (hv : Vis X.env.scope n := by first | exact Or.inl rfl | exact Or.inr (Or.inl rfl) | exact Or.inr (Or.inr rfl)) (hd : (n == ("__debug__" : Str)) = false := by decide) (hcd : (n == ("__classdict__" : Str)) = false := by decide)
    (hb : attributeBase (.Name n p1) f X.env (eval (.Name n p1) X.env) = eval (.Name n p1) X.env := by rfl) :
    FE (X.suite a ((a, oe) :: pn)) c (wfd d G) (.Attribute (.Name n p1) f pos) (fun g => fldI g.1 f) :=
  PE.imp (pe_efld (c := c) (G := G) i T hno hz hf hN hv hd hcd hb) fun σ H Q ⟨F, g, w, q, h⟩ => by
    have h : Po X.K F H Q (WE c.W σ) (fldI g.1 f) := h
    unfold fldI at h
    cases e : g.1.lookup f with
    | none => rw [e] at h; exact h.elim
    | some v =>
      rw [e] at h
      cases v with
      | int s => exact ⟨F, g, .int s, w, q, e, h.ret w.s rfl⟩
      | _ => exact h.elim
theorem fe_isD (i : Nat) (b : Bool) {cv : Value} [A : AtX G i (.ref a)] (C : ExcC X.K D) (hz : Zc (.ref D) (some d) oe) (hf : ∃ vs, oe.data = .fields vs) (hk : PySem.W.kitOne X.K (.ref D) cv = some b) {u : V} (hu : ∀ z, RelV u z → z = cv)
    (ht : PE (X.suite a ((a, oe) :: pn)) (.Name x p2) (fun σ H Q => Q u H))
    (hm : X.mg "isinstance" = none) (hN : X.N[i]? = some n := by rfl) (hv : Vis X.env.scope n := by first | exact Or.inl rfl | exact Or.inr (Or.inl rfl) | exact Or.inr (Or.inr rfl)) (hd : (n == ("__debug__" : Str)) = false := by decide) (hcd : (n == ("__classdict__" : Str)) = false := by decide)
    (hg : Gl X "isinstance" := by rfl)
    (hs : starEach [.Name n p1, .Name x p2] X.env = (false, eval (.Name n p1) X.env) :: starEach [.Name x p2] X.env := by rfl) (hs2 : starEach [.Name x p2] X.env = (false, eval (.Name x p2) X.env) :: starEach [] X.env := by rfl)
    (hpl : (backTo pos (starEach [.Name x p2] X.env)).any (·.1) = false := by rfl) : FE (X.suite a ((a, oe) :: pn)) c (wfd d G) (.Call (.Name "isinstance" p) [.Name n p1, .Name x p2] [] pos) (fun _ => Xc.ok b) :=
  PE.imp (pe_callB (call_isD (X := X) C hz hf) hg hm PyProof.Rows.boot_isinstance (pa_cons (pe_var hN hv hd hcd) (pa_cons ht pa_nil hs2) hs) (he := hs) (hpl := hpl)) fun σ H Q ⟨F, g, w, q, h⟩ =>
    ⟨.ref a, A.get q.2, u, cv, b, g.1, rfl, hu, hk, w.s _ _ q.1, h.ret w.s rfl⟩
end
end FL

/-! FY1: either of two kinds; data as what it is; sequences, lists or tuples. -/
namespace FL
open PySem L2
/-! ### either of two -/
instance instRpSum {α β : Type} [Rp α] [Rp β] : Rp (α ⊕ β) := ⟨fun K F v s => match s with
  | .inl a => Rp.is K F v a
  | .inr b => Rp.is K F v b, fun {K F F' v a} s h => by cases a with
  | inl a => exact Rp.mono s h
  | inr a => exact Rp.mono s h⟩
@[irreducible] def unL {α β : Type} (s : α ⊕ β) : Xc α := match s with
  | .inl a => .ok a
  | .inr _ => .no
@[irreducible] def unR {α β : Type} (s : α ⊕ β) : Xc β := match s with
  | .inl _ => .no
  | .inr b => .ok b
theorem unL_inl {α β : Type} (a : α) : unL (.inl a : α ⊕ β) = .ok a := by unfold unL; rfl
theorem unR_inr {α β : Type} (b : β) : unR (.inr b : α ⊕ β) = .ok b := by unfold unR; rfl
section
variable {X : Cx} {c : C0} {γ α β : Type} {G : EnvT γ} [Rp α] [Rp β] {e : Expr}
theorem fe_inl {fa : γ → Xc α} (ha : FE X c G e fa) : FE X c G e (fun g => (fa g).bind fun a => Xc.ok (Sum.inl a : α ⊕ β)) :=
  fe_from (φ := fun a => Xc.ok (Sum.inl a : α ⊕ β)) (fun {K F v a b} h r => by cases h; exact r) (fun a c fs h => by cases h) ha
theorem fe_inr {fa : γ → Xc β} (ha : FE X c G e fa) : FE X c G e (fun g => (fa g).bind fun a => Xc.ok (Sum.inr a : α ⊕ β)) :=
  fe_from (φ := fun a => Xc.ok (Sum.inr a : α ⊕ β)) (fun {K F v a b} h r => by cases h; exact r) (fun a c fs h => by cases h) ha
theorem fe_unL {fa : γ → Xc (α ⊕ β)} (ha : FE X c G e fa) : FE X c G e (fun g => (fa g).bind unL) :=
  fe_from (fun {K F v a b} h r => by unfold unL at h; cases a with
    | inl a => cases h; exact r
    | inr a => cases h) (fun a c fs h => by unfold unL at h; cases a <;> cases h) ha
theorem fe_unR {fa : γ → Xc (α ⊕ β)} (ha : FE X c G e fa) : FE X c G e (fun g => (fa g).bind unR) :=
  fe_from (fun {K F v a b} h r => by unfold unR at h; cases a with
    | inl a => cases h
    | inr a => cases h; exact r) (fun a c fs h => by unfold unR at h; cases a <;> cases h) ha
end
/-! ### data as what it is -/
class OfD (α : Type) [Rp α] where
  of : PyData → Option α
  is : ∀ {K F v d a}, of d = some a → Dp K F v d → SeqAt.shaped d = true → Rp.is K F v a
instance : OfD PyData := ⟨some, fun h r s => by cases h; exact ⟨r, s⟩⟩
instance : OfD Int := ⟨fun d => match d with
  | .int i => some i
  | _ => none, fun {K F v d a} h r s => by
    cases d <;> first | (cases h; done) | skip
    case int i => cases h; cases r; rfl⟩
instance : OfD Str := ⟨fun d => match d with
  | .str i => if i.length ≤ sizeLine then some i else none
  | _ => none, fun {K F v d a} h r s => by
    cases d <;> first | (cases h; done) | skip
    case str i =>
      by_cases z : i.length ≤ sizeLine
      · have h : (if i.length ≤ sizeLine then some i else none) = some a := h
        rw [if_pos z] at h
        cases h; cases r; exact ⟨rfl, z⟩
      · have h : (if i.length ≤ sizeLine then some i else none) = some a := h
        rw [if_neg z] at h; cases h⟩
def ofAll {α : Type} (f : PyData → Option α) : List PyData → Option (List α)
  | [] => some []
  | d :: r => match f d, ofAll f r with
    | some a, some l => some (a :: l)
    | _, _ => none
theorem ofAll_is {α : Type} [Rp α] [O : OfD α] {K : PySem.W.Frag} {F : Hp} : ∀ {ds : List PyData} {vs : List V} {l : List α}, DpAll K F vs ds → (∀ d ∈ ds, SeqAt.shaped d = true) → ofAll (OfD.of (α := α)) ds = some l → Al K F vs l
  | [], vs, l, h, _, e => by cases h; have e : some [] = some l := e; cases e; exact .nil
  | d :: ds, vs, l, h, s, e => by
    cases h with
    | cons h1 h2 =>
      unfold ofAll at e
      cases e1 : OfD.of (α := α) d with
      | none => rw [e1] at e; cases e
      | some a =>
        cases e2 : ofAll (OfD.of (α := α)) ds with
        | none => rw [e1, e2] at e; cases e
        | some r =>
          rw [e1, e2] at e
          cases e
          exact .cons (OfD.is e1 h1 (s d List.mem_cons_self)) (ofAll_is h2 (fun d hd => s d (List.mem_cons_of_mem _ hd)) e2)
theorem ofAll_len {α : Type} {f : PyData → Option α} : ∀ {ds : List PyData} {l : List α}, ofAll f ds = some l → l.length = ds.length
  | [], l, e => by have e : some [] = some l := e; cases e; rfl
  | d :: ds, l, e => by
    unfold ofAll at e
    cases e1 : f d with
    | none => rw [e1] at e; cases e
    | some a =>
      cases e2 : ofAll f ds with
      | none => rw [e1, e2] at e; cases e
      | some r => rw [e1, e2] at e; cases e; simp [ofAll_len e2]
instance {α : Type} [Rp α] [O : OfD α] : OfD (List α) := ⟨fun d => match d with
  | .list l => if l.length ≤ sizeLine ∧ l.all SeqAt.shaped = true then ofAll (OfD.of (α := α)) l else none
  | _ => none, fun {K F v d a} h r s => by
    cases d <;> first | (cases h; done) | skip
    case list l =>
      have h : (if l.length ≤ sizeLine ∧ l.all SeqAt.shaped = true then ofAll (OfD.of (α := α)) l else none) = some a := h
      by_cases z : l.length ≤ sizeLine ∧ l.all SeqAt.shaped = true
      · rw [if_pos z] at h
        cases r with
        | lst hq hr => exact ⟨_, _, rfl, hq, by rw [ofAll_len h]; exact z.1, ofAll_is hr (fun d hd => by have := z.2; rw [List.all_eq_true] at this; exact this d hd) h⟩
      · rw [if_neg z] at h; cases h⟩
instance {α : Type} [Rp α] [O : OfD α] : OfD (Tu α) := ⟨fun d => match d with
  | .tuple l => if l.length ≤ sizeLine ∧ l.all SeqAt.shaped = true then ofAll (OfD.of (α := α)) l else none
  | _ => none, fun {K F v d a} h r s => by
    cases d <;> first | (cases h; done) | skip
    case tuple l =>
      have h : (if l.length ≤ sizeLine ∧ l.all SeqAt.shaped = true then ofAll (OfD.of (α := α)) l else none) = some a := h
      by_cases z : l.length ≤ sizeLine ∧ l.all SeqAt.shaped = true
      · rw [if_pos z] at h
        cases r with
        | tup hq hr => exact ⟨_, _, rfl, hq, by rw [show Tu.l a = a from rfl, ofAll_len h]; exact z.1, ofAll_is hr (fun d hd => by have := z.2; rw [List.all_eq_true] at this; exact this d hd) h⟩
      · rw [if_neg z] at h; cases h⟩
@[irreducible] def asD (α : Type) [Rp α] [OfD α] (d : PyData) : Xc α := match OfD.of (α := α) d with
  | some a => .ok a
  | none => .no
theorem asD_ok {α : Type} [Rp α] [OfD α] {d : PyData} {a : α} (h : OfD.of d = some a) : asD α d = .ok a := by unfold asD; rw [h]
section
variable {X : Cx} {c : C0} {γ α β : Type} {G : EnvT γ} [Rp α] [Rp β] {e : Expr}
theorem fe_asD [O : OfD α] {fa : γ → Xc PyData} (ha : FE X c G e fa) : FE X c G e (fun g => (fa g).bind fun d => asD α d) :=
  fe_from (fun {K F v a b} h r => by
    unfold asD at h
    cases e1 : OfD.of (α := α) a with
    | none => rw [e1] at h; cases h
    | some x => rw [e1] at h; cases h; exact OfD.is e1 r.1 r.2) (fun a c fs h => by
    unfold asD at h
    cases e1 : OfD.of (α := α) a <;> rw [e1] at h <;> cases h) ha
end
/-! ### sequences -/
def Sq (α : Type) : Type := List α
def Sq.l {α : Type} (t : Sq α) : List α := t
def sq {α : Type} (l : List α) : Sq α := l
instance {α : Type} [Rp α] : Rp (Sq α) := ⟨fun K F v l => ∃ p xs, v = .ref p ∧ (SqL K F p xs ∨ SqT K F p xs) ∧ (Sq.l l).length ≤ sizeLine ∧ Al K F xs (Sq.l l), fun s ⟨p, xs, e, h, z, r⟩ => ⟨p, xs, e, h.imp (Same.seq s) (Same.seqT s), z, r.mono s⟩⟩
instance {α : Type} [Rp α] : HasLen (Sq α) := ⟨fun t => t.l.length, fun {K F H v a} s h => by
  obtain ⟨q, xs, e, hq, z, r⟩ := h
  subst e
  rcases hq with hq | hq
  · exact .inl ⟨xs, Same.seq s hq, r.len.symm⟩
  · exact .inr ⟨xs, Same.seqT s hq, r.len.symm⟩⟩
instance {α : Type} [Rp α] : NotNone (Sq α) := ⟨fun ⟨p, xs, h, _⟩ => by subst h; intro z; cases z⟩
theorem rp_lq {α : Type} [Rp α] {K : PySem.W.Frag} {F : Hp} {v : V} {l : List α} (h : Rp.is K F v l) : Rp.is K F v (sq l) := by
  obtain ⟨p, xs, e, h, z, r⟩ := h
  exact ⟨p, xs, e, .inl h, z, r⟩
theorem rp_uq {α : Type} [Rp α] {K : PySem.W.Frag} {F : Hp} {v : V} {l : Tu α} (h : Rp.is K F v l) : Rp.is K F v (sq l.l) := by
  obtain ⟨p, xs, e, h, z, r⟩ := h
  exact ⟨p, xs, e, .inr h, z, r⟩
instance subLq {α γ γ' : Type} [Rp α] {G : EnvT γ} {G' : EnvT γ'} {h : γ → γ'} [S : Sub G G' h] : Sub (va (List α) G) (va (Sq α) G') (fun g => (sq g.1, h g.2)) := ⟨fun ⟨v, σ', e, r, q⟩ => ⟨v, σ', e, rp_lq r, S.sub q⟩, fun ⟨v, σ', e, r, q⟩ m => by subst e; exact S.own q m⟩
instance subUq {α γ γ' : Type} [Rp α] {G : EnvT γ} {G' : EnvT γ'} {h : γ → γ'} [S : Sub G G' h] : Sub (va (Tu α) G) (va (Sq α) G') (fun g => (sq (Tu.l g.1), h g.2)) := ⟨fun ⟨v, σ', e, r, q⟩ => ⟨v, σ', e, rp_uq r, S.sub q⟩, fun ⟨v, σ', e, r, q⟩ m => by subst e; exact S.own q m⟩
section
variable {X : Cx} {c : C0} {γ α β : Type} {G : EnvT γ} [Rp α] [Rp β] {e a tg : Expr} {pos p : Pos}
theorem fe_lq {fa : γ → Xc (List α)} (ha : FE X c G e fa) : FE X c G e (fun g => (fa g).bind fun l => Xc.ok (sq l)) :=
  fe_from (φ := fun l => Xc.ok (sq l)) (fun {K F v a b} h r => by cases h; exact rp_lq r) (fun a c fs h => by cases h) ha
theorem fe_uq {fa : γ → Xc (Tu α)} (ha : FE X c G e fa) : FE X c G e (fun g => (fa g).bind fun l => Xc.ok (sq (Tu.l l))) :=
  fe_from (φ := fun l => Xc.ok (sq (Tu.l l))) (fun {K F v a b} h r => by cases h; exact rp_uq r) (fun a c fs h => by cases h) ha
/-- data that is a list or a tuple -/
@[irreducible] def asSq (d : PyData) : Xc (Sq PyData) := match d with
  | .tuple l => if l.length ≤ sizeLine ∧ l.all SeqAt.shaped = true then .ok (sq l) else .no
  | .list l => if l.length ≤ sizeLine ∧ l.all SeqAt.shaped = true then .ok (sq l) else .no
  | _ => .no
theorem fe_asSq {fa : γ → Xc PyData} (ha : FE X c G e fa) : FE X c G e (fun g => (fa g).bind asSq) :=
  fe_from (fun {K F v a b} h r => by
    unfold asSq at h
    split at h
    · rename_i l
      by_cases z : l.length ≤ sizeLine ∧ l.all SeqAt.shaped = true
      · rw [if_pos z] at h
        cases h
        obtain ⟨r, _⟩ := r
        cases r with
        | tup hq hr => exact ⟨_, _, rfl, .inr hq, z.1, dp_al hr z.2⟩
      · rw [if_neg z] at h; cases h
    · rename_i l
      by_cases z : l.length ≤ sizeLine ∧ l.all SeqAt.shaped = true
      · rw [if_pos z] at h
        cases h
        obtain ⟨r, _⟩ := r
        cases r with
        | lst hq hr => exact ⟨_, _, rfl, .inl hq, z.1, dp_al hr z.2⟩
      · rw [if_neg z] at h; cases h
    · cases h) (fun a c fs h => by
    unfold asSq at h
    split at h
    · split at h <;> cases h
    · split at h <;> cases h
    · cases h) ha
def iSq (K : PySem.W.Frag) (tl : TE) : TI := fun σ H R => tl σ H fun x H1 => ∃ a, x = .ref a ∧ ((∃ xs, SqL K H1 a xs ∧ R (Itl K a) H1) ∨ ∃ xs, SqT K H1 a xs ∧ R (Itt K a) H1)
theorem pi_sq {tl : TE} (hl : PE X e tl) : PI X tg e (iSq X.K tl) := by
  refine ⟨fun pins s σ H R I h => ?_⟩
  refine thn (hl.run pins s σ H _ I h) fun v sA ⟨x, H1, IA, r1, b, e, q1⟩ => ?_
  subst e
  cases r1
  rcases q1 with ⟨xs, hq, q⟩ | ⟨xs, hq, q⟩
  · obtain ⟨its, rv, pl, hz⟩ := IA.list hq
    refine wpAny_pyIter_list pl.isList ?_
    refine ⟨sA.heap.objs.size, [sA.heap.objs.size], _, _, H1, rfl, IA.kept (t' := sA.toks) fun b o e => Heap.get?_push_of_some _ e, turn_list b _, ⟨_, Heap.get?_push_size _ rfl, rfl, rfl⟩, fun d hd => ?_, q⟩
    have e : d = sA.heap.objs.size := by simpa using hd
    subst e
    exact IA.fpOk (Nat.le_refl _) (IA.hok.fresh (Nat.le_refl _))
  · obtain ⟨its, rv, pl, hz⟩ := IA.tuple hq
    refine wpAny_pyIter_tuple (show sA.heap.IsTuple b its.toArray from pl) ?_
    refine ⟨sA.heap.objs.size, [sA.heap.objs.size], _, _, H1, rfl, IA.kept (t' := sA.toks) fun b o e => Heap.get?_push_of_some _ e, turn_tuple b _, ⟨_, Heap.get?_push_size _ rfl, rfl, rfl⟩, fun d hd => ?_, q⟩
    have e : d = sA.heap.objs.size := by simpa using hd
    subst e
    exact IA.fpOk (Nat.le_refl _) (IA.hok.fresh (Nat.le_refl _))
theorem fi_sq {f : γ → Xc (Sq α)} (h : FE X c G e f) : FI X c G tg e (fun g => (f g).bind fun t => Xc.ok (Sq.l t)) :=
  PI.imp (pi_sq h) fun σ H R ⟨F, g, w, q, p⟩ => by
    refine ⟨F, g, w, q, ?_⟩
    cases e1 : f g with
    | ok l =>
      rintro v F1 H1 w1 ⟨b, xs, rfl, hx, hz, r⟩
      simp only [e1] at p
      rcases hx with hx | hx
      · refine ⟨b, rfl, .inl ⟨xs, Same.seq w1.s hx, p (Itl X.K b) F1 H1 w1 ⟨hz, fun F' H' s1 s2 => ⟨xs, Same.seq (s1.trans s2) hx, Nat.le_of_eq r.len⟩, fun i F' H' hi s1 s2 => ?_, fun i a F' H' x H'' e2 s1 s2 y => ?_⟩⟩⟩
        · obtain ⟨v, hv, _⟩ := r.get' (List.getElem?_eq_getElem hi)
          exact ⟨xs, v, Same.seq (s1.trans s2) hx, hv⟩
        · obtain ⟨rfl, y⟩ := y
          obtain ⟨v, hv, rv⟩ := r.get' e2
          have := y xs (Same.seq (s1.trans s2) hx)
          rw [hv] at this
          cases this
          exact ⟨F', Wd.refl s2, Rp.mono s1 rv⟩
      · refine ⟨b, rfl, .inr ⟨xs, Same.seqT w1.s hx, p (Itt X.K b) F1 H1 w1 ⟨hz, fun F' H' s1 s2 => ⟨xs, Same.seqT (s1.trans s2) hx, Nat.le_of_eq r.len⟩, fun i F' H' hi s1 s2 => ?_, fun i a F' H' x H'' e2 s1 s2 y => ?_⟩⟩⟩
        · obtain ⟨v, hv, _⟩ := r.get' (List.getElem?_eq_getElem hi)
          exact ⟨xs, v, Same.seqT (s1.trans s2) hx, hv⟩
        · obtain ⟨rfl, y⟩ := y
          obtain ⟨v, hv, rv⟩ := r.get' e2
          have := y xs (Same.seqT (s1.trans s2) hx)
          rw [hv] at this
          cases this
          exact ⟨F', Wd.refl s2, Rp.mono s1 rv⟩
    | er c' fs => simp only [e1] at p; exact p
    | no => simp only [e1] at p; exact p
theorem fe_tupQ {fa : γ → Xc (Sq α)} (ha : FE X c G a fa) (hm : X.mg "tuple" = none) (hg : Gl X "tuple" := by rfl) (hs : starEach [a] X.env = (false, eval a X.env) :: starEach [] X.env := by rfl) :
    FE X c G (.Call (.Name "tuple" p) [a] [] pos) (fun g => (fa g).bind fun l => Xc.ok (tu (Sq.l l))) :=
  PE.imp (pe_callTy call_tuple_of hg hm (by decide +kernel) (pa_cons ha pa_nil hs) (he := hs)) fun σ H Q ⟨F, g, w, q, h⟩ => by
    refine ⟨F, g, w, q, ?_⟩
    cases e1 : fa g with
    | ok l =>
      simp only [e1] at h
      rintro v F1 H1 w1 ⟨b, xs, rfl, hx, hz, r⟩
      rcases hx with hx | hx
      · refine ⟨b, xs, rfl, .inl ⟨Same.seq w1.s hx, fun t ht => ?_⟩⟩
        have w2 := Wd.new (o := .tup xs) w1.s ht
        exact h (.ref t) _ _ (w1.trans w2) ⟨t, xs, rfl, SqT.of upd_same, hz, r.mono w2.f⟩
      · exact ⟨b, xs, rfl, .inr ⟨Same.seqT w1.s hx, h (.ref b) F1 H1 w1 ⟨b, xs, rfl, hx, hz, r⟩⟩⟩
    | er c' fs => simp only [e1] at h; exact h
    | no => simp only [e1] at h; exact h
end
end FL

/-! FY2: pop, in a tuple of texts, four names, isinstance of either. -/
namespace FL
open PySem L2
section
variable {X : Cx} {c : C1} {γ γ' : Type} {G : EnvT γ} {e k : Expr} {pos p1 p2 : Pos} {x : Str}
@[irreducible] def popX {α : Type} (l : List α) (i : Int) : Xc (List α) := if 0 ≤ i ∧ i < l.length then .ok (l.eraseIdx i.toNat) else .no
theorem al_erase {α : Type} [Rp α] {K : PySem.W.Frag} {F : Hp} : ∀ {xs : List V} {l : List α} (k : Nat), Al K F xs l → Al K F (xs.eraseIdx k) (l.eraseIdx k)
  | _, _, _, .nil => by simpa using .nil
  | _, _, 0, .cons r al => by simpa using al
  | _, _, k + 1, .cons r al => by simpa using .cons r (al_erase k al)
/-- x.pop(k) -/
theorem fn_pop (i : Nat) {τ : Type} {r : Rp τ} {π : γ → List τ} {put : γ → List τ → γ} [A : AtO G i τ r π put] {fk : γ → Xc Int} {apos cpos : Pos} (hk : FE X c.toC0 G k fk) (hN : X.N[i]? = some x := by rfl) (hv : Vis X.env.scope x := by first | exact Or.inl rfl | exact Or.inr (Or.inl rfl) | exact Or.inr (Or.inr rfl))
    (hd : (x == ("__debug__" : Str)) = false := by decide) (hcd : (x == ("__classdict__" : Str)) = false := by decide) (hbase : attributeBase (.Name x p1) "pop" X.env (eval (.Name x p1) X.env) = eval (.Name x p1) X.env := by rfl)
    (hfew : ((backTo cpos (starEach [k] X.env)).all (fun x => !x.1) && (backToKw cpos (keywordEach [] X.env)).all (fun x => x.1.isSome) && decide ([k].length + ([] : List Keyword).length + (if ([] : List Keyword).isEmpty then 0 else 1) < 30)) = true := by rfl)
    (hline : (apos.endLine == cpos.line) = true := by rfl) (hs : starEach [k] X.env = (false, eval k X.env) :: starEach [] X.env := by rfl) (hplain : (backTo cpos (starEach [] X.env)).any (·.1) = false := by rfl)
    (hsw : swapsWith (.Call (.Attribute (.Name x p1) "pop" apos) [k] [] cpos) none pos.line X.env = pure false := by rfl) :
    FN X c G (.Expr (.Call (.Attribute (.Name x p1) "pop" apos) [k] [] cpos) pos) G (fun g => (fk g).bind fun j => (popX (π g) j).bind fun l => Xc.ok (put g l)) :=
  PS.imp (ps_expr (pe_bm PySem.F.plainAttrs_list PySem.F.slot_list_pop PySem.F.type_list_pop mt_popAt (pe_var hN hv hd hcd) (pa_cons hk pa_nil hs) hbase hfew hline hs hplain) hsw) fun D σ H ⟨F, g, w, q, h⟩ => by
    obtain ⟨p, xs, e1, m, hp, z, al⟩ := A.get q
    refine ⟨.ref p, e1, .inl ⟨rfl, _, SqL.of hp⟩, F, g, w, q, ?_⟩
    cases e3 : fk g with
    | ok j =>
      intro jv F1 H1 w1 rj
      simp only [e3] at h
      have h : PoN X.K c G D F H σ ((popX (π g) j).bind fun l => Xc.ok (put g l)) := h
      unfold popX at h
      by_cases hz : 0 ≤ j ∧ j < (π g).length
      · rw [if_pos hz] at h
        have rj : jv = .int j := rj
        have hlen : (π g).length ≤ sizeLine := z
        have hj : j.toNat < xs.length := by rw [al.len]; omega
        refine ⟨p, xs, j, j.toNat, xs[j.toNat], rfl, by rw [rj], w1.h _ _ hp, by omega, by rw [sizeLine_eq] at hlen; omega, ?_, List.getElem?_eq_getElem hj, ?_⟩
        · unfold seqIndex?
          have h1 : ¬ j < 0 := by omega
          simp only [if_neg h1]
          have h2 : j < (xs.length : Int) := by rw [al.len]; exact hz.2
          rw [if_pos (by simp [hz.1, h2])]
        · obtain ⟨h0, hf, _⟩ := G.al q m
          have q1 := G.mono q w1
          obtain ⟨_, hf1, _⟩ := G.al q1 m
          refine h σ F1 _ ⟨w1.f, (w.trans w1).mutd h0 hf1⟩ Ag.refl ?_
          have al2 := al.mono w1.f
          exact A.set q1 e1 (by have := List.length_eraseIdx_le (π g) j.toNat; omega) (al_erase _ al2)
      · rw [if_neg hz] at h; exact h.elim
    | er c' fs => simp only [e3] at h; exact PoN.er h w
    | no => simp only [e3] at h; exact h
end
/-! ### a tuple of texts of the module -/
def strsV : List Value → List Str → Bool
  | [], [] => true
  | .str s _ :: r, t :: l => decide (s = t) && strsV r l
  | _, _ => false
theorem strsV_ok : ∀ {us : List Value} {l : List Str}, strsV us l = true → Vals (l.map V.str) us
  | [], [], _ => .nil
  | [], _ :: _, h => by cases h
  | u :: us, [], h => by cases u <;> cases h
  | u :: us, t :: l, h => by
    cases u <;> first | (cases h; done) | skip
    case str s tk =>
      have h : (decide (s = t) && strsV us l) = true := h
      rw [Bool.and_eq_true, decide_eq_true_eq] at h
      exact .cons ⟨tk, by rw [h.1]⟩ (strsV_ok h.2)
def tupSB (K : PySem.W.Frag) (a : Addr) (l : List Str) : Bool := match K.lookup a with
  | some ⟨.type "tuple", _, .seq its _, _⟩ => decide (its.size ≤ sizeLine) && strsV its.toList l
  | _ => false
theorem tupSB_ok {K : PySem.W.Frag} {a : Addr} {l : List Str} (h : tupSB K a l = true) (F : Hp) : SqT K F a (l.map V.str) := by
  unfold tupSB at h
  split at h
  · rename_i its n sl e
    rw [Bool.and_eq_true, decide_eq_true_eq] at h
    exact .inr ⟨_, its, n, e, rfl, rfl, h.1, strsV_ok h.2⟩
  · cases h
theorem al_strs {K : PySem.W.Frag} {F : Hp} : ∀ {l : List Str}, (∀ s ∈ l, s.length ≤ sizeLine) → Al K F (l.map V.str) l
  | [], _ => .nil
  | s :: l, h => .cons ⟨rfl, h s List.mem_cons_self⟩ (al_strs fun t ht => h t (List.mem_cons_of_mem _ ht))
theorem al_strs_eq {K : PySem.W.Frag} {F : Hp} : ∀ {xs : List V} {l : List Str}, Al K F xs l → xs = l.map V.str
  | _, _, .nil => rfl
  | _, _, .cons r al => by rw [r.1, al_strs_eq al]; rfl
section
variable {X : Cx} {c : C0} {γ : Type} {G : EnvT γ} {a b : Expr} {pos p : Pos} {x : Str}
theorem fe_gtupS {l : List Str} (hm : X.mg x = some (.ref (He.ga X.K x))) (ht : tupSB X.K (He.ga X.K x) l = true) (hz : (l.all fun s => decide (s.length ≤ sizeLine)) = true ∧ l.length ≤ sizeLine := by decide +kernel) (hg : Gl X x := by rfl) (hd : (x == ("__debug__" : Str)) = false := by decide) :
    FE X c G (.Name x p) (fun _ => Xc.ok (tu l)) :=
  PE.imp (pe_glob (v := .ref (He.ga X.K x)) hg hm rfl hd) fun σ H Q ⟨F, g, w, q, h⟩ => h.ret w.s ⟨_, _, rfl, tupSB_ok ht F, hz.2, al_strs (fun s hs => by have := hz.1; rw [List.all_eq_true] at this; simpa using this s hs)⟩
theorem inV_strs {s : Str} : ∀ {l : List Str}, inV (.str s) (l.map V.str) = decide (s ∈ l)
  | [] => by simp [inV]
  | t :: l => by
    have e : inV (.str s) ((t :: l).map V.str) = (eqV (.str t) (.str s) || inV (.str s) (l.map V.str)) := by simp [inV]
    rw [e, inV_strs]
    have e2 : eqV (.str t) (.str s) = decide (s = t) := by
      show decide (t = s) = _
      exact decide_eq_decide.mpr eq_comm
    rw [e2]
    simp [List.mem_cons, Bool.decide_or]
theorem flat_strs : ∀ {l : List Str}, (l.map V.str).all flatV = true
  | [] => rfl
  | t :: l => by rw [List.map_cons, List.all_cons, flat_strs]; rfl
theorem fe_inU {fa : γ → Xc Str} {fb : γ → Xc (Tu Str)} (ha : FE X c G a fa) (hb : FE X c G b fb) (hm : behindInMarks .In b = false := by rfl) : FE X c G (.Compare a [.In] [b] pos) (fun g => (fa g).bind fun i => (fb g).bind fun j => Xc.ok (decide (i ∈ Tu.l j))) :=
  two (fun h1 h2 => pe_cmpR op_in_seq h1 h2 hm) ha hb fun {F H x y i j Q E} s r1 r2 p => by
    obtain ⟨q, xs, e, hq, z, al⟩ := r2
    subst e
    have r1 := r1.1
    subst r1
    have e2 := al_strs_eq al
    subst e2
    exact ⟨q, _, rfl, .inr (Same.seqT s hq), rfl, flat_strs, by rw [inV_strs]; exact p.ret s rfl⟩
theorem fe_ninU {fa : γ → Xc Str} {fb : γ → Xc (Tu Str)} (ha : FE X c G a fa) (hb : FE X c G b fb) (hm : behindInMarks .NotIn b = false := by rfl) : FE X c G (.Compare a [.NotIn] [b] pos) (fun g => (fa g).bind fun i => (fb g).bind fun j => Xc.ok (!decide (i ∈ Tu.l j))) :=
  two (fun h1 h2 => pe_cmpR op_notIn_seq h1 h2 hm) ha hb fun {F H x y i j Q E} s r1 r2 p => by
    obtain ⟨q, xs, e, hq, z, al⟩ := r2
    subst e
    have r1 := r1.1
    subst r1
    have e2 := al_strs_eq al
    subst e2
    exact ⟨q, _, rfl, .inr (Same.seqT s hq), rfl, flat_strs, by rw [inV_strs]; exact p.ret s rfl⟩
end
/-! ### four names -/
section
variable {X : Cx} {γ γ' γ1 γ2 γ3 α β δ ε : Type} {G : EnvT γ} {G' : EnvT γ'} {G1 : EnvT γ1} {G2 : EnvT γ2} {G3 : EnvT γ3} [Rp α] [Rp β] [Rp δ] [Rp ε] {pos p p1 p2 p3 p4 : Pos} {x y z u : Str} {M : Nat → Bool} {kk : Nat}
theorem fg_four (i j k l : Nat) {ψ1 : γ → α → γ1} {ψ2 : γ1 → β → γ2} {ψ3 : γ2 → δ → γ3} {ψ4 : γ3 → ε → γ'} [P1 : Put G i α G1 ψ1] [P2 : Put G1 j β G2 ψ2] [P3 : Put G2 k δ G3 ψ3] [P4 : Put G3 l ε G' ψ4] (hM : M i = true ∧ M j = true ∧ M k = true ∧ M l = true) (hN : X.N.Nodup) (hc : X.calm = true := by rfl)
    (hi : X.N[i]? = some x := by rfl) (hx : Loc X.env.scope x := by first | exact Or.inl rfl | exact Or.inr rfl) (hj : X.N[j]? = some y := by rfl) (hy : Loc X.env.scope y := by first | exact Or.inl rfl | exact Or.inr rfl) (hk : X.N[k]? = some z := by rfl) (hz : Loc X.env.scope z := by first | exact Or.inl rfl | exact Or.inr rfl) (hl : X.N[l]? = some u := by rfl) (hu : Loc X.env.scope u := by first | exact Or.inl rfl | exact Or.inr rfl)
    (hf : X.fn x = true ∨ X.env.scope.names.lookup x = some .local := by first | exact .inl rfl | exact .inr rfl) (hf2 : X.fn y = true ∨ X.env.scope.names.lookup y = some .local := by first | exact .inl rfl | exact .inr rfl) (hf3 : X.fn z = true ∨ X.env.scope.names.lookup z = some .local := by first | exact .inl rfl | exact .inr rfl) (hf4 : X.fn u = true ∨ X.env.scope.names.lookup u = some .local := by first | exact .inl rfl | exact .inr rfl) :
    FG X M G (.Tuple [.Name x p1, .Name y p2, .Name z p3, .Name u p4] kk p) G' [i, j, k, l] (fun g (a : T4 α β δ ε) => ψ4 (ψ3 (ψ2 (ψ1 g a.a) a.b) a.c) a.d) :=
  ⟨_, pg_tup (n := 4) hc (pgs_cons (pg_name hN hi hx hf) (pgs_cons (pg_name hN hj hy hf2) (pgs_cons (pg_name hN hk hz hf3) (pgs_cons (pg_name hN hl hu hf4) pgs_nil)))), fun H0 F H σ g v a Q s q r kk => by
    obtain ⟨b, u1, u2, u3, u4, rfl, h, r1, r2, r3, r4⟩ := r
    refine ⟨b, [u1, u2, u3, u4], rfl, Same.seqT s h, rfl, u1, [u2, u3, u4], rfl, u2, [u3, u4], rfl, u3, [u4], rfl, u4, [], rfl, rfl, ?_⟩
    refine kk _ ((((Ag.set hM.1).trans (Ag.set hM.2.1)).trans (Ag.set hM.2.2.1)).trans (Ag.set hM.2.2.2)) ?_ (P4.put (P3.put (P2.put (P1.put q r1) r2) r3) r4)
    show (((((((σ.set i (some u1)).set j (some u2)).set k (some u3)).set l (some u4)).set l none).set k none).set j none).set i none = (((σ.set l none).set k none).set j none).set i none
    refine List.ext_getElem? fun m => ?_
    simp only [List.getElem?_set, List.length_set]
    by_cases h1 : i = m
    · simp [h1]
    · by_cases h2 : j = m
      · simp [h1, h2]
      · by_cases h3 : k = m
        · simp [h1, h2, h3]
        · by_cases h4 : l = m
          · simp [h1, h2, h3, h4]
          · simp [h1, h2, h3, h4]⟩
end
/-! ### isinstance, of either -/
/-- what isinstance tells of an α, asked by the class cv -/
def IsOk (K : PySem.W.Frag) {α : Type} [Rp α] (f : α → Bool) (cv : Value) : Prop := ∀ {F H : Hp} {v : V} {a : α}, Same F H → Rp.is K F v a → ∃ tv, TyX K H v tv ∧ PySem.W.kitOne K tv cv = some (f a)
theorem isOk_sum {K : PySem.W.Frag} {α β : Type} [Rp α] [Rp β] {f : α → Bool} {g : β → Bool} {cv : Value} (h1 : IsOk K f cv) (h2 : IsOk K g cv) : IsOk K (Sum.elim f g) cv := fun {F H v a} s r => by
  cases a with
  | inl a => exact h1 s r
  | inr a => exact h2 s r
def optB {α : Type} (b : Bool) (f : α → Bool) (o : Option α) : Bool := match o with
  | none => b
  | some a => f a
theorem isOk_opt {K : PySem.W.Frag} {α : Type} [Rp α] {f : α → Bool} {b : Bool} {cv : Value} (h1 : PySem.W.kitOne K (.type "NoneType") cv = some b) (h2 : IsOk K f cv) : IsOk K (optB b f) cv := fun {F H v a} s r => by
  cases a with
  | none =>
    have r : v = .non := r
    subst r
    exact ⟨_, .base .non, h1⟩
  | some a => exact h2 s r.2
theorem isOk_ob {K : PySem.W.Frag} {C : Str} {ns : List Str} {α : Type} [Rps α] {b : Bool} {cv : Value} (i : Isi K C) (h : PySem.W.kitOne K (.ref (He.ga K C)) cv = some b) : IsOk K (fun _ : Ob C ns α => b) cv := fun {F H v a} s r => ⟨_, HasTyV.is i s r, h⟩
/-- of a built-in kind that is the same for all -/
theorem isOk_ty {K : PySem.W.Frag} {α : Type} [Rp α] [T : HasTy α] {t : String} (ht : ∀ a : α, HasTy.ty a = t) {b : Bool} {cv : Value} (h : PySem.W.kitOne K (.type t) cv = some b) : IsOk K (fun _ : α => b) cv := fun {F H v a} s r => ⟨_, HasTy.is s r, by rw [ht a]; exact h⟩
instance {α β γ δ : Type} [Rp α] [Rp β] [Rp γ] [Rp δ] : HasTy (T4 α β γ δ) := ⟨fun _ => "tuple", fun s h => by obtain ⟨q, x, y, z, w, e, hq, _⟩ := h; subst e; exact tyx_seqT (Same.seqT s hq)⟩
section
variable {X : Cx} {c : C0} {γ α : Type} {G : EnvT γ} [Rp α] {a : Expr} {pos p p2 : Pos} {f : α → Bool}
theorem fe_isOk {cv : Value} {D : Str} {u : V} {fa : γ → Xc α} (hi : IsOk X.K f cv) (ha : FE X c G a fa) (hu : ClsV u cv) (ht : PE X (.Name D p2) (fun σ H Q => Q u H)) (hm : X.mg "isinstance" = none)
    (hg : Gl X "isinstance" := by rfl) (hs : starEach [a, .Name D p2] X.env = (false, eval a X.env) :: starEach [.Name D p2] X.env := by rfl) (hs2 : starEach [.Name D p2] X.env = (false, eval (.Name D p2) X.env) :: starEach [] X.env := by rfl)
    (hpl : (backTo pos (starEach [.Name D p2] X.env)).any (·.1) = false := by rfl) : FE X c G (.Call (.Name "isinstance" p) [a, .Name D p2] [] pos) (fun g => (fa g).bind fun i => Xc.ok (f i)) :=
  PE.imp (pe_callB call_isi hg hm PyProof.Rows.boot_isinstance (pa_cons ha (pa_cons ht pa_nil hs2) hs) (he := hs) (hpl := hpl)) fun σ H Q ⟨F, g, w, q, h⟩ => by
    refine ⟨F, g, w, q, ?_⟩
    cases e1 : fa g with
    | ok o =>
      intro v F1 H1 w1 r1
      simp only [e1] at h
      obtain ⟨tv, h1, h2⟩ := hi w1.s r1
      exact ⟨v, u, tv, cv, f o, rfl, hu, h1, h2, h (.bl (f o)) F1 H1 w1 rfl⟩
    | er c' fs => simp only [e1] at h; exact h
    | no => simp only [e1] at h; exact h
end
end FL

/-! FY3: == of tuples of own objects. -/
namespace FL
open PySem L2
open AutoSeq1 (wpAny_loadPart')
open PySem.SeqAt MeetsSeq MeetsSeq2 MeetsSeq3 SeqRoads2
section
variable {prog : Program} {w : World} {A : Around} {R : Result → Shared → Prop}
theorem tuple_eqB (l b : Addr) (as bs : Array Value) (n n2 : Nat) (dd dd2 : Option Addr) (sl sl2 : Array (Option Value)) (N : Nat) (hN : N = min as.size bs.size) (f : Nat → Bool) (I : Nat → Shared → Prop)
    (step : ∀ i (h1 : i < as.size) (h2 : i < bs.size) s, (∀ j, j < i → f j = true) → I i s → wpAny (model prog w) A.in1 (eqBool as[i] bs[i]) (fun r s' => r = f i ∧ I (i + 1) s') (fun e s' => R (.error e) s') s)
    (fin : ∀ s, I N s → (∀ i, i < N → f i = true) → R (.ok (.ret (.bool (as.size == bs.size)))) s) (out : ∀ i s, i < N → (∀ j, j < i → f j = true) → f i = false → I (i + 1) s → R (.ok (.ret (.bool false))) s)
    {s : Shared} (hl1 : s.heap.get? l = some { cls := .type "tuple", dict := dd, data := .seq as n, slots := sl }) (hb1 : s.heap.get? b = some { cls := .type "tuple", dict := dd2, data := .seq bs n2, slots := sl2 }) (h : I 0 s) :
    wpAny (model prog w) A.in1 (Builtin.«tuple.__eq__» ⟨[.ref l, .ref b], []⟩) (GQ.FinOf prog w A R) (fun e s' => R (.error e) s') s := by
  have f2 := AutoSeq1.sub_tuple_tuple
  have hZ : (as.toList.zip bs.toList).length = N := by simp [hN]
  have h0 := h
  obtain ⟨hp, g, d, tk, os⟩ := s
  wp_walk using wpAny_loadPart' hl1, wpAny_loadPart' hb1, wpAny_forIn_list _ (fun rest b s' => b.1 = none ∧ ∃ i, rest = (as.toList.zip bs.toList).drop i ∧ i ≤ N ∧ (∀ j, j < i → f j = true) ∧ I i s') _
  case turn =>
    rintro ⟨y, x⟩ rest b s' ⟨hb', i, hz, hi, hf, hI⟩
    have hlt : i < (as.toList.zip bs.toList).length := by
      rcases Nat.lt_or_ge i (as.toList.zip bs.toList).length with h' | h'
      · exact h'
      · rw [List.drop_of_length_le h'] at hz; cases hz
    have hiN : i < N := hZ ▸ hlt
    have h1 : i < as.size := by omega
    have h2 : i < bs.size := by omega
    rw [List.drop_eq_getElem_cons hlt] at hz
    injection hz with hyx hrest
    have hy : y = as[i] := by have := congrArg Prod.fst hyx; simpa using this
    have hx : x = bs[i] := by have := congrArg Prod.snd hyx; simpa using this
    subst hy hx
    refine wpAny_bind (wpAny_mono (step i h1 h2 s' hf hI) (fun r s2 q2 => ?_) fun _ _ x => x)
    obtain ⟨hr, q2⟩ := q2
    cases hfi : f i with
    | true =>
      rw [hfi] at hr
      subst hr
      wp_walk
      exact ⟨rfl, i + 1, hrest, hiN, fun j hj => by
        rcases Nat.lt_succ_iff_lt_or_eq.mp hj with h' | h'
        · exact hf j h'
        · rw [h']; exact hfi, q2⟩
    | false =>
      rw [hfi] at hr
      subst hr
      wp_walk
      exact out i s2 hiN hf hfi q2
  case fin =>
    rintro ⟨b1, b2⟩ s' ⟨hb', i, hz, hi, hf, hI⟩
    simp only at hb'
    subst hb'
    have hge : N ≤ i := by
      rcases Nat.lt_or_ge i (as.toList.zip bs.toList).length with h' | h'
      · rw [List.drop_eq_getElem_cons h'] at hz; cases hz
      · exact hZ ▸ h'
    have hi' : i = N := by omega
    have hR := fin s' (hi' ▸ hI) (fun j hj => hf j (hi' ▸ hj))
    wp_walk
    simpa [Builtin.Tuple.tupleCompareSizes] using hR
  case h =>
    exact ⟨rfl, 0, rfl, Nat.zero_le _, fun j hj => absurd hj (Nat.not_lt_zero _), h0⟩
end
theorem rc_tupB {E : Value → Shared → Prop} {prog : Program} {w : World} {A : Around} {l b : Addr} {as bs : Array Value} {Q : Value → Shared → Prop} {s : Shared} (hu : A.units < cLine) (f : Nat → Bool) (I : Nat → Shared → Prop) (hl : s.heap.IsTuple l as) (hb : s.heap.IsTuple b bs)
    (step : ∀ i (h1 : i < as.size) (h2 : i < bs.size) s, (∀ j, j < i → f j = true) → I i s → wpAny (model prog w) A.in1 (eqBool as[i] bs[i]) (fun r s' => r = f i ∧ I (i + 1) s') E s)
    (fin : ∀ s, I (min as.size bs.size) s → (∀ i, i < min as.size bs.size → f i = true) → Q (.bool (as.size == bs.size)) s) (out : ∀ i s, i < min as.size bs.size → (∀ j, j < i → f j = true) → f i = false → I (i + 1) s → Q (.bool false) s) (h : I 0 s) :
    wpAny (model prog w) A (richCompare .Eq (.ref l) (.ref b)) Q E s := by
  obtain ⟨⟨cA, dA, tA, sA⟩, hoA, hcA, nA, hdA⟩ := id hl
  obtain ⟨⟨cB, dB, tB, sB⟩, hoB, hcB, nB, hdB⟩ := id hb
  simp only at hcA hdA hcB hdB
  subst hcA hdA hcB hdB
  refine wpAny_richCompare_same_room (op := .Eq) ⟨_, hoA, rfl⟩ ⟨_, hoB, rfl⟩ F.slot_tuple_eq (GQ.call_here F.slot_tuple_eq ⟨_, hoA, rfl⟩ F.entry_tuple_eq (F.args_tuple_eq_2 _ _) ?_) hu
  exact tuple_eqB (R := wants (fun v s' => v ≠ .notImplemented ∧ Q v s') E) l b as bs nA nB dA dB sA sB _ rfl f I step (fun s' q k => ⟨(fun x => nomatch x), fin s' q k⟩) (fun i s' h1 h2 h3 q => ⟨(fun x => nomatch x), out i s' h1 h2 h3 q⟩) hoA hoB h
/-! ### what an address holds, it holds alone -/
class InjR (α : Type) [Rp α] : Prop where
  inj : ∀ {X : Cx} {pins : List (Addr × Obj)} {σ : St} {H F : Hp} {s : Shared} {v : V} {a b : α}, Inv X pins σ H s → Same F H → Rp.is X.K F v a → Rp.is X.K F v b → a = b
class InjsR (α : Type) [Rps α] : Prop where
  inj : ∀ {X : Cx} {pins : List (Addr × Obj)} {σ : St} {H F : Hp} {s : Shared} {vs : List V} {a b : α}, Inv X pins σ H s → Same F H → Rps.isL X.K F vs a → Rps.isL X.K F vs b → a = b
instance : InjR Int := ⟨fun _ _ h1 h2 => by have h1 : _ = V.int _ := h1; have h2 : _ = V.int _ := h2; rw [h1] at h2; cases h2; rfl⟩
instance : InjR Bool := ⟨fun _ _ h1 h2 => by have h1 : _ = V.bl _ := h1; have h2 : _ = V.bl _ := h2; rw [h1] at h2; cases h2; rfl⟩
instance : InjR Str := ⟨fun _ _ h1 h2 => by have h1 : _ = V.str _ := h1.1; have h2 : _ = V.str _ := h2.1; rw [h1] at h2; cases h2; rfl⟩
instance : InjsR Unit := ⟨fun _ _ _ _ => rfl⟩
instance {α αs : Type} [Rp α] [Rps αs] [InjR α] [InjsR αs] : InjsR (α × αs) := ⟨fun {X pins σ H F s vs a b} I sm h1 h2 => by
  obtain ⟨v, r, e, h1, t1⟩ := h1
  obtain ⟨v', r', e', h2, t2⟩ := h2
  rw [e] at e'
  cases e'
  exact Prod.ext (InjR.inj I sm h1 h2) (InjsR.inj I sm t1 t2)⟩
theorem al_inj {α : Type} [Rp α] [InjR α] {X : Cx} {pins : List (Addr × Obj)} {σ : St} {H F : Hp} {s : Shared} (I : Inv X pins σ H s) (sm : Same F H) : ∀ {xs : List V} {a b : List α}, Al X.K F xs a → Al X.K F xs b → a = b
  | _, _, _, .nil, .nil => rfl
  | _, _, _, .cons h1 t1, .cons h2 t2 => by rw [InjR.inj I sm h1 h2, al_inj I sm t1 t2]
instance {α : Type} [Rp α] [InjR α] : InjR (Tu α) := ⟨fun {X pins σ H F s v a b} I sm h1 h2 => by
  obtain ⟨p, xs, e, h1, _, r1⟩ := h1
  obtain ⟨p', xs', e', h2, _, r2⟩ := h2
  rw [e] at e'
  cases e'
  have q := I.tuple_inj (Same.seqT sm h1) (Same.seqT sm h2)
  subst q
  exact al_inj I sm r1 r2⟩
theorem zip_inj : ∀ {ns : List Str} {a b : List V}, a.length = ns.length → b.length = ns.length → ns.zip a = ns.zip b → a = b
  | [], [], [], _, _, _ => rfl
  | [], _ :: _, _, h, _, _ => by cases h
  | [], [], _ :: _, _, h, _ => by cases h
  | _ :: _, [], _, h, _, _ => by cases h
  | _ :: _, _ :: _, [], _, h, _ => by cases h
  | n :: ns, x :: a, y :: b, h1, h2, e => by
    simp only [List.zip_cons_cons, List.cons.injEq, Prod.mk.injEq, true_and] at e
    rw [e.1, zip_inj (by simpa using h1) (by simpa using h2) e.2]
instance {C : Str} {ns : List Str} {α : Type} [Rps α] [InjsR α] : InjR (Ob C ns α) := ⟨fun {X pins σ H F s v a b} I sm h1 h2 => by
  obtain ⟨p, dx, vs, e, h1, l1, r1⟩ := h1
  obtain ⟨p', dx', vs', e', h2, l2, r2⟩ := h2
  rw [e] at e'
  cases e'
  rw [h1] at h2
  have q := Option.some.inj h2
  injection q with q1 q2 q3
  have q4 := zip_inj l1 l2 q3
  subst q4
  have := InjsR.inj I sm r1 r2
  cases a; cases b
  exact congrArg _ this⟩
/-! ### == at any depth -/
def EqX (X : Cx) (n : Nat) {α : Type} [Rp α] (m : α → α → Xc Bool) : Prop := ∀ (A : Around) (pins : List (Addr × Obj)) (s : Shared) (σ : St) (F H : Hp) (x y : V) (u v : Value) (a b : α) (r : Bool), L2.Sub X n A → Inv X pins σ H s → RelV x u → RelV y v → Same F H → Rp.is X.K F x a → Rp.is X.K F y b → m a b = .ok r →
  wpAny (model X.prog X.w) A (eqBool u v) (fun t s' => t = r ∧ ∃ F' H', Wd F H F' H' ∧ Inv X pins σ H' s') X.xe s
def RcX (X : Cx) (n : Nat) {α : Type} [Rp α] (m : α → α → Xc Bool) : Prop := ∀ (A : Around) (pins : List (Addr × Obj)) (s : Shared) (σ : St) (F H : Hp) (x y : V) (u v : Value) (a b : α) (r : Bool), L2.Sub X n A → Inv X pins σ H s → RelV x u → RelV y v → Same F H → Rp.is X.K F x a → Rp.is X.K F y b → m a b = .ok r →
  wpAny (model X.prog X.w) A (richCompare .Eq u v) (fun t s' => t = .bool r ∧ ∃ F' H', Wd F H F' H' ∧ Inv X pins σ H' s') X.xe s
def eqLX {α : Type} (m : α → α → Xc Bool) : List α → List α → Xc Bool
  | [], [] => .ok true
  | [], _ :: _ => .ok false
  | _ :: _, [] => .ok false
  | a :: l, b :: k => (m a b).bind fun r => if r = true then eqLX m l k else .ok false
def tB (m : Xc Bool) : Bool := match m with
  | .ok t => t
  | _ => false
def eqAt {α : Type} (m : α → α → Xc Bool) (l k : List α) (i : Nat) : Bool := match l[i]?, k[i]? with
  | some a, some b => tB (m a b)
  | _, _ => false
theorem eqLX_at {α : Type} {m : α → α → Xc Bool} : ∀ {l k : List α} {r : Bool}, eqLX m l k = .ok r → ∀ i a b, l[i]? = some a → k[i]? = some b → (∀ j, j < i → eqAt m l k j = true) → m a b = .ok (eqAt m l k i)
  | [], _, _, _, i, a, b, h1, _, _ => by simp at h1
  | _ :: _, [], _, _, i, a, b, _, h2, _ => by simp at h2
  | a0 :: l, b0 :: k, r, h, i, a, b, h1, h2, hj => by
    unfold eqLX at h
    cases e1 : m a0 b0 with
    | er c fs => rw [e1] at h; cases h
    | no => rw [e1] at h; cases h
    | ok t =>
      rw [e1] at h
      simp only [bind_ok] at h
      cases i with
      | zero =>
        simp at h1 h2
        subst h1 h2
        show m a0 b0 = .ok (tB (m a0 b0))
        rw [e1]
        rfl
      | succ i =>
        have h0 := hj 0 (Nat.zero_lt_succ _)
        have h0 : tB (m a0 b0) = true := h0
        rw [e1] at h0
        have h0 : t = true := h0
        subst h0
        rw [if_pos rfl] at h
        exact eqLX_at h i a b (by simpa using h1) (by simpa using h2) fun j hj' => hj (j + 1) (Nat.succ_lt_succ hj')
theorem eqLX_fin {α : Type} {m : α → α → Xc Bool} : ∀ {l k : List α} {r : Bool}, eqLX m l k = .ok r → (∀ i, i < min l.length k.length → eqAt m l k i = true) → r = (l.length == k.length)
  | [], [], r, h, _ => by cases h; rfl
  | [], _ :: _, r, h, _ => by cases h; rfl
  | _ :: _, [], r, h, _ => by cases h; rfl
  | a :: l, b :: k, r, h, hf => by
    unfold eqLX at h
    have h0 := hf 0 (by simp)
    have h0 : tB (m a b) = true := h0
    have h0 : m a b = .ok true := by
      cases e : m a b with
      | ok t => rw [e] at h0; have h0 : t = true := h0; rw [h0]
      | er c fs => rw [e] at h0; cases h0
      | no => rw [e] at h0; cases h0
    rw [h0] at h
    simp only [bind_ok, if_true] at h
    have := eqLX_fin h fun i hi => hf (i + 1) (by simp only [List.length_cons]; omega)
    rw [this]
    simp
theorem eqLX_out {α : Type} {m : α → α → Xc Bool} : ∀ {l k : List α} {r : Bool} (i : Nat), eqLX m l k = .ok r → i < min l.length k.length → (∀ j, j < i → eqAt m l k j = true) → eqAt m l k i = false → r = false
  | [], _, _, i, _, hi, _, _ => by simp at hi
  | _ :: _, [], _, i, _, hi, _, _ => by simp at hi
  | a :: l, b :: k, r, i, h, hi, hj, hf => by
    unfold eqLX at h
    cases e1 : m a b with
    | er c fs => rw [e1] at h; cases h
    | no => rw [e1] at h; cases h
    | ok t =>
      rw [e1] at h
      simp only [bind_ok] at h
      cases i with
      | zero =>
        have hf : tB (m a b) = false := hf
        rw [e1] at hf
        have hf : t = false := hf
        subst hf
        rw [if_neg Bool.false_ne_true] at h
        cases h
        rfl
      | succ i =>
        have h0 := hj 0 (Nat.zero_lt_succ _)
        have h0 : tB (m a b) = true := h0
        rw [e1] at h0
        have h0 : t = true := h0
        subst h0
        rw [if_pos rfl] at h
        exact eqLX_out i h (by simp only [List.length_cons] at hi; omega) (fun j hj' => hj (j + 1) (Nat.succ_lt_succ hj')) hf
theorem eqLX_refl {α : Type} {m : α → α → Xc Bool} (hr : ∀ a r, m a a = .ok r → r = true) : ∀ {l : List α} {r : Bool}, eqLX m l l = .ok r → r = true
  | [], r, h => by cases h; rfl
  | a :: l, r, h => by
    unfold eqLX at h
    cases e1 : m a a with
    | er c fs => rw [e1] at h; cases h
    | no => rw [e1] at h; cases h
    | ok t =>
      rw [e1] at h
      have := hr a t e1
      subst this
      simp only [bind_ok, if_true] at h
      exact eqLX_refl hr h
section
variable {X : Cx} {n : Nat} {α : Type} [Rp α] {m : α → α → Xc Bool}
theorem RcX.eqX (h : RcX X n m) [J : InjR α] (hr : ∀ a r, m a a = .ok r → r = true) (ha : ∀ {K F v} {a : α}, Rp.is K F v a → ∃ p, v = .ref p) : EqX X n m := by
  intro A pins s σ F H x y u v a b r sb I rx ry sm r1 r2 e
  obtain ⟨p, ep⟩ := ha r1
  obtain ⟨q, eq⟩ := ha r2
  subst ep eq
  cases (show u = Value.ref p from rx)
  cases (show v = Value.ref q from ry)
  by_cases hab : p = q
  · subst hab
    have := InjR.inj I sm r1 r2
    subst this
    have := hr a r e
    subst this
    exact SeqAt.EqAt.same (A := A) (s := s) (.ref p) X.prog X.w X.xe _ ⟨rfl, F, H, Wd.refl sm, I⟩
  · refine GQ.eqBool_refG hab (wpAny_mono (h A pins s σ F H (.ref p) (.ref q) _ _ a b r sb I rfl rfl sm r1 r2 e) (fun t s' hq => ?_) fun _ _ x => x)
    obtain ⟨ht, z⟩ := hq
    exact ⟨r, ht, rfl, z⟩
theorem rcX_tup (h : EqX X n m) : RcX X (n + 1) (fun a b : Tu α => eqLX m (Tu.l a) (Tu.l b)) := by
  intro A pins s σ F H x y u v a b r sb I rx ry sm r1 r2 e
  obtain ⟨p, xs, ep, h1, z1, al1⟩ := r1
  obtain ⟨q, ys, eq, h2, z2, al2⟩ := r2
  subst ep eq
  cases (show u = Value.ref p from rx)
  cases (show v = Value.ref q from ry)
  obtain ⟨its, v1, e1, _⟩ := I.tuple (Same.seqT sm h1)
  obtain ⟨its2, v2, e2, _⟩ := I.tuple (Same.seqT sm h2)
  have l1 : its.toArray.size = (Tu.l a).length := by rw [List.size_toArray, ← v1.length, al1.len]
  have l2 : its2.toArray.size = (Tu.l b).length := by rw [List.size_toArray, ← v2.length, al2.len]
  refine rc_tupB (A := A) (show A.units < cLine from sb.room.units0) (eqAt m (Tu.l a) (Tu.l b)) (fun _ s' => ∃ F' H', Wd F H F' H' ∧ Inv X pins σ H' s') e1 e2 (fun i hi1 hi2 s' hj ⟨F', H', w, I'⟩ => ?_) (fun s' ⟨F', H', w, I'⟩ hf => ?_) (fun i s' hi hj hf ⟨F', H', w, I'⟩ => ?_) ⟨F, H, Wd.refl sm, I⟩
  · have k1 : i < (Tu.l a).length := by omega
    have k2 : i < (Tu.l b).length := by omega
    obtain ⟨x', gx, rx'⟩ := al1.get' (List.getElem?_eq_getElem k1)
    obtain ⟨y', gy, ry'⟩ := al2.get' (List.getElem?_eq_getElem k2)
    obtain ⟨u', gu, ru⟩ := v1.get gx
    obtain ⟨w', gw, rw'⟩ := v2.get gy
    have eu : its.toArray[i] = u' := by
      have h1' : i < its.length := by simpa using hi1
      rw [List.getElem?_eq_getElem h1'] at gu
      simpa using gu
    have ew : its2.toArray[i] = w' := by
      have h2' : i < its2.length := by simpa using hi2
      rw [List.getElem?_eq_getElem h2'] at gw
      simpa using gw
    rw [eu, ew]
    have em := eqLX_at e i _ _ (List.getElem?_eq_getElem k1) (List.getElem?_eq_getElem k2) hj
    refine wpAny_mono (h A.in1 pins s' σ F' H' x' y' u' w' _ _ _ sb.in1 I' ru rw' w.s (Rp.mono w.f rx') (Rp.mono w.f ry') em) (fun t s2 hq => ?_) fun _ _ z => z
    obtain ⟨ht, F2, H2, w2, I2⟩ := hq
    exact ⟨ht, F2, H2, w.trans w2, I2⟩
  · rw [l1, l2] at hf ⊢
    have := eqLX_fin e hf
    exact ⟨by rw [this], F', H', w, I'⟩
  · rw [l1, l2] at hi
    have := eqLX_out i e hi hj hf
    exact ⟨by rw [this], F', H', w, I'⟩
end
section
variable {X : Cx} {C : Str} {ns : List Str} {α : Type} [Rps α] {ps : List Str} {j : Nat} {W : WX}
theorem rcX_ob {mm : Ob C ns α × Ob C ns α × Unit → Xc Bool} (D : Dm X.prog X.w X.K X.mg X.base C "__eq__" ps j (spF X.K (rtF Bool) mm)) (tk : Takes X W) : RcX X j (fun a b : Ob C ns α => mm (a, (b, ()))) := by
  intro A pins s σ F H x y u v a b r sb I rx ry sm r1 r2 e
  obtain ⟨⟨fd, Fn, B⟩, hm⟩ := D
  obtain ⟨p, dx, gx, ep, hp⟩ := ob_at sm r1
  obtain ⟨q, dy, gy, eq, hq⟩ := ob_at sm r2
  subst ep eq
  cases (show u = Value.ref p from rx)
  cases (show v = Value.ref q from ry)
  obtain ⟨mA, J, _⟩ := ins_get I.hok hp
  obtain ⟨mB, J', _⟩ := ins_get I.hok hq
  obtain ⟨od, J, _⟩ := J.look
  obtain ⟨od', J', _⟩ := J'.look
  obtain ⟨m0, hF⟩ := I.fr
  refine PySem.W.cmp_K (op := .Eq) (tb := .ref (He.ga X.K C)) sb.room.units0 hF I.ok.mod.kin J J'.type (by simp [PySem.W.notFirst]) hm.at_ hm.fn ?_
  have hsp : spF X.K (rtF Bool) mm [.ref p, .ref q] H (fun v H' => v = .bl r ∧ ∃ F', Wd F H F' H') (fun _ _ _ => False) := ⟨F, (a, (b, ())), sm, ⟨_, _, rfl, r1, _, _, rfl, r2, rfl⟩, by
    show PoR (rtF Bool) X.K F H _ _ (mm (a, (b, ())))
    have e : mm (a, (b, ())) = .ok r := e
    rw [e]
    exact fun v F' H' w rr => ⟨rr, F', w⟩⟩
  have e0 : Env0 X.prog X.w X.K X.mg X.base A X.stack s H := by
    have e := I.env0
    exact ⟨by rw [sb.fr]; exact e.frames, e.mod, e.bs, e.bsz, e.funs, e.frf, e.hok, e.bare⟩
  have hl := Fn.len _ _ _ _ hsp
  have r2' : Vals [V.ref p, V.ref q] [Value.ref p, Value.ref q] := .cons rfl (.cons rfl .nil)
  refine wpAny_call (codeAny_mono (Fn.run A X.stack s H ⟨[.ref p, .ref q], []⟩ [.ref p, .ref q] [.ref p, .ref q] _ (fun _ _ _ => False) sb.room e0 (by
    have := B s [.ref p, .ref q] I.kIn (by simpa using hl)
    simpa using this) r2' hsp) fun rr s' hq' => ?_)
  cases rr with
  | error er => exact passes_call tk (fun _ _ _ _ z => z.elim) pins σ H s er s' I hq'
  | ok fl =>
    cases fl with
    | ret w =>
      obtain ⟨z, H', I', rz, ez, F', wd⟩ := I.after hq'
      subst ez
      cases rz
      exact ⟨rfl, F', H', wd, I'⟩
    | next => exact False.elim hq'
    | brk => exact False.elim hq'
    | cont => exact False.elim hq'
end
section
variable {X : Cx} {c : C0} {γ α β : Type} {G : EnvT γ} [Rp α] [Rp β] {a b : Expr} {pos : Pos} {k j : Nat}
def nerX (m : Xc Bool) : Xc Bool := match m with
  | .ok b => .ok b
  | _ => .no
theorem fe_rcX {m : α → α → Xc Bool} {fa fb : γ → Xc α} (h : RcX X j m) (hr : Room k X.A) (ha : FE X c G a fa) (hb : FE X c G b fb) (hjk : j ≤ k := by decide) : FE X c G (.Compare a [.Eq] [b] pos) (fun g => (fa g).bind fun x => (fb g).bind fun y => nerX (m x y)) := by
  refine two (r := fun x y H Q => ∃ F i j r, Same F H ∧ Rp.is X.K F x i ∧ Rp.is X.K F y j ∧ m i j = .ok r ∧ ∀ F' H', Wd F H F' H' → Q (.bl r) H') (fun h1 h2 => pe_cmpR ?_ h1 h2 (nomark _)) ha hb fun {F H x y i j Q E} s r1 r2 p => ?_
  · intro pins s σ H x y v u Q I rx ry ⟨F, i, j, r, sm, r1, r2, e, q⟩
    show wpAny (model X.prog X.w) X.A (richCompare .Eq v u) (EP X pins σ Q) X.xe s
    refine wpAny_mono (h X.A pins s σ F H x y v u i j r ⟨hr.mono hjk, rfl⟩ I rx ry sm r1 r2 e) (fun t s' z => ?_) fun _ _ x => x
    obtain ⟨ht, F', H', w, I'⟩ := z
    subst ht
    exact ⟨.bl r, H', I', rfl, q F' H' w⟩
  · cases e : m i j with
    | ok r =>
      rw [e] at p
      exact ⟨F, i, j, r, s, r1, r2, e, fun F' H' w => p (.bl r) F' H' w rfl⟩
    | er cc fs => rw [e] at p; exact p.elim
    | no => rw [e] at p; exact p.elim
end
end FL

/-! FY4: != of own objects. -/
namespace FL
open PySem L2
open PySem.W PyProof.Rows
section
variable {prog : Program} {w : World} {A A₀ : Around} {E : Value → Shared → Prop} {s : Shared} {K : PySem.W.Frag} {x C L f : Addr} {h₀ : Heap} {m : Str → Option Value} {ox : Obj} {od : Option Obj} {b tb : Value}
theorem bind_ne (x : Value) : bindSpecial (.builtin "object.__ne__") x = pure (.builtin "object.__ne__", [x]) := by first | exact PySem.F.cmpBind_ne x | kernel_rfl
theorem ifBound_ne {M : Model} {args : List Value} {Q : Option Value → Shared → Prop} (X : K.In s.heap) (I : InstAt s.heap x ox C od) (hs : findIn K (.ref C) "__ne__" = some (some (.builtin "object.__ne__")))
    (h : wpAny M A (call (.builtin "object.__ne__") (.ref x :: args)) (fun v => Q (some v)) E s) : wpAny M A (callSpecialIfBound? (.ref x) "__ne__" args) Q E s := by
  simp only [callSpecialIfBound?, bindSpecialIfBound?]
  refine wpAny_holding (wpAny_bind (wpAny_bind (wpAny_bind (I.type.here ((looks_findIn X hs).here ?_)))))
  refine wpAny_bind (wpAny_askSetting (wpAny_ite ?_))
  have last : wpAny M A (call (.builtin "object.__ne__") ([.ref x] ++ args) >>= fun v => pure (some v)) Q E s := wpAny_bind (wpAny_mono h (fun v s' h' => wpAny_pure h') fun _ _ h' => h')
  split
  · exact wpAny_bind (wpAny_of_eq (bind_ne _) (wpAny_pure (by exact last)))
  · exact wpAny_tryCatch (wpAny_bind (wpAny_of_eq (bind_ne _) (wpAny_pure (by exact last))))
theorem call_ne {Q : Value → Shared → Prop} (hu : A.units + 1 < cLine) (X : K.In s.heap) (I : InstAt s.heap x ox C od) (hs : findIn K (.ref C) "__eq__" = some (some (.ref f))) (hf : isFn K (.ref f) = true) (hob : mroIn K C (.type "object") = some true)
    (h : codeAny (model prog w) A.in1 (.call (.ref f) ⟨[.ref x, b], []⟩) (fun r s' => match r with | .ok (.ret v) => ∃ t, v = .bool t ∧ Q (.bool (!t)) s' | .ok _ => False | .error e => E e s') s) : wpAny (model prog w) A (call (.builtin "object.__ne__") [.ref x, b]) Q E s := by
  have sub : Looks (model prog w) s.heap (isInstance (.ref x) (.type "object")) true := I.type.andThen (looks_mroIn X hob)
  have hu1 : A.in1.units < cLine := hu
  obtain ⟨hp, g, d, t, os⟩ := s
  refine wpAny_call (codeAny_call_builtin (by decide +kernel) PySem.F.cmpEntry_ne ?_)
  refine @check_slot (model prog w) _ _ ⟨hp, g, d, t, os⟩ "object.__ne__" "object" "__ne__" (.ref x) [b] [] _ PySem.F.cmpKind_ne PySem.F.cmpSplit_ne sub (PySem.F.cmpArgs_ne _ _) ?_
  unfold Builtin.«object.__ne__»
  repeat (first | with_reducible refine wpAny_cRoomFor hu1 ?_ | with_reducible refine ifBound_K (K := K) X I hs hf ?_ | wp_step)
  refine codeAny_mono h fun r s' hr => ?_
  cases r with
  | error e => exact hr
  | ok fl =>
    cases fl with
    | ret v =>
      obtain ⟨t, rfl, q⟩ := hr
      repeat wp_step
      exact q
    | next => exact False.elim hr
    | brk => exact False.elim hr
    | cont => exact False.elim hr
theorem ne_K {Q : Value → Shared → Prop} {m : Str → Option Value} (hu : A.units + 1 < cLine) (F : Fr h₀ L s.heap m) (X₀ : K.In h₀) (I : InstAt s.heap x ox C od) (hb : Looks (model prog w) s.heap (typeOf b) tb) (hn : notFirst K C tb = true)
    (hs : findIn K (.ref C) "__eq__" = some (some (.ref f))) (hf : isFn K (.ref f) = true) (hne : findIn K (.ref C) "__ne__" = some (some (.builtin "object.__ne__"))) (hob : mroIn K C (.type "object") = some true)
    (h : codeAny (model prog w) A.in1 (.call (.ref f) ⟨[.ref x, b], []⟩) (fun r s' => match r with | .ok (.ret v) => ∃ t, v = .bool t ∧ Q (.bool (!t)) s' | .ok _ => False | .error e => E e s') s) : wpAny (model prog w) A (richCompare .NotEq (.ref x) b) Q E s := by
  have X := X₀.keeps F.keep
  have hu0 : A.units < cLine := by omega
  have once : wpAny (model prog w) A (tryCompare (.ref x) (cmpInfo .NotEq).2.1 b) (fun r s' => ∃ v, r = some v ∧ Q v s') E s := by
    unfold tryCompare
    refine wpAny_bind (ifBound_ne X I hne (call_ne hu X I hs hf hob (codeAny_mono h fun r s' hr => ?_)))
    cases r with
    | error e => exact hr
    | ok fl =>
      cases fl with
      | ret v =>
        obtain ⟨t, e, q⟩ := hr
        exact ⟨t, e, wpAny_pure ⟨_, rfl, q⟩⟩
      | next => exact False.elim hr
      | brk => exact False.elim hr
      | cont => exact False.elim hr
  unfold richCompare
  simp only [oneThing_ref]
  refine wpAny_holding (wpAny_bind (wpAny_cRoomFor hu0 ?_))
  refine wpAny_bind (I.type.here (wpAny_bind (hb.here ?_)))
  split
  · rename_i qn
    have off : subIn K tb (.ref C) = some false := by
      rcases Bool.or_eq_true_iff.mp hn with e | e
      · rw [beq_iff_eq.mp e] at qn; simp at qn
      · exact beq_iff_eq.mp e
    refine wpAny_bind ((looks_subIn X off).here ?_)
    simp only [Bool.false_eq_true, if_false]
    refine wpAny_bind (wpAny_mono once (fun r s' z => ?_) fun _ _ e => e)
    obtain ⟨v, rfl, hv⟩ := z
    exact wpAny_pure hv
  · refine wpAny_bind (wpAny_pure ?_)
    simp only [Bool.false_eq_true, if_false]
    refine wpAny_bind (wpAny_mono once (fun r s' z => ?_) fun _ _ e => e)
    obtain ⟨v, rfl, hv⟩ := z
    exact wpAny_pure hv
end
/-- what != asks of a class with an == of its own -/
structure NeC (K : PySem.W.Frag) (C : Addr) : Prop where
  ne : findIn K (.ref C) "__ne__" = some (some (.builtin "object.__ne__"))
  ob : mroIn K C (.type "object") = some true
def neB (K : PySem.W.Frag) (C : Addr) : Bool := decide (findIn K (.ref C) "__ne__" = some (some (.builtin "object.__ne__"))) && decide (mroIn K C (.type "object") = some true)
theorem neB_ok {K : PySem.W.Frag} {C : Addr} (h : neB K C = true) : NeC K C := by
  unfold neB at h
  rw [Bool.and_eq_true, decide_eq_true_eq, decide_eq_true_eq] at h
  exact ⟨h.1, h.2⟩
section
variable {X : Cx} {c : C0} {γ α : Type} {G : EnvT γ} [Rps α] {a b : Expr} {pos : Pos} {k j : Nat} {C : Str} {ns : List Str} {ps : List Str}
theorem fe_neOO {mm : Ob C ns α × Ob C ns α × Unit → Xc Bool} {fa fb : γ → Xc (Ob C ns α)} (D : Dm X.prog X.w X.K X.mg X.base C "__eq__" ps j (spF X.K (rtF Bool) mm)) (N : NeC X.K (He.ga X.K C)) (tk : Takes X c.W) (hr : Room k X.A) (ha : FE X c G a fa) (hb : FE X c G b fb) (hjk : j + 1 ≤ k := by decide) :
    FE X c G (.Compare a [.NotEq] [b] pos) (fun g => (fa g).bind fun x => (fb g).bind fun y => (nerX (mm (x, (y, ())))).bind fun t => Xc.ok (!t)) := by
  obtain ⟨⟨fd, Fn, B⟩, hm⟩ := D
  refine two (r := fun x y H Q => ∃ F i j r, Same F H ∧ Rp.is X.K F x i ∧ Rp.is X.K F y j ∧ mm (i, (j, ())) = .ok r ∧ ∀ F' H', Wd F H F' H' → Q (.bl (!r)) H') (fun h1 h2 => pe_cmpR ?_ h1 h2 (nomark _)) ha hb fun {F H x y i j Q E} s r1 r2 p => ?_
  · intro pins s σ H x y v u Q I rx ry ⟨F, a, b, r, sm, r1, r2, e, q⟩
    obtain ⟨p, dx, gx, ep, hp⟩ := ob_at sm r1
    obtain ⟨p2, dy, gy, eq, hq⟩ := ob_at sm r2
    subst ep eq
    cases (show v = Value.ref p from rx)
    cases (show u = Value.ref p2 from ry)
    obtain ⟨mA, J, _⟩ := ins_get I.hok hp
    obtain ⟨mB, J', _⟩ := ins_get I.hok hq
    obtain ⟨od, J, _⟩ := J.look
    obtain ⟨od', J', _⟩ := J'.look
    obtain ⟨m0, hF⟩ := I.fr
    have hsp : spF X.K (rtF Bool) mm [.ref p, .ref p2] H (fun v H' => v = .bl r ∧ ∃ F', Wd F H F' H') (fun _ _ _ => False) := ⟨F, (a, (b, ())), sm, ⟨_, _, rfl, r1, _, _, rfl, r2, rfl⟩, by
      show PoR (rtF Bool) X.K F H _ _ (mm (a, (b, ())))
      rw [e]
      exact fun v F' H' w rr => ⟨rr, F', w⟩⟩
    have hl := Fn.len _ _ _ _ hsp
    have r2' : Vals [V.ref p, V.ref p2] [Value.ref p, Value.ref p2] := .cons rfl (.cons rfl .nil)
    have hrj : Room (j + 1) X.A := hr.mono hjk
    show wpAny (model X.prog X.w) X.A (richCompare .NotEq (.ref p) (.ref p2)) (EP X pins σ Q) X.xe s
    refine ne_K (tb := .ref (He.ga X.K C)) (by have := hrj.un; omega) hF I.ok.mod.kin J J'.type (by simp [PySem.W.notFirst]) hm.at_ hm.fn N.ne N.ob (codeAny_mono (Fn.run X.A.in1 X.stack s H ⟨[.ref p, .ref p2], []⟩ [.ref p, .ref p2] [.ref p, .ref p2] _ (fun _ _ _ => False) hrj.in1 I.env0.in1 (by
      have := B s [.ref p, .ref p2] I.kIn (by simpa using hl)
      simpa using this) r2' hsp) fun rr s' hq' => ?_)
    cases rr with
    | error er => exact passes_call tk (fun _ _ _ _ z => z.elim) pins σ H s er s' I hq'
    | ok fl =>
      cases fl with
      | ret w =>
        obtain ⟨z, H', I', rz, ez, F', wd⟩ := I.after hq'
        subst ez
        cases rz
        exact ⟨r, rfl, .bl (!r), H', I', rfl, q F' H' wd⟩
      | next => exact False.elim hq'
      | brk => exact False.elim hq'
      | cont => exact False.elim hq'
  · cases e : mm (i, (j, ())) with
    | ok r =>
      rw [e] at p
      exact ⟨F, i, j, r, s, r1, r2, e, fun F' H' w => p (.bl (!r)) F' H' w rfl⟩
    | er cc fs => rw [e] at p; exact p.elim
    | no => rw [e] at p; exact p.elim
end
end FL

/-! FX5: the head's part for errors with a field. -/
namespace FL
open PySem L2
structure SupD where
  x : Str
  fl : Str
  qual : Str
  params : Arguments
  body : List Stmt
  scope : Scope
abbrev FnS : Type := Option (Str × Str × Arguments × FuncBody × Scope × Addr × List Str × Addr)
def fnS (K : PySem.W.Frag) (a : Addr) : FnS := match K.lookup a with
  | some ⟨_, _, .func fd, _⟩ => some (fd.name, fd.qualname, fd.params, fd.body, fd.scope, fd.globals, fd.closure.map (·.1), fd.builtins)
  | _ => none
def SupD.val (d : SupD) : FnS := some ("__init__", d.qual, d.params, .stmts d.body, d.scope, mainGlobals, ["__class__"], builtinsNs)
def SupD.at_ (K : PySem.W.Frag) (d : SupD) : Addr := He.ma K (He.ga K d.x) "__init__"
def oexB (K : PySem.W.Frag) (C : Addr) : Bool := (match K.lookup C with
  | some ⟨.type "type", _, .cls cd, sl⟩ => (match cd.mro, sl.toList with
    | .ref C' :: bm, [_, _, _, _, some (.builtin n), _] => decide (C' = C) && (decide (n = "ValueError.__new__") && (cd.hasDict && (!cd.hasDel && PySem.HandSPX.refsVE bm)))
    | _, _ => false)
  | _ => false) && (decide (PySem.W.findIn K (.ref C) "__setattr__" = some (some (.builtin "object.__setattr__"))) && (decide (PySem.W.subIn K (.ref C) (.type "BaseException") = some true) && (decide (PySem.W.typeIn K (.ref C) = some (.type "type")) && PySem.W.keepIn K (.ref C))))
theorem oexB_ok {K : PySem.W.Frag} {C : Addr} (h : oexB K C = true) : OexC K C := by
  unfold oexB at h
  obtain ⟨h1, h⟩ := He.ba h
  obtain ⟨h2, h⟩ := He.ba h
  obtain ⟨h3, h⟩ := He.ba h
  obtain ⟨h4, h5⟩ := He.ba h
  refine ⟨?_, of_decide_eq_true h2, of_decide_eq_true h3, of_decide_eq_true h4, h5⟩
  split at h1
  · rename_i dd cd sl ho
    split at h1
    · rename_i C' bm k0 k1 k2 k3 n k5 hm hs
      obtain ⟨a1, h1⟩ := He.ba h1
      obtain ⟨a2, h1⟩ := He.ba h1
      obtain ⟨a3, h1⟩ := He.ba h1
      obtain ⟨a4, a5⟩ := He.ba h1
      have a1 := of_decide_eq_true a1
      have a2 := of_decide_eq_true a2
      subst a1 a2
      obtain ⟨nm, bs, mro, ns, qn, hd, sn, sub, ab, col, del⟩ := cd
      dsimp only at hm a3 a4
      have a4 : del = false := by simpa using a4
      subst hm a3 a4
      have hsl : sl = #[k0, k1, k2, k3, some (.builtin "ValueError.__new__"), k5] := by
        apply Array.ext'
        rw [hs]
      subst hsl
      exact ⟨_, _, _, _, _, _, _, _, _, _, _, _, _, _, _, ho, a5⟩
    · cases h1
  · cases h1
def supB (K : PySem.W.Frag) (file : Str) (x fl qual : Str) : Bool := (match K.lookup (He.ma K (He.ga K x) "__init__") with
  | some ⟨_, _, .func fd, _⟩ => (match fd.closure, fd.code with
    | [(_, cc)], .ref cda => (match fd.defaults with | .none => true | _ => false) && (PySem.W.codeIn K (.ref cda) qual && ((match K.lookup cc with
      | some ⟨_, _, .cell (some (.ref D)), _⟩ => decide (D = He.ga K x)
      | _ => false) && (match K.lookup cda with
      | some ⟨_, _, .fields vs, _⟩ => (match (vs[2]? : Option Value) with
        | some (Value.str f _) => file == f
        | _ => false)
      | _ => false)))
    | _, _ => false)
  | _ => false) && (oexB K (He.ga K x) && (decide (PySem.W.mroIn K (He.ga K x) (.ref (He.ga K x)) = some true) && (decide (PySem.W.nsIn K cStatics "thirdparty.any" = some none) && (decide (PySem.W.ks_superIn K (He.ga K x) (He.ga K x) "__init__" = some (some (.builtin "ValueError.__init__"))) &&
    (decide (PySem.W.subIn K (.ref (He.ga K x)) (.type "ValueError") = some true) && (decide (PySem.W.findIn K (.ref (He.ga K x)) fl = some none) && (decide (PySem.W.findIn K (.ref (He.ga K x)) "__init__" = some (some (.ref (He.ma K (He.ga K x) "__init__")))) &&
    (decide (PySem.W.typeIn K (.ref (He.ma K (He.ga K x) "__init__")) = some (.type "function")) && He.eqO (PySem.W.nsIn K mainGlobals "super") (some none)))))))))
theorem sup_of {P : Program} {K : PySem.W.Frag} {d : SupD} {file : Str} (e : fnS K (d.at_ K) = d.val) (h : supB K file d.x d.fl d.qual = true) (hf : (P.main.file : Str) = file) (ht : (P.main.scope.names.lookup ("super" : Str)).isSome = false) :
    ∃ (cda cc : Addr) (kV doc pm ct oc : Value) (an od : Option Addr) (osl : Array (Option Value)), K.lookup (d.at_ K) = some ⟨oc, od, .func (PySem.W.ksFn "__init__" d.qual d.params d.body d.scope .none kV doc pm an (.ref cda) ct cc), osl⟩ ∧
      PySem.W.codeIn K (.ref cda) d.qual = true ∧ SupC P K (He.ga K d.x) cc cda ∧ PySem.W.findIn K (.ref (He.ga K d.x)) d.fl = some none ∧ PySem.W.findIn K (.ref (He.ga K d.x)) "__init__" = some (some (.ref (d.at_ K))) ∧ PySem.W.typeIn K (.ref (d.at_ K)) = some (.type "function") ∧
      PySem.W.nsIn K mainGlobals "super" = some none := by
  unfold supB at h
  obtain ⟨h1, h⟩ := He.ba h
  obtain ⟨h2, h⟩ := He.ba h
  obtain ⟨h3, h⟩ := He.ba h
  obtain ⟨h4, h⟩ := He.ba h
  obtain ⟨h5, h⟩ := He.ba h
  obtain ⟨h6, h⟩ := He.ba h
  obtain ⟨h7, h⟩ := He.ba h
  obtain ⟨h8, h⟩ := He.ba h
  obtain ⟨h9, h10⟩ := He.ba h
  unfold fnS at e
  unfold SupD.at_ at e ⊢
  cases q : K.lookup (He.ma K (He.ga K d.x) "__init__") with
  | none => rw [q] at e; cases e
  | some o =>
    obtain ⟨oc, od, dt, osl⟩ := o
    rw [q] at e h1
    cases dt with
    | func fd =>
      obtain ⟨n1, n2, n3, n4, n5, n6, n7, n8, n9, n10, n11, n12, n13, n14, n15⟩ := fd
      have e2 : (some (n1, n2, n3, n4, n5, n6, n7.map (·.1), n15) : FnS) = some (("__init__" : Str), d.qual, d.params, FuncBody.stmts d.body, d.scope, mainGlobals, [("__class__" : Str)], builtinsNs) := e
      simp only [Option.some.injEq, Prod.mk.injEq] at e2
      obtain ⟨g1, g2, g3, g4, g5, g6, g7, g8⟩ := e2
      subst g1 g2 g3 g4 g5 g6 g8
      dsimp only at h1
      split at h1
      · rename_i k cc cda
        simp only [List.map_cons, List.map_nil, List.cons.injEq, and_true] at g7
        subst g7
        obtain ⟨c0, h1⟩ := He.ba h1
        obtain ⟨c1, h1⟩ := He.ba h1
        obtain ⟨c2, c3⟩ := He.ba h1
        have e8 : n8 = .none := by
          cases n8 <;> first | rfl | cases c0
        subst e8
        refine ⟨cda, cc, n9, n10, n11, n14, oc, n12, od, osl, rfl, c1, ⟨oexB_ok h2, ?_, ?_, of_decide_eq_true h3, ht, of_decide_eq_true h4, of_decide_eq_true h5, of_decide_eq_true h6⟩, of_decide_eq_true h7, of_decide_eq_true h8, of_decide_eq_true h9, He.eqO_ok h10⟩
        · split at c2
          · rename_i D sl ho
            have c2 := of_decide_eq_true c2
            subst c2
            exact ⟨_, _, _, ho⟩
          · cases c2
        · split at c3
          · rename_i vs sl ho
            split at c3
            · rename_i f tf hv
              exact ⟨_, _, vs, _, f, tf, ho, hv, by rw [hf]; exact c3⟩
            · cases c3
          · cases c3
      · cases h1
    | _ => cases e
/-! the hook -/
structure SaysS (fa : List He.Fa) (fn : List He5.DefA) (fs : List SupD) (ex : PySem.W.Frag → Bool) (K : PySem.W.Frag) : Prop extends SaysK fa fn ex K where
  sup : (fs.map fun d => fnS K (d.at_ K)) = fs.map SupD.val
def obsS (n : Nat) (fa : List He.Fa) (fn : List He5.DefA) (fs : List SupD) (ex : PySem.W.Frag → Bool) (g : Addr → Option Obj) : (He.AlD × Bool) × List FnS := (obsK n fa fn ex g, fs.map fun d => fnS (He.frG g (He5.asA g n)) (d.at_ (He.frG g (He5.asA g n))))
def hookS (n : Nat) (fa : List He.Fa) (fn : List He5.DefA) (fs : List SupD) (ex : PySem.W.Frag → Bool) : PySem.W.Hook where
  α := (He.AlD × Bool) × List FnS
  obs := fun s => obsS n fa fn fs ex s.heap.get?
  val := fun _ => ((He5.valA fn, true), fs.map SupD.val)
  says := fun _ h => ∃ K : PySem.W.Frag, K.In h ∧ SaysS fa fn fs ex K
  of := fun _ _ e => ⟨_, He.frG_in, ⟨congrArg (fun z : (He.AlD × Bool) × List FnS => z.1.1) e, congrArg (fun z : (He.AlD × Bool) × List FnS => z.1.2) e⟩, congrArg (fun z : (He.AlD × Bool) × List FnS => z.2) e⟩
  keeps := fun _ _ _ ⟨K, hK, c⟩ k => ⟨K, PySem.W.Frag.In.keeps hK k, c⟩
theorem obsS_eq {n : Nat} {fa : List He.Fa} {fn : List He5.DefA} {fs : List SupD} {ex : PySem.W.Frag → Bool} {g : Addr → Option Obj} {s : Shared} (h : ∀ a, g a = s.heap.get? a) : obsS n fa fn fs ex g = (hookS n fa fn fs ex).obs s := by
  have e : g = s.heap.get? := funext h
  rw [e] <;> rfl
theorem SaysS.at_ {fa : List He.Fa} {fn : List He5.DefA} {fs : List SupD} {ex : PySem.W.Frag → Bool} {K : PySem.W.Frag} (c : SaysS fa fn fs ex K) (i : Nat) {d : SupD} (h : fs[i]? = some d := by rfl) : fnS K (d.at_ K) = d.val := by
  have e := congrArg (fun l => l[i]?) c.sup
  simp only [List.getElem?_map, h, Option.map_some, Option.some.injEq] at e
  exact e
end FL

/-! FX6: shapes for the printed derivations. -/
namespace FL
open PySem L2
def catchL (x : Str) (l : List Str) : Str → Option Bool := fun cc => if cc = x then some true else if l.contains cc = true then some false else none
theorem catchL_eq {x cc : Str} {l : List Str} (h : catchL x l cc = some true) : x = cc := by
  unfold catchL at h
  by_cases e : cc = x
  · exact e.symm
  · rw [if_neg e] at h
    split at h <;> cases h
def AllF (K : PySem.W.Frag) (cv : Value) : List Str → Prop
  | [] => True
  | y :: l => PySem.W.exmOne K (.ref (He.ga K y)) cv = some false ∧ AllF K cv l
theorem catchL_ok {K : PySem.W.Frag} {x : Str} {l : List Str} {cv : Value} (h : PySem.W.exmOne K (.ref (He.ga K x)) cv = some true) (hf : AllF K cv l) : ∀ cc b, catchL x l cc = some b → PySem.W.exmOne K (.ref (He.ga K cc)) cv = some b := by
  intro cc b e
  unfold catchL at e
  by_cases e2 : cc = x
  · rw [if_pos e2] at e; cases e; subst e2; exact h
  · rw [if_neg e2] at e
    by_cases e3 : l.contains cc = true
    · rw [if_pos e3] at e
      cases e
      clear e2
      induction l with
      | nil => cases e3
      | cons y l ih =>
        rw [List.contains_cons, Bool.or_eq_true] at e3
        rcases e3 with e3 | e3
        · rw [beq_iff_eq.mp e3]; exact hf.1
        · exact ih hf.2 e3
    · rw [if_neg e3] at e; cases e
theorem hd_cons {γh γ' τ ρ β : Type} {X : Cx} {c : C2 τ ρ β} {Gh : Addr → EnvT γh} {G' : EnvT γ'} {n : Str} {x : Str} {cv : Value} {kf : Str → Option Bool} {hf : Str → List (Str × V) × γh → (γ' → Xc (Sum γ' τ)) → Xc (Sum γ' τ)} {b₀ : Stmt} {su : List Stmt} {np hp : Pos} {hs : List ExceptHandler} {hm : List (Hd γh γ' τ)} {l : List (Value × TsA)} (hc : Names X x cv)
    (hx : ∀ cc b, kf cc = some b → PySem.W.exmOne X.K (.ref (He.ga X.K cc)) cv = some b) (hh : ∀ a oe d cc pn g0, kf cc = some true → Zc (.ref (He.ga X.K cc)) (some d) oe → (∃ vs, oe.data = .fields vs) → FSs (X.suite a ((a, oe) :: pn)) (cT c c.M c.W g0) (wfd d (Gh a)) (b₀ :: su) G' (hf cc))
    (r : HdF X c Gh G' n hs hm l) : HdF X c Gh G' n (.ExceptHandler (some (.Name x np)) (some n) (b₀ :: su) hp :: hs) (⟨kf, hf⟩ :: hm) ((cv, tsF X c Gh G' ⟨kf, hf⟩) :: l) := .cons hc hx hh r
def supE (st : Stmt) : Expr := match defBody st with
  | .Expr (.Call _ (e :: _) _ _) _ :: _ => e
  | _ => .Constant .none 0 ⟨0, 0, 0, 0⟩
theorem ob_ref {C : Str} {ns : List Str} {α : Type} [Rps α] {K : PySem.W.Frag} {F : Hp} {v : V} {a : Ob C ns α} (h : Rp.is K F v a) : ∃ p, v = .ref p := by
  obtain ⟨p, _, _, e, _⟩ := h
  exact ⟨p, e⟩
/-- == of two tuples of own objects -/
theorem fe_eqTO {X : Cx} {c : C0} {γ : Type} {G : EnvT γ} {a b : Expr} {pos : Pos} {k j : Nat} {C : Str} {ns : List Str} {α : Type} [Rps α] [InjsR α] {ps : List Str} {mm : Ob C ns α × Ob C ns α × Unit → Xc Bool} {fa fb : γ → Xc (Tu (Ob C ns α))}
    (D : Dm X.prog X.w X.K X.mg X.base C "__eq__" ps j (spF X.K (rtF Bool) mm)) (hrf : ∀ a r, mm (a, (a, ())) = .ok r → r = true) (tk : Takes X c.W) (hr : Room k X.A) (ha : FE X c G a fa) (hb : FE X c G b fb) (hjk : j + 1 ≤ k := by decide) :
    FE X c G (.Compare a [.Eq] [b] pos) (fun g => (fa g).bind fun x => (fb g).bind fun y => nerX (eqLX (fun a b => mm (a, (b, ()))) (Tu.l x) (Tu.l y))) :=
  fe_rcX (m := fun x y : Tu (Ob C ns α) => eqLX (fun a b => mm (a, (b, ()))) (Tu.l x) (Tu.l y)) (rcX_tup ((rcX_ob D tk).eqX hrf ob_ref)) hr ha hb hjk
section
variable {X : Cx} {c : C0} {γ : Type} {G : EnvT γ} {a b : Expr} {pos : Pos}
theorem ft_inU {fa : γ → Xc Str} {fb : γ → Xc (Tu Str)} (ha : FE X c G a fa) (hb : FE X c G b fb) (hm : behindInMarks .In b = false := by rfl) : FT X c G (.Compare a [.In] [b] pos) (fun g => (fa g).bind fun i => (fb g).bind fun j => Xc.ok (decide (i ∈ Tu.l j))) :=
  twoT (fun h1 h2 => pt_cmpR op_in_seq h1 h2 hm) ha hb fun {F H x y i j Q E} s r1 r2 p => by
    obtain ⟨q, xs, e, hq, z, al⟩ := r2
    subst e
    have r1 := r1.1
    subst r1
    have e2 := al_strs_eq al
    subst e2
    exact ⟨q, _, rfl, .inr (Same.seqT s hq), rfl, flat_strs, by rw [inV_strs]; exact ⟨_, rfl, p.ret s⟩⟩
theorem ft_ninU {fa : γ → Xc Str} {fb : γ → Xc (Tu Str)} (ha : FE X c G a fa) (hb : FE X c G b fb) (hm : behindInMarks .NotIn b = false := by rfl) : FT X c G (.Compare a [.NotIn] [b] pos) (fun g => (fa g).bind fun i => (fb g).bind fun j => Xc.ok (!decide (i ∈ Tu.l j))) :=
  twoT (fun h1 h2 => pt_cmpR op_notIn_seq h1 h2 hm) ha hb fun {F H x y i j Q E} s r1 r2 p => by
    obtain ⟨q, xs, e, hq, z, al⟩ := r2
    subst e
    have r1 := r1.1
    subst r1
    have e2 := al_strs_eq al
    subst e2
    exact ⟨q, _, rfl, .inr (Same.seqT s hq), rfl, flat_strs, by rw [inV_strs]; exact ⟨_, rfl, p.ret s⟩⟩
end
end FL

/-! PL1: plain laws of the mirrors' words. -/
namespace FL
open PySem L2
theorem size_ge : 1000000 ≤ sizeLine := by rw [sizeLine_eq]; decide
theorem mulX_r {i j : Int} (h : j.natAbs < 2 ^ 64) : mulX i j = .ok (i * j) := by unfold mulX; rw [if_pos (.inr (.inl h))]
theorem mulX_l {i j : Int} (h : i.natAbs < 2 ^ 64) : mulX i j = .ok (i * j) := by unfold mulX; rw [if_pos (.inl h)]
theorem log2_of {n b : Nat} (h : n < 2 ^ b) (h0 : 0 < b) : n.log2 < b := by
  by_cases e : n = 0
  · subst e; simpa using h0
  · exact (Nat.log2_lt e).2 h
theorem mulX_b {i j : Int} {a b : Nat} (hi : i.natAbs < 2 ^ a) (hj : j.natAbs < 2 ^ b) (h : a + b ≤ 1000000) (ha : 0 < a := by decide) (hb : 0 < b := by decide) : mulX i j = .ok (i * j) := by
  unfold mulX
  have := log2_of hi ha
  have := log2_of hj hb
  rw [if_pos (.inr (.inr (by omega)))]
theorem fdvX_b {i j : Int} {b : Nat} (h : j ≠ 0) (hj : j.natAbs < 2 ^ b) (hb : b ≤ 9000) (h0 : 0 < b := by decide) : fdvX i j = .ok (i.fdiv j) := by
  unfold fdvX
  have := log2_of hj h0
  rw [if_pos ⟨h, by omega⟩]
theorem modX_b {i j : Int} (h : j ≠ 0) : modX i j = .ok (i.fmod j) := by unfold modX; rw [if_pos h]
theorem powX_b {i j : Int} (h : 0 ≤ j ∧ j ≤ 1000000 ∧ i.natAbs < 2 ^ 64) : powX i j = .ok (i ^ j.toNat) := by unfold powX; rw [if_pos h]
theorem rngX_b {i j : Int} (hi : 0 ≤ i) (hj : j ≤ 1000000) (hi2 : i ≤ 1000000) (hj0 : -1000000 ≤ j) : rngX i j = .ok (rangeL i j) := by
  have := size_ge
  unfold rngX
  rw [if_pos ⟨by omega, by omega, by omega, by omega, by omega⟩]
theorem appX_b {α : Type} {l : List α} {a : α} (h : l.length < 1000000) : appX l a = .ok (l ++ [a]) := by
  have := size_ge
  unfold appX
  rw [if_pos (by omega)]
theorem szX_b {α : Type} {l : List α} (h : l.length ≤ 1000000) : szX l = .ok l := by
  have := size_ge
  unfold szX
  rw [if_pos (by omega)]
theorem atI_n {α : Type} {l : List α} {i : Int} {n : Nat} {a : α} (hi : i = n) (h : l[n]? = some a) : atI l i = some a := by
  subst hi
  exact atI_nat h
theorem getX_b {α : Type} {l : List α} {i : Int} {a : α} (h0 : 0 ≤ i) (h : l[i.toNat]? = some a) : getX l i = .ok a := by
  unfold getX
  rw [atI_n (n := i.toNat) (by omega) h]
theorem getX_ex {α : Type} {l : List α} {i : Int} (h0 : 0 ≤ i) (h : i < l.length) : ∃ a, getX l i = .ok a ∧ a ∈ l ∧ l[i.toNat]? = some a := by
  have h' : i.toNat < l.length := by omega
  exact ⟨l[i.toNat], getX_b h0 (List.getElem?_eq_getElem h'), List.getElem_mem h', List.getElem?_eq_getElem h'⟩
theorem setX_b {α : Type} {l : List α} {i : Int} {a : α} (h0 : 0 ≤ i) (h : i < l.length) : setX l i a = .ok (l.set i.toNat a) := by
  unfold setX
  rw [show ixN l.length i = some i.toNat from by
    unfold ixN
    rw [if_pos h0, if_pos h]]
theorem someX_ok {α : Type} (a : α) : someX (some a) = .ok a := rfl
theorem bind_okI {α β : Type} {m : Xc α} {k : α → Xc β} {a : α} {r : Xc β} (h : m = .ok a) (h2 : k a = r) : m.bind k = r := by rw [h]; exact h2
theorem foldX_inv {γ α : Type} {f : γ → α → Xc γ} (P : γ → Prop) : ∀ {l : List α} {g : γ}, P g → (∀ g a, a ∈ l → P g → ∃ g', f g a = .ok g' ∧ P g') → ∃ g', foldX f l g = .ok g' ∧ P g'
  | [], g, h, _ => ⟨g, rfl, h⟩
  | a :: l, g, h, hs => by
    obtain ⟨g1, e1, h1⟩ := hs g a List.mem_cons_self h
    obtain ⟨g2, e2, h2⟩ := foldX_inv (f := f) P (l := l) h1 fun g a m => hs g a (List.mem_cons_of_mem _ m)
    exact ⟨g2, by show (f g a).bind _ = _; rw [e1]; exact e2, h2⟩
theorem foldX_ix {γ α : Type} {f : γ → α → Xc γ} (P : Nat → γ → Prop) {l : List α} {g : γ} (h : P 0 g) (hs : ∀ i g a, l[i]? = some a → P i g → ∃ g', f g a = .ok g' ∧ P (i + 1) g') : ∃ g', foldX f l g = .ok g' ∧ P l.length g' := by
  have go : ∀ (l' : List α) (k : Nat) (g : γ), (∀ i, l'[i]? = l[k + i]?) → P k g → ∃ g', foldX f l' g = .ok g' ∧ P (k + l'.length) g' := by
    intro l'
    induction l' with
    | nil => intro k g _ h; exact ⟨g, rfl, h⟩
    | cons a l' ih =>
      intro k g he h
      obtain ⟨g1, e1, h1⟩ := hs k g a (by have := he 0; simpa using this.symm) h
      obtain ⟨g2, e2, h2⟩ := ih (k + 1) g1 (fun i => by have := he (i + 1); simp only [List.getElem?_cons_succ] at this; rw [this]; congr 1; omega) h1
      exact ⟨g2, by show (f g a).bind _ = _; rw [e1]; exact e2, by rw [List.length_cons, show k + (l'.length + 1) = k + 1 + l'.length by omega]; exact h2⟩
  obtain ⟨g', e, h'⟩ := go l 0 g (fun i => by rw [Nat.zero_add]) h
  exact ⟨g', e, by simpa using h'⟩
/-- a loop whose turns either go on or return r -/
theorem forX_ct {γ α ρ : Type} {f : γ → α → Xc (Lp γ ρ)} (P : γ → Prop) : ∀ {l : List α} {g : γ}, P g → (∀ g a, a ∈ l → P g → ∃ g', f g a = .ok (.ct g') ∧ P g') → ∃ g', forX f l g = .ok (.inl g') ∧ P g'
  | [], g, h, _ => ⟨g, rfl, h⟩
  | a :: l, g, h, hs => by
    obtain ⟨g1, e1, h1⟩ := hs g a List.mem_cons_self h
    obtain ⟨g2, e2, h2⟩ := forX_ct (f := f) P (l := l) h1 fun g a m => hs g a (List.mem_cons_of_mem _ m)
    exact ⟨g2, by show (f g a).bind _ = _; rw [e1]; exact e2, h2⟩
theorem forX_cons {γ α ρ : Type} {f : γ → α → Xc (Lp γ ρ)} {a : α} {l : List α} {g : γ} : forX f (a :: l) g = (f g a).bind fun t => match t with
    | .ct g' => forX f l g'
    | .bk g' => .ok (.inl g')
    | .rt r => .ok (.inr r) := rfl
theorem forK_inl {γ ρ τ : Type} {g : γ} {rt : ρ → τ} {k : γ → Xc τ} : forK (.ok (.inl g)) rt k = k g := rfl
theorem forK_inr {γ ρ τ : Type} {r : ρ} {rt : ρ → τ} {k : γ → Xc τ} : forK (.ok (.inr r)) rt k = .ok (rt r) := rfl
theorem compX_map {α β : Type} {t : α → Xc Bool} {f : α → Xc β} {h : α → β} : ∀ {l : List α}, (∀ a ∈ l, t a = .ok true ∧ f a = .ok (h a)) → compX t f l = .ok (l.map h)
  | [], _ => rfl
  | a :: l, hs => by
    obtain ⟨h1, h2⟩ := hs a List.mem_cons_self
    have ih := compX_map (t := t) (f := f) (h := h) (l := l) fun a m => hs a (List.mem_cons_of_mem _ m)
    simp only [compX, h1, h2, nx, bind_ok, if_true, ih, List.map_cons]
theorem compX_fil {α : Type} {t : α → Xc Bool} {p : α → Bool} : ∀ {l : List α}, (∀ a ∈ l, t a = .ok (p a)) → compX t (fun a => Xc.ok a) l = .ok (l.filter p)
  | [], _ => rfl
  | a :: l, hs => by
    have h1 := hs a List.mem_cons_self
    have ih := compX_fil (t := t) (p := p) (l := l) fun a m => hs a (List.mem_cons_of_mem _ m)
    simp only [compX, h1, nx, bind_ok, ih, List.filter_cons]
    cases p a <;> simp [bind_ok]
theorem rangeL_mem {lo hi a : Int} (h : a ∈ rangeL lo hi) : lo ≤ a ∧ a < hi := by
  unfold rangeL at h
  obtain ⟨i, hi', rfl⟩ := List.mem_map.mp h
  have := List.mem_range.mp hi'
  omega
end FL

/-! PL2: what a mirror gives, as a wish. -/
namespace FL
open PySem L2
def Ok {α : Type} (m : Xc α) (Q : α → Prop) : Prop := ∃ a, m = .ok a ∧ Q a
theorem ok_ok {α : Type} {a : α} {Q : α → Prop} : Ok (.ok a) Q ↔ Q a := ⟨fun ⟨b, e, h⟩ => by cases e; exact h, fun h => ⟨a, rfl, h⟩⟩
theorem ok_bind {α β : Type} {m : Xc α} {k : α → Xc β} {Q : β → Prop} : Ok (m.bind k) Q ↔ Ok m fun a => Ok (k a) Q := by
  constructor
  · rintro ⟨b, e, h⟩
    obtain ⟨a, e1, e2⟩ := bind_eq_ok.mp e
    exact ⟨a, e1, b, e2, h⟩
  · rintro ⟨a, e1, b, e2, h⟩
    exact ⟨b, by rw [e1]; exact e2, h⟩
theorem Ok.imp {α : Type} {m : Xc α} {Q Q' : α → Prop} (h : Ok m Q) (i : ∀ a, Q a → Q' a) : Ok m Q' := let ⟨a, e, q⟩ := h; ⟨a, e, i a q⟩
theorem Ok.of {α : Type} {m : Xc α} {a : α} {Q : α → Prop} (h : m = .ok a) (q : Q a) : Ok m Q := ⟨a, h, q⟩
theorem ok_of {α : Type} {m : Xc α} {a : α} {Q : α → Prop} (h : m = .ok a) : Ok m Q ↔ Q a := by rw [h, ok_ok]
theorem ok_ite {α : Type} {b : Bool} {A B : Xc α} {Q : α → Prop} : Ok (if b = true then A else B) Q ↔ (b = true → Ok A Q) ∧ (b = false → Ok B Q) := by
  cases b <;> simp
theorem ok_mulr {i j : Int} {Q : Int → Prop} (h : j.natAbs < 2 ^ 64) : Ok (mulX i j) Q ↔ Q (i * j) := ok_of (mulX_r h)
theorem ok_mull {i j : Int} {Q : Int → Prop} (h : i.natAbs < 2 ^ 64) : Ok (mulX i j) Q ↔ Q (i * j) := ok_of (mulX_l h)
theorem ok_mod {i j : Int} {Q : Int → Prop} (h : j ≠ 0) : Ok (modX i j) Q ↔ Q (i.fmod j) := ok_of (modX_b h)
theorem ok_fdv {i j : Int} {Q : Int → Prop} (h : j ≠ 0) (h2 : j.natAbs < 2 ^ 64) : Ok (fdvX i j) Q ↔ Q (i.fdiv j) := ok_of (fdvX_b h h2 (by decide))
theorem ok_pow {i j : Int} {Q : Int → Prop} (h : 0 ≤ j ∧ j ≤ 1000000 ∧ i.natAbs < 2 ^ 64) : Ok (powX i j) Q ↔ Q (i ^ j.toNat) := ok_of (powX_b h)
theorem ok_rng {i j : Int} {Q : List Int → Prop} (h : 0 ≤ i ∧ j ≤ 1000000 ∧ i ≤ 1000000 ∧ -1000000 ≤ j) : Ok (rngX i j) Q ↔ Q (rangeL i j) := ok_of (rngX_b h.1 h.2.1 h.2.2.1 h.2.2.2)
theorem ok_app {α : Type} {l : List α} {a : α} {Q : List α → Prop} (h : l.length < 1000000) : Ok (appX l a) Q ↔ Q (l ++ [a]) := ok_of (appX_b h)
theorem ok_fold {γ α : Type} {f : γ → α → Xc γ} {l : List α} {g : γ} {Q : γ → Prop} (P : γ → Prop) (h : P g) (hs : ∀ g a, a ∈ l → P g → Ok (f g a) P) (hq : ∀ g, P g → Q g) : Ok (foldX f l g) Q := by
  obtain ⟨g', e, p⟩ := foldX_inv (f := f) P h hs
  exact ⟨g', e, hq g' p⟩
theorem ok_foldI {γ α : Type} {f : γ → α → Xc γ} {l : List α} {g : γ} {Q : γ → Prop} (P : Nat → γ → Prop) (h : P 0 g) (hs : ∀ i g a, l[i]? = some a → P i g → Ok (f g a) (P (i + 1))) (hq : ∀ g, P l.length g → Q g) : Ok (foldX f l g) Q := by
  obtain ⟨g', e, p⟩ := foldX_ix (f := f) P h hs
  exact ⟨g', e, hq g' p⟩
theorem len_app {α : Type} {l : List α} {a : α} : (l ++ [a]).length = l.length + 1 := by simp
end FL

/-! QG: greatest common divisors of lists, lowest terms of points. -/
namespace FL
open PySem L2
def gcdL (l : List Int) (s : Int) : Nat := l.foldl (fun g a => Nat.gcd g a.natAbs) s.natAbs
theorem gcdF_dvd : ∀ (l : List Int) (g : Nat), l.foldl (fun g a => Nat.gcd g a.natAbs) g ∣ g ∧ ∀ a ∈ l, l.foldl (fun g a => Nat.gcd g a.natAbs) g ∣ a.natAbs
  | [], g => ⟨Nat.dvd_refl _, fun a m => by cases m⟩
  | x :: l, g => by
    obtain ⟨h1, h2⟩ := gcdF_dvd l (Nat.gcd g x.natAbs)
    refine ⟨Nat.dvd_trans h1 (Nat.gcd_dvd_left _ _), fun a m => ?_⟩
    rcases List.mem_cons.mp m with e | m
    · subst e; exact Nat.dvd_trans h1 (Nat.gcd_dvd_right _ _)
    · exact h2 a m
theorem dvd_gcdF : ∀ (l : List Int) (g d : Nat), d ∣ g → (∀ a ∈ l, d ∣ a.natAbs) → d ∣ l.foldl (fun g a => Nat.gcd g a.natAbs) g
  | [], g, d, h, _ => h
  | x :: l, g, d, h, hs => dvd_gcdF l _ d (Nat.dvd_gcd h (hs x (by simp))) fun a m => hs a (by simp [m])
theorem gcdL_s (l : List Int) (s : Int) : gcdL l s ∣ s.natAbs := (gcdF_dvd l _).1
theorem gcdL_a (l : List Int) (s : Int) {a : Int} (h : a ∈ l) : gcdL l s ∣ a.natAbs := (gcdF_dvd l _).2 a h
theorem dvd_gcdL {l : List Int} {s : Int} {d : Nat} (h : d ∣ s.natAbs) (hs : ∀ a ∈ l, d ∣ a.natAbs) : d ∣ gcdL l s := dvd_gcdF l _ d h hs
theorem gcdL_nil (s : Int) : gcdL [] s = s.natAbs := rfl
theorem gcdL_eq_of {l l' : List Int} {s s' : Int} (h : ∀ d : Nat, (d ∣ s.natAbs ∧ ∀ a ∈ l, d ∣ a.natAbs) ↔ (d ∣ s'.natAbs ∧ ∀ a ∈ l', d ∣ a.natAbs)) : gcdL l s = gcdL l' s' := by
  apply Nat.dvd_antisymm
  · have := (h (gcdL l s)).mp ⟨gcdL_s _ _, fun a m => gcdL_a _ _ m⟩
    exact dvd_gcdL this.1 this.2
  · have := (h (gcdL l' s')).mpr ⟨gcdL_s _ _, fun a m => gcdL_a _ _ m⟩
    exact dvd_gcdL this.1 this.2
theorem gcdF_mul (c : Int) : ∀ (l : List Int) (g : Nat), (l.map (c * ·)).foldl (fun g a => Nat.gcd g a.natAbs) (c.natAbs * g) = c.natAbs * l.foldl (fun g a => Nat.gcd g a.natAbs) g
  | [], g => rfl
  | x :: l, g => by
    simp only [List.map_cons, List.foldl_cons]
    rw [Int.natAbs_mul, Nat.gcd_mul_left]
    exact gcdF_mul c l _
theorem gcdL_mul (c : Int) (l : List Int) (s : Int) : gcdL (l.map (c * ·)) (c * s) = c.natAbs * gcdL l s := by
  unfold gcdL
  rw [Int.natAbs_mul]
  exact gcdF_mul c l _
theorem gcdL_le {l : List Int} {s : Int} (h : s ≠ 0) : gcdL l s ≤ s.natAbs ∧ 0 < gcdL l s := by
  have h1 : 0 < s.natAbs := by omega
  exact ⟨Nat.le_of_dvd h1 (gcdL_s l s), Nat.pos_of_dvd_of_pos (gcdL_s l s) h1⟩
/-- the divisor of lowest terms, with the sign of the bottom -/
def sgd (l : List Int) (b : Int) : Int := if b < 0 then -(gcdL l b : Int) else (gcdL l b : Int)
def pt (l : List Int) (b : Int) : Tu Int × Int := (tu (l.map fun t => t.fdiv (sgd l b)), b.fdiv (sgd l b))
structure Low (p : Tu Int × Int) : Prop where
  pos : 1 ≤ p.2
  cop : gcdL (Tu.l p.1) p.2 = 1
theorem sgd_ne {l : List Int} {b : Int} (h : b ≠ 0) : sgd l b ≠ 0 := by
  have := (gcdL_le (l := l) h).2
  unfold sgd
  split <;> omega
theorem sgd_abs (l : List Int) (b : Int) : (sgd l b).natAbs = gcdL l b := by
  unfold sgd
  split <;> omega
theorem pt_of_mul {c y : Int} {xs : List Int} (hc : c ≠ 0) (hy : 1 ≤ y) (h1 : gcdL xs y = 1) : pt (xs.map (c * ·)) (c * y) = (tu xs, y) := by
  have e : sgd (xs.map (c * ·)) (c * y) = c := by
    unfold sgd
    rw [gcdL_mul, h1]
    by_cases hn : c < 0
    · rw [if_pos (Int.mul_neg_of_neg_of_pos hn (by omega))]; omega
    · rw [if_neg (by have := Int.mul_nonneg (show 0 ≤ c by omega) (show 0 ≤ y by omega); omega)]; omega
  unfold pt
  rw [e, Int.mul_fdiv_cancel_left _ hc, List.map_map]
  congr 1
  show tu (xs.map _) = tu xs
  congr 1
  conv => rhs; rw [← List.map_id xs]
  apply List.map_congr_left
  intro x _
  show (c * x).fdiv c = x
  rw [Int.mul_fdiv_cancel_left _ hc]
theorem pt_split {l : List Int} {b : Int} (hb : b ≠ 0) : ∃ (c : Int) (xs : List Int) (y : Int), c ≠ 0 ∧ l = xs.map (c * ·) ∧ b = c * y ∧ 1 ≤ y ∧ gcdL xs y = 1 ∧ pt l b = (tu xs, y) := by
  have hc := sgd_ne (l := l) hb
  have ha := sgd_abs l b
  have hdb : sgd l b ∣ b := Int.natAbs_dvd_natAbs.mp (by rw [ha]; exact gcdL_s l b)
  have hda : ∀ a ∈ l, sgd l b ∣ a := fun a m => Int.natAbs_dvd_natAbs.mp (by rw [ha]; exact gcdL_a l b m)
  have el : l = (l.map fun t => t.fdiv (sgd l b)).map (sgd l b * ·) := by
    rw [List.map_map]
    conv => lhs; rw [← List.map_id l]
    apply List.map_congr_left
    intro x m
    obtain ⟨z, hz⟩ := hda x m
    show x = sgd l b * x.fdiv (sgd l b)
    rw [hz, Int.mul_fdiv_cancel_left _ hc]
  have eb : b = sgd l b * b.fdiv (sgd l b) := by
    obtain ⟨z, hz⟩ := hdb
    generalize sgd l b = c at *
    rw [hz, Int.mul_fdiv_cancel_left _ hc]
  have pos : 1 ≤ b.fdiv (sgd l b) := by
    obtain ⟨z, hz⟩ := hdb
    have hs : 0 < sgd l b ↔ 0 < b := by
      have := (gcdL_le (l := l) hb).2
      unfold sgd
      split <;> omega
    generalize sgd l b = c at *
    subst hz
    rw [Int.mul_fdiv_cancel_left _ hc]
    by_cases hcp : 0 < c
    · have h1 := hs.mp hcp
      by_cases q : 0 < z
      · exact q
      · have h2 := Int.mul_le_mul_of_nonneg_left (show z ≤ 0 by omega) (show 0 ≤ c by omega)
        rw [Int.mul_zero] at h2
        omega
    · have h1 : ¬ 0 < c * z := fun q => hcp (hs.mpr q)
      have h2 : c < 0 := by omega
      have hz0 : z ≠ 0 := fun q => hb (by rw [q, Int.mul_zero])
      by_cases q : 0 < z
      · exact q
      · have := Int.mul_pos_of_neg_of_neg h2 (show z < 0 by omega)
        omega
  refine ⟨sgd l b, l.map fun t => t.fdiv (sgd l b), b.fdiv (sgd l b), hc, el, eb, pos, ?_, rfl⟩
  have hg := gcdL_mul (sgd l b) (l.map fun t => t.fdiv (sgd l b)) (b.fdiv (sgd l b))
  rw [← el, ← eb, ha] at hg
  have h0 := (gcdL_le (l := l) hb).2
  exact (Nat.eq_of_mul_eq_mul_left h0 (by rw [Nat.mul_one]; exact hg)).symm
theorem pt_lp {l : List Int} {b : Int} (hb : b ≠ 0) : Low (pt l b) := by
  obtain ⟨c, xs, y, _, _, _, h1, h2, e⟩ := pt_split (l := l) hb
  rw [e]
  exact ⟨h1, h2⟩
theorem cross_dvd {xs xs' : List Int} {y y' : Int} (h1 : gcdL xs y = 1) (h : xs.map (· * y') = xs'.map (· * y)) : y.natAbs ∣ y'.natAbs := by
  have e : gcdL (xs.map (y' * ·)) (y' * y) = y'.natAbs := by rw [gcdL_mul, h1, Nat.mul_one]
  rw [← e]
  refine dvd_gcdL ⟨y'.natAbs, by rw [Int.natAbs_mul, Nat.mul_comm]⟩ fun a m => ?_
  have e2 : xs.map (y' * ·) = xs'.map (· * y) := by
    rw [← h]
    exact List.map_congr_left fun x _ => Int.mul_comm _ _
  rw [e2] at m
  obtain ⟨z, _, rfl⟩ := List.mem_map.mp m
  exact ⟨z.natAbs, by rw [Int.natAbs_mul, Nat.mul_comm]⟩
theorem cross_pt {xs xs' : List Int} {y y' : Int} (hy : 1 ≤ y) (hy' : 1 ≤ y') (h1 : gcdL xs y = 1) (h2 : gcdL xs' y' = 1) (h : xs.map (· * y') = xs'.map (· * y)) : xs = xs' ∧ y = y' := by
  have d1 := cross_dvd h1 h
  have d2 := cross_dvd h2 h.symm
  have e : y = y' := by have := Nat.dvd_antisymm d1 d2; omega
  subst e
  refine ⟨?_, rfl⟩
  exact (List.map_inj_right fun a b q => Int.eq_of_mul_eq_mul_right (show y ≠ 0 by omega) q).mp h
theorem pt_eq {l l' : List Int} {b b' : Int} (hb : b ≠ 0) (hb' : b' ≠ 0) (h : l.map (· * b') = l'.map (· * b)) : pt l b = pt l' b' := by
  obtain ⟨c, xs, y, hc, hl, hbe, hy, hg, e⟩ := pt_split (l := l) hb
  obtain ⟨c', xs', y', hc', hl', hbe', hy', hg', e'⟩ := pt_split (l := l') hb'
  rw [e, e']
  have hx : xs.map (· * y') = xs'.map (· * y) := by
    subst hl hl' hbe hbe'
    simp only [List.map_map] at h
    refine (List.map_inj_right (f := fun z : Int => (c * c') * z) fun a b q => Int.eq_of_mul_eq_mul_left (Int.mul_ne_zero hc hc') q).mp ?_
    simp only [List.map_map]
    refine Eq.trans (List.map_congr_left fun a _ => ?_) (h.trans (List.map_congr_left fun a _ => ?_))
    · show c * c' * (a * y') = c * a * (c' * y'); grind
    · show c' * a * (c * y) = c * c' * (a * y); grind
  obtain ⟨h1, h2⟩ := cross_pt hy hy' hg hg' hx
  rw [h1, h2]
theorem pt_red {p : Tu Int × Int} (h : Low p) : pt (Tu.l p.1) p.2 = p := by
  have := pt_of_mul (c := 1) (xs := Tu.l p.1) (by decide) h.pos h.cop
  simp only [Int.one_mul, List.map_id'] at this
  exact this
/-- what the coordinates are -/
theorem pt_len (l : List Int) (b : Int) : (Tu.l (pt l b).1).length = l.length := by
  show (l.map _).length = _
  rw [List.length_map]
theorem pt_cross {l : List Int} {b : Int} (hb : b ≠ 0) : (Tu.l (pt l b).1).map (· * b) = l.map (· * (pt l b).2) := by
  obtain ⟨c, xs, y, hc, hl, hbe, hy, hg, e⟩ := pt_split (l := l) hb
  rw [e]
  subst hl hbe
  rw [List.map_map]
  exact List.map_congr_left fun a _ => by show a * (c * y) = c * a * y; grind
theorem pt_cross_at {l : List Int} {b : Int} (hb : b ≠ 0) {i : Nat} {x t : Int} (hx : (Tu.l (pt l b).1)[i]? = some x) (ht : l[i]? = some t) : x * b = t * (pt l b).2 := by
  have h := congrArg (fun l => l[i]?) (pt_cross (l := l) hb)
  simp only [List.getElem?_map, hx, ht, Option.map_some] at h
  exact Option.some.inj h
theorem pt_le {l : List Int} {b : Int} (hb : b ≠ 0) : (pt l b).2.natAbs ≤ b.natAbs ∧ ∀ x ∈ Tu.l (pt l b).1, ∃ t ∈ l, x.natAbs ≤ t.natAbs := by
  obtain ⟨c, xs, y, hc, hl, hbe, hy, hg, e⟩ := pt_split (l := l) hb
  rw [e]
  subst hl hbe
  refine ⟨by rw [Int.natAbs_mul]; exact Nat.le_mul_of_pos_left _ (by omega), fun x m => ⟨c * x, List.mem_map.mpr ⟨x, m, rfl⟩, ?_⟩⟩
  rw [Int.natAbs_mul]; exact Nat.le_mul_of_pos_left _ (by omega)
end FL

/-! QB: sizes of ints, found as instances. -/
namespace FL
open PySem L2
class Bd (n : outParam Nat) (i : Int) : Prop where
  lt : i.natAbs < 2 ^ n
theorem two_mono {a b : Nat} (h : a ≤ b) : 2 ^ a ≤ 2 ^ b := Nat.pow_le_pow_right (by decide) h
theorem Bd.mono {m n : Nat} {i : Int} (h : Bd m i) (l : m ≤ n) : Bd n i := ⟨Nat.lt_of_lt_of_le h.lt (two_mono l)⟩
instance bd_mul {m n : Nat} {i j : Int} [h : Bd m i] [k : Bd n j] : Bd (m + n) (i * j) := ⟨by rw [Int.natAbs_mul, Nat.pow_add]; exact Nat.mul_lt_mul'' h.lt k.lt⟩
theorem bd_sum {m n : Nat} {i j s : Int} (h : Bd m i) (k : Bd n j) (hs : s.natAbs ≤ i.natAbs + j.natAbs) : Bd (m + n + 1) s := ⟨by
  have h1 := Nat.lt_of_lt_of_le h.lt (two_mono (Nat.le_add_right m n))
  have h2 := Nat.lt_of_lt_of_le k.lt (two_mono (Nat.le_add_left n m))
  rw [Nat.pow_succ]
  omega⟩
theorem bd_sumx {m n : Nat} {i j s : Int} (h : Bd m i) (k : Bd n j) (hs : s.natAbs ≤ i.natAbs + j.natAbs) : Bd (max m n + 1) s := ⟨by
  have h1 := Nat.lt_of_lt_of_le h.lt (two_mono (Nat.le_max_left m n))
  have h2 := Nat.lt_of_lt_of_le k.lt (two_mono (Nat.le_max_right m n))
  rw [Nat.pow_succ]
  omega⟩
instance bd_add {m n : Nat} {i j : Int} [h : Bd m i] [k : Bd n j] : Bd (max m n + 1) (i + j) := bd_sumx h k (by omega)
instance bd_sub {m n : Nat} {i j : Int} [h : Bd m i] [k : Bd n j] : Bd (max m n + 1) (i - j) := bd_sumx h k (by omega)
instance bd_neg {m : Nat} {i : Int} [h : Bd m i] : Bd m (-i) := ⟨by rw [Int.natAbs_neg]; exact h.lt⟩
instance bd_lit {n : Nat} : Bd (n.log2 + 1) (no_index (OfNat.ofNat n) : Int) := ⟨by show n < _; exact Nat.lt_log2_self⟩
theorem fdiv_leP (x c : Int) (hp : 0 < c) : (x.fdiv c).natAbs ≤ x.natAbs := by
  have h1 := Int.mul_fdiv_add_fmod x c
  generalize hq : x.fdiv c = q at *
  have a1 := Int.fmod_nonneg_of_pos x hp
  have a2 := Int.fmod_lt_of_pos x hp
  generalize x.fmod c = r at *
  by_cases q0 : 0 ≤ q
  · have := Int.mul_le_mul_of_nonneg_right (show 1 ≤ c by omega) q0
    omega
  · have := Int.mul_le_mul_of_nonneg_right (show 1 ≤ c by omega) (show 0 ≤ -q - 1 by omega)
    have e : c * (-q - 1) = -(c * q) - c := by grind
    omega
theorem fdiv_le (x c : Int) : (x.fdiv c).natAbs ≤ x.natAbs := by
  by_cases hc : c = 0
  · subst hc; simp
  · by_cases hp : 0 < c
    · exact fdiv_leP x c hp
    · have := fdiv_leP (-x) (-c) (by omega)
      rw [Int.neg_fdiv_neg, Int.natAbs_neg] at this
      exact this
instance bd_fdiv {m : Nat} {i c : Int} [h : Bd m i] : Bd m (i.fdiv c) := ⟨Nat.lt_of_le_of_lt (fdiv_le i c) h.lt⟩
theorem bd_range {i : Int} {n : Nat} (h : -(n : Int) ≤ i ∧ i ≤ n) : Bd (n.log2 + 1) i := ⟨by have := @Nat.lt_log2_self n; omega⟩
theorem mulX_bd {m n : Nat} {i j : Int} [hi : Bd m i] [hj : Bd n j] (h : m + n ≤ 999998) : mulX i j = .ok (i * j) :=
  mulX_b (a := m + 1) (b := n + 1) (hi.mono (by omega)).lt (hj.mono (by omega)).lt (by omega) (by omega) (by omega)
theorem fdvX_bd {n : Nat} {i j : Int} [hj : Bd n j] (hn : n ≤ 8999) (h0 : j ≠ 0) : fdvX i j = .ok (i.fdiv j) :=
  fdvX_b (b := n + 1) h0 (hj.mono (by omega)).lt (by omega) (by omega)
class BdL (n : outParam Nat) (l : List Int) : Prop where
  all : ∀ a ∈ l, Bd n a
theorem BdL.mono {m n : Nat} {l : List Int} (h : BdL m l) (z : m ≤ n) : BdL n l := ⟨fun a q => (h.all a q).mono z⟩
theorem bd_pt {m : Nat} {l : List Int} {b : Int} (h : Bd m b) : Bd m (pt l b).2 := ⟨Nat.lt_of_le_of_lt (fdiv_le _ _) h.lt⟩
theorem bdl_pt {m : Nat} {l : List Int} {b : Int} (h : BdL m l) : BdL m (Tu.l (pt l b).1) := ⟨fun a q => by
  obtain ⟨t, ht, rfl⟩ := List.mem_map.mp (show a ∈ l.map _ from q)
  exact ⟨Nat.lt_of_le_of_lt (fdiv_le _ _) (h.all t ht).lt⟩⟩
/-! slices -/
theorem cutL_init {α : Type} (l : List α) : cutL l none (some (-1)) = l.dropLast := by
  unfold cutL
  have e : HT.sIx l.length l.length (some (-1)) = l.length - 1 := by
    unfold HT.sIx
    simp
    omega
  rw [e, HT.sIx_none, List.drop_zero, List.dropLast_eq_take]
  rfl
theorem cutL_take {α : Type} (l : List α) {k : Int} (h : 0 ≤ k) : cutL l none (some k) = l.take k.toNat := by
  obtain ⟨n, rfl⟩ := Int.eq_ofNat_of_zero_le h
  unfold cutL
  rw [HT.sIx_nat, HT.sIx_none, List.drop_zero, Nat.sub_zero, Int.toNat_natCast]
  by_cases z : n ≤ l.length
  · rw [Nat.min_eq_left z]
  · rw [Nat.min_eq_right (by omega), List.take_of_length_le (Nat.le_refl _), List.take_of_length_le (by omega)]
theorem cutL_drop {α : Type} (l : List α) {k : Int} (h : 0 ≤ k) : cutL l (some k) none = l.drop k.toNat := by
  obtain ⟨n, rfl⟩ := Int.eq_ofNat_of_zero_le h
  unfold cutL
  rw [HT.sIx_nat, HT.sIx_none, Int.toNat_natCast, List.take_of_length_le (by rw [List.length_drop]; omega)]
  by_cases z : n ≤ l.length
  · rw [Nat.min_eq_left z]
  · rw [Nat.min_eq_right (by omega), List.drop_of_length_le (Nat.le_refl _), List.drop_of_length_le (by omega)]
theorem cutL_mid {α : Type} (l : List α) {k m : Int} (h : 0 ≤ k) (h2 : 0 ≤ m) : cutL l (some k) (some m) = (l.take m.toNat).drop k.toNat := by
  obtain ⟨n, rfl⟩ := Int.eq_ofNat_of_zero_le h
  obtain ⟨p, rfl⟩ := Int.eq_ofNat_of_zero_le h2
  unfold cutL
  rw [HT.sIx_nat, HT.sIx_nat, Int.toNat_natCast, Int.toNat_natCast]
  rw [List.drop_take]
  by_cases z : n ≤ l.length
  · rw [Nat.min_eq_left z]
    by_cases y : p ≤ l.length
    · rw [Nat.min_eq_left y]
    · rw [Nat.min_eq_right (by omega), List.take_of_length_le (by rw [List.length_drop]; omega), List.take_of_length_le (by rw [List.length_drop]; omega)]
  · rw [Nat.min_eq_right (show l.length ≤ n by omega), List.drop_of_length_le (Nat.le_refl _), List.drop_of_length_le (show l.length ≤ n by omega)]
    simp
theorem cutL_tail {α : Type} (l : List α) {k : Int} (h : 0 ≤ k) : cutL l (some k) (some (-1)) = l.dropLast.drop k.toNat := by
  obtain ⟨n, rfl⟩ := Int.eq_ofNat_of_zero_le h
  unfold cutL
  have e : HT.sIx l.length l.length (some (-1)) = l.length - 1 := by
    unfold HT.sIx
    simp
    omega
  rw [e, HT.sIx_nat, Int.toNat_natCast, List.dropLast_eq_take, List.drop_take]
  by_cases z : n ≤ l.length
  · rw [Nat.min_eq_left z]
  · rw [Nat.min_eq_right (by omega), List.drop_of_length_le (Nat.le_refl _), List.drop_of_length_le (by omega)]
    simp
theorem getX_last {α : Type} {l : List α} {a : α} : getX (l ++ [a]) (-1) = .ok a := by
  unfold getX atI
  have : ixN (l ++ [a]).length (-1) = some l.length := by
    unfold ixN
    simp
    omega
  rw [this]
  simp
end FL

/-! QC: comprehensions over a range, cross multiplied lists. -/
namespace FL
open PySem L2
theorem compX_of {α β : Type} {t : α → Xc Bool} {f : α → Xc β} (ht : ∀ a, t a = .ok true) : ∀ {l : List α} {r : List β}, l.length = r.length → (∀ (i : Nat) (a : α) (b : β), l[i]? = some a → r[i]? = some b → f a = .ok b) → compX t f l = .ok r
  | [], [], _, _ => rfl
  | [], _ :: _, h, _ => by simp at h
  | _ :: _, [], h, _ => by simp at h
  | a :: l, b :: r, hl, h => by
    have h1 := h 0 a b rfl rfl
    have ih := compX_of (t := t) (f := f) ht (l := l) (r := r) (by simpa using hl) fun i a b ha hb => h (i + 1) a b (by simpa using ha) (by simpa using hb)
    simp only [compX, ht, h1, nx, bind_ok', if_true, ih]
theorem rangeL_nat {n : Nat} {i : Nat} {a : Int} (h : (rangeL 0 (n : Int))[i]? = some a) : a = (i : Int) ∧ i < n := by
  obtain ⟨h1, h2⟩ := rangeL_get h
  omega
theorem comp_range {β : Type} {t : Int → Xc Bool} {f : Int → Xc β} {n : Int} {r : List β} (ht : ∀ a, t a = .ok true) (hr : (r.length : Int) = n) (h : ∀ (k : Nat) b, r[k]? = some b → f (k : Int) = .ok b) : compX t f (rangeL 0 n) = .ok r := by
  subst hr
  refine compX_of ht (by rw [rangeL_len]; omega) fun i a b ha hb => ?_
  obtain ⟨rfl, _⟩ := rangeL_nat ha
  exact h i b hb
theorem getX_nat {α : Type} {l : List α} {k : Nat} {a : α} (h : l[k]? = some a) : getX l (k : Int) = .ok a := getX_b (by omega) (by rw [Int.toNat_natCast]; exact h)
theorem getX_app {α : Type} {l l' : List α} {k : Nat} {a : α} (h : l[k]? = some a) : getX (l ++ l') (k : Int) = .ok a := getX_nat (by
  have := List.getElem?_eq_some_iff.mp h
  rw [List.getElem?_append_left this.1]; exact h)
/-! cross multiplied -/
theorem map_cross {xs l : List Int} {b y : Int} (h : xs.map (· * b) = l.map (· * y)) {f g : Int → Int} (c : Int → Int) (hf : ∀ a, f a = c (a * b)) (hg : ∀ t, g t = c (t * y)) : xs.map f = l.map g := by
  have := congrArg (List.map c) h
  rw [List.map_map, List.map_map] at this
  rw [show f = c ∘ (· * b) from funext hf, show g = c ∘ (· * y) from funext hg]
  exact this
theorem zip_cross {xs l xs' l' : List Int} {b y b' y' : Int} (h : xs.map (· * b) = l.map (· * y)) (h' : xs'.map (· * b') = l'.map (· * y')) {f g : Int → Int → Int} (c : Int → Int → Int) (hf : ∀ a a', f a a' = c (a * b) (a' * b')) (hg : ∀ t t', g t t' = c (t * y) (t' * y')) :
    List.zipWith f xs xs' = List.zipWith g l l' := by
  have e1 : List.zipWith f xs xs' = List.zipWith c (xs.map (· * b)) (xs'.map (· * b')) := by
    rw [List.zipWith_map]
    congr 1
    funext a a'
    exact hf a a'
  have e2 : List.zipWith g l l' = List.zipWith c (l.map (· * y)) (l'.map (· * y')) := by
    rw [List.zipWith_map]
    congr 1
    funext a a'
    exact hg a a'
  rw [e1, e2, h, h']
theorem Bd.ok {n m : Nat} {i : Int} (h : Bd n i) (z : n ≤ m := by decide) : Bd m i := h.mono z
theorem zip_map {α β γ : Type} (f : α × β → γ) (l : List α) (m : List β) : (l.zip m).map f = List.zipWith (fun a b => f (a, b)) l m := by
  rw [List.zip, List.map_zipWith]
/-- the first part of a chain -/
theorem okB {α β : Type} {m : Xc α} {k : α → Xc β} {r : Xc β} (a : α) (h : m = .ok a) (h2 : k a = r) : m.bind k = r := by rw [h]; exact h2
/-! loops: what follows them -/
theorem forK_ct {γ α ρ τ : Type} {f : γ → α → Xc (Lp γ ρ)} {l : List α} {g : γ} {rt : ρ → τ} {k : γ → Xc τ} {r : Xc τ} (P : γ → Prop) (h : P g) (hs : ∀ g a, a ∈ l → P g → ∃ g', f g a = .ok (.ct g') ∧ P g') (hk : ∀ g, P g → k g = r) : forK (forX f l g) rt k = r := by
  obtain ⟨g', e, p⟩ := forX_ct (f := f) P h hs
  rw [e, forK_inl]
  exact hk g' p
theorem foldK {γ α τ : Type} {f : γ → α → Xc γ} {l : List α} {g : γ} {k : γ → Xc τ} {r : Xc τ} (P : γ → Prop) (h : P g) (hs : ∀ g a, a ∈ l → P g → ∃ g', f g a = .ok g' ∧ P g') (hk : ∀ g, P g → k g = r) : (foldX f l g).bind k = r := by
  obtain ⟨g', e, p⟩ := foldX_inv (f := f) P h hs
  rw [e, bind_ok']
  exact hk g' p
theorem foldKi {γ α τ : Type} {f : γ → α → Xc γ} {l : List α} {g : γ} {k : γ → Xc τ} {r : Xc τ} (P : Nat → γ → Prop) (h : P 0 g) (hs : ∀ (i : Nat) g a, l[i]? = some a → P i g → ∃ g', f g a = .ok g' ∧ P (i + 1) g') (hk : ∀ g, P l.length g → k g = r) : (foldX f l g).bind k = r := by
  obtain ⟨g', e, p⟩ := foldX_ix (f := f) P h hs
  rw [e, bind_ok']
  exact hk g' p
/-- a loop's state that does not change -/
theorem forK_id {γ α ρ τ : Type} {f : γ → α → Xc (Lp γ ρ)} {l : List α} {g : γ} {rt : ρ → τ} {k : γ → Xc τ} {r : Xc τ} (hs : ∀ a, a ∈ l → f g a = .ok (.ct g)) (hk : k g = r) : forK (forX f l g) rt k = r :=
  forK_ct (fun g' => g' = g) rfl (fun g' a m e => ⟨g, by rw [e]; exact hs a m, rfl⟩) fun g' e => by rw [e]; exact hk
end FL
namespace FL
open PySem L2
theorem bd_up {n m : Nat} {i : Int} [h : Bd n i] (z : n ≤ m := by decide) : Bd m i := h.mono z
theorem comp_list {α β : Type} {t : α → Xc Bool} {f : α → Xc β} {h : α → β} {l : List α} (ht : ∀ a, t a = .ok true) (hf : ∀ a ∈ l, f a = .ok (h a)) : compX t f l = .ok (l.map h) := compX_map fun a m => ⟨ht a, hf a m⟩
theorem comp_at1 {α β : Type} {t : Int → Xc Bool} {g : α → Xc β} {h : α → β} {l l' : List α} {n : Int} (ht : ∀ a, t a = .ok true) (hn : (l.length : Int) = n) (hg : ∀ x ∈ l, g x = .ok (h x)) : compX t (fun a => (getX (l ++ l') a).bind g) (rangeL 0 n) = .ok (l.map h) := by
  refine comp_range ht (by rw [List.length_map]; exact hn) fun k b hb => ?_
  rw [List.getElem?_map] at hb
  cases e : l[k]? with
  | none => rw [e] at hb; cases hb
  | some x =>
    rw [e] at hb
    cases hb
    rw [getX_app e, bind_ok']
    exact hg x (List.mem_of_getElem? e)
theorem comp_at2 {α δ β : Type} {t : Int → Xc Bool} {f : Int → Xc β} {h : α → δ → β} {l l' : List α} {m m' : List δ} {n : Int} (ht : ∀ a, t a = .ok true) (hn : (l.length : Int) = n) (hm : m.length = l.length) (hf : ∀ (k : Int) x y, x ∈ l → y ∈ m → getX (l ++ l') k = .ok x → getX (m ++ m') k = .ok y → f k = .ok (h x y)) :
    compX t f (rangeL 0 n) = .ok (List.zipWith h l m) := by
  refine comp_range ht (by rw [List.length_zipWith]; omega) fun k b hb => ?_
  rw [List.getElem?_zipWith] at hb
  cases e : l[k]? with
  | none => rw [e] at hb; simp at hb
  | some x =>
    cases e2 : m[k]? with
    | none => rw [e, e2] at hb; simp at hb
    | some y =>
      rw [e, e2] at hb
      simp at hb
      subst hb
      exact hf k x y (List.mem_of_getElem? e) (List.mem_of_getElem? e2) (getX_app e) (getX_app e2)
theorem mulX_all {n m : Nat} {l : List Int} {b : Int} (hl : BdL n l) (hb : Bd m b) (h : n + m ≤ 999998) : ∀ x ∈ l, mulX x b = .ok (x * b) := fun x q => by
  have := hl.all x q
  exact mulX_bd h
theorem catL_ok {α : Type} {l m : List α} (h : l.length + m.length ≤ 1000000) : catL l m = .ok (l ++ m) := by
  have := size_ge
  unfold catL
  rw [if_pos (by omega)]
theorem bdl_map {n m : Nat} {l : List Int} {f : Int → Int} (h : BdL n l) (hf : ∀ x, Bd n x → Bd m (f x)) : BdL m (l.map f) := ⟨fun a q => by
  obtain ⟨x, mx, rfl⟩ := List.mem_map.mp q
  exact hf x (h.all x mx)⟩
theorem bdl_app {n : Nat} {l m : List Int} (h : BdL n l) (k : BdL n m) : BdL n (l ++ m) := ⟨fun a q => (List.mem_append.mp q).elim (h.all a) (k.all a)⟩
theorem bdl_zip {n m p : Nat} {l k : List Int} {f : Int → Int → Int} (h : BdL n l) (h' : BdL m k) (hf : ∀ x y, Bd n x → Bd m y → Bd p (f x y)) : BdL p (List.zipWith f l k) := ⟨fun a q => by
  rw [← List.map_uncurry_zip_eq_zipWith] at q
  obtain ⟨⟨x, y⟩, mx, rfl⟩ := List.mem_map.mp q
  exact hf x y (h.all x (List.of_mem_zip mx).1) (h'.all y (List.of_mem_zip mx).2)⟩
end FL

/-! QD: data: no deeper than k; == of alike data. -/
namespace FL
open PySem L2
class Flat (α : Type) [Rp α] [ToD α] (k : outParam Nat) : Prop where
  lay : ∀ a : α, PyData.canLay0 (ToD.d a) = true
  dep : ∀ a : α, PyData.depth (ToD.d a) ≤ k
instance : Flat Int 0 := ⟨fun _ => rfl, fun _ => Nat.le_refl _⟩
instance : Flat Bool 0 := ⟨fun _ => rfl, fun _ => Nat.le_refl _⟩
instance : Flat Unit 0 := ⟨fun _ => rfl, fun _ => Nat.le_refl _⟩
section
variable {α β : Type} [Rp α] [Rp β] [ToD α] [ToD β] {k j : Nat}
theorem lay_all [F : Flat α k] : ∀ l : List α, PyData.canLayAll0 (l.map ToD.d) = true
  | [] => by simp [PyData.canLayAll0]
  | a :: l => by
    show PyData.canLayAll0 (ToD.d a :: l.map ToD.d) = true
    simp only [PyData.canLayAll0, F.lay a, lay_all l, Bool.and_self]
theorem dep_all [F : Flat α k] : ∀ l : List α, PyData.depthAll (l.map ToD.d) ≤ k
  | [] => by simp [PyData.depthAll]
  | a :: l => by
    have h1 := F.dep a
    have h2 := dep_all l
    show PyData.depthAll (ToD.d a :: l.map ToD.d) ≤ k
    simp only [PyData.depthAll]
    omega
instance [F : Flat α k] : Flat (Option α) k := ⟨fun a => by cases a with
  | none => rfl
  | some a => exact F.lay a, fun a => by cases a with
  | none => exact Nat.zero_le _
  | some a => exact F.dep a⟩
instance [F : Flat α k] : Flat (List α) (k + 1) := ⟨fun l => by
  show PyData.canLay0 (.list (l.map ToD.d)) = true
  simp only [PyData.canLay0, lay_all], fun l => by
  show PyData.depth (.list (l.map ToD.d)) ≤ _
  have := dep_all l
  simp only [PyData.depth]
  omega⟩
instance [F : Flat α k] : Flat (Tu α) (k + 1) := ⟨fun l => by
  show PyData.canLay0 (.tuple (l.l.map ToD.d)) = true
  simp only [PyData.canLay0, lay_all], fun l => by
  show PyData.depth (.tuple (l.l.map ToD.d)) ≤ _
  have := dep_all l.l
  simp only [PyData.depth]
  omega⟩
instance [F : Flat α k] [E : Flat β j] : Flat (α × β) (max k j + 1) := ⟨fun t => by
  show PyData.canLay0 (.tuple [ToD.d t.1, ToD.d t.2]) = true
  simp only [PyData.canLay0, PyData.canLayAll0, F.lay, E.lay, Bool.and_self], fun t => by
  show PyData.depth (.tuple [ToD.d t.1, ToD.d t.2]) ≤ _
  have h1 := F.dep t.1
  have h2 := E.dep t.2
  simp only [PyData.depth, PyData.depthAll]
  omega⟩
theorem shaped_of [F : Flat α k] (h : k ≤ 64 := by decide) (a : α) : SeqAt.shaped (ToD.d a) = true := by
  unfold SeqAt.shaped
  have := F.dep a
  rw [F.lay a, decide_eq_true (by omega)]
  rfl
theorem datX_ok [F : Flat α k] (h : k ≤ 64 := by decide) (a : α) : datX a = .ok (ToD.d a) := by
  unfold datX
  rw [if_pos (shaped_of h a)]
end
/-- == of alike data tells equality -/
class EqD (α : Type) [Rp α] [ToD α] : Prop where
  eq : ∀ a b : α, PyData.eqv (ToD.d a) (ToD.d b) = true ↔ a = b
instance : EqD Int := ⟨fun a b => by show (a == b) = true ↔ _; simp⟩
instance : EqD Bool := ⟨fun a b => by show (a == b) = true ↔ _; simp⟩
instance : EqD Unit := ⟨fun a b => ⟨fun _ => rfl, fun _ => rfl⟩⟩
instance : EqD Str := ⟨fun a b => by show (a == b) = true ↔ _; simp⟩
section
variable {α β : Type} [Rp α] [Rp β] [ToD α] [ToD β] {k j : Nat}
theorem eq_all [E : EqD α] : ∀ l m : List α, PyData.eqvAll (l.map ToD.d) (m.map ToD.d) = true ↔ l = m
  | [], [] => by simp [PyData.eqvAll]
  | [], b :: m => by simp [PyData.eqvAll]
  | a :: l, [] => by simp [PyData.eqvAll]
  | a :: l, b :: m => by
    show PyData.eqvAll (ToD.d a :: l.map ToD.d) (ToD.d b :: m.map ToD.d) = true ↔ _
    simp only [PyData.eqvAll, Bool.and_eq_true, E.eq, eq_all l m, List.cons.injEq]
instance [E : EqD α] : EqD (List α) := ⟨fun a b => eq_all a b⟩
instance [E : EqD α] : EqD (Tu α) := ⟨fun a b => eq_all a.l b.l⟩
instance [E : EqD α] [E' : EqD β] : EqD (α × β) := ⟨fun a b => by
  show PyData.eqvAll [ToD.d a.1, ToD.d a.2] [ToD.d b.1, ToD.d b.2] = true ↔ _
  simp only [PyData.eqvAll, Bool.and_eq_true, E.eq, E'.eq, and_true]
  constructor
  · rintro ⟨h1, h2⟩; exact Prod.ext h1 h2
  · intro h; subst h; exact ⟨rfl, rfl⟩⟩
theorem eqdX_ok [F : Flat α k] [E : EqD α] (h : k ≤ 64 := by decide) (a b : α) [D : Decidable (a = b)] : eqdX a b = .ok (decide (a = b)) := by
  unfold eqdX
  rw [if_pos ⟨shaped_of h a, shaped_of h b⟩]
  congr 1
  by_cases q : a = b
  · rw [decide_eq_true q, (E.eq a b).mpr q]
  · rw [decide_eq_false q]
    cases r : PyData.eqv (ToD.d a) (ToD.d b) with
    | false => rfl
    | true => exact absurd ((E.eq a b).mp r) q
theorem inDX_ok [F : Flat α k] [E : EqD α] (h : k + 1 ≤ 64 := by decide) (a : α) (l : List α) [D : Decidable (a ∈ l)] : inDX a l = .ok (decide (a ∈ l)) := by
  unfold inDX
  rw [if_pos ⟨shaped_of (by omega) a, shaped_of h l⟩]
  congr 1
  by_cases q : a ∈ l
  · rw [decide_eq_true q, List.any_eq_true]
    exact ⟨ToD.d a, List.mem_map.mpr ⟨a, q, rfl⟩, (E.eq a a).mpr rfl⟩
  · rw [decide_eq_false q, List.any_eq_false]
    intro x m
    obtain ⟨b, mb, rfl⟩ := List.mem_map.mp m
    intro z
    exact q ((E.eq b a).mp z ▸ mb)
end
instance {α : Type} [d : DecidableEq α] : DecidableEq (Tu α) := inferInstanceAs (DecidableEq (List α))
/-! one datum -/
structure Fl (k : Nat) (d : PyData) : Prop where
  lay : PyData.canLay0 d = true
  dep : PyData.depth d ≤ k
theorem Fl.mono {k j : Nat} {d : PyData} (h : Fl k d) (z : k ≤ j) : Fl j d := ⟨h.lay, Nat.le_trans h.dep z⟩
theorem Fl.of {α : Type} [Rp α] [ToD α] {k : Nat} [F : Flat α k] (a : α) : Fl k (ToD.d a) := ⟨F.lay a, F.dep a⟩
theorem Fl.int (i : Int) : Fl 0 (.int i) := ⟨rfl, Nat.le_refl _⟩
theorem Fl.non : Fl 0 .none := ⟨rfl, Nat.le_refl _⟩
theorem Fl.bl (b : Bool) : Fl 0 (.bool b) := ⟨rfl, Nat.le_refl _⟩
theorem fl_all {k : Nat} : ∀ {ds : List PyData}, (∀ d ∈ ds, Fl k d) → PyData.canLayAll0 ds = true ∧ PyData.depthAll ds ≤ k
  | [], _ => ⟨by simp [PyData.canLayAll0], by simp [PyData.depthAll]⟩
  | d :: ds, h => by
    have h1 := h d (by simp)
    obtain ⟨h2, h3⟩ := fl_all (ds := ds) fun d m => h d (by simp [m])
    have h4 := h1.dep
    refine ⟨by simp only [PyData.canLayAll0, h1.lay, h2, Bool.and_self], ?_⟩
    simp only [PyData.depthAll]
    omega
theorem Fl.tup {k : Nat} {ds : List PyData} (h : ∀ d ∈ ds, Fl k d) : Fl (k + 1) (.tuple ds) := by
  obtain ⟨h1, h2⟩ := fl_all h
  exact ⟨by simp only [PyData.canLay0, h1], by simp only [PyData.depth]; omega⟩
theorem Fl.lst {k : Nat} {ds : List PyData} (h : ∀ d ∈ ds, Fl k d) : Fl (k + 1) (.list ds) := by
  obtain ⟨h1, h2⟩ := fl_all h
  exact ⟨by simp only [PyData.canLay0, h1], by simp only [PyData.depth]; omega⟩
theorem Fl.sh {k : Nat} {d : PyData} (h : Fl k d) (z : k ≤ 64 := by decide) : SeqAt.shaped d = true := by
  unfold SeqAt.shaped
  have := h.dep
  rw [h.lay, decide_eq_true (by omega)]
  rfl
theorem datX_fl {α : Type} [Rp α] [ToD α] {k : Nat} {a : α} {d : PyData} (e : ToD.d a = d) (h : Fl k d) (z : k ≤ 64 := by decide) : datX a = .ok d := by
  subst e
  unfold datX
  rw [if_pos (h.sh z)]
theorem Fl.two {k : Nat} {x y : PyData} (hx : Fl k x) (hy : Fl k y) : Fl (k + 1) (.tuple [x, y]) := Fl.tup fun d m => by
  rcases List.mem_cons.mp m with e | m
  · rw [e]; exact hx
  · rw [List.mem_singleton.mp m]; exact hy
theorem Fl.ints (l : List Int) : ∀ d ∈ l.map ToD.d, Fl 0 d := fun d m => by
  obtain ⟨i, _, rfl⟩ := List.mem_map.mp m
  exact Fl.int i
/-! kinds -/
theorem asT_ok {l : List PyData} (h : l.length ≤ 1000) (s : l.all SeqAt.shaped = true) : asT (.tuple l) = .ok (tu l) := by
  have := size_ge
  unfold asT
  show (if _ then _ else _) = _
  rw [if_pos ⟨by omega, s⟩]
theorem asI_ok (i : Int) : asI (.int i) = .ok i := by unfold asI; rfl
theorem intsD_map : ∀ l : List Int, intsD (l.map ToD.d) = some l
  | [] => rfl
  | a :: l => by
    show intsD (.int a :: l.map ToD.d) = _
    unfold intsD
    rw [intsD_map l]
    rfl
theorem shaped_ints (l : List Int) : (l.map ToD.d).all SeqAt.shaped = true := by
  rw [List.all_eq_true]
  intro d m
  obtain ⟨x, _, rfl⟩ := List.mem_map.mp m
  rfl
theorem isD (d : PyData) (T : String) : isiX (HasTy.ty d) T = isiX (tyD d) T := rfl
theorem k_tt : isiX "tuple" "tuple" = .ok true := by unfold isiX; rfl
theorem k_lt : isiX "list" "tuple" = .ok false := by unfold isiX; rfl
theorem k_nt : isiX "NoneType" "tuple" = .ok false := by unfold isiX; rfl
theorem k_it : isiX "int" "tuple" = .ok false := by unfold isiX; rfl
theorem k_st : isiX "str" "tuple" = .ok false := by unfold isiX; rfl
theorem k_bt : isiX "bool" "tuple" = .ok false := by unfold isiX; rfl
theorem k_ii : isiX "int" "int" = .ok true := by unfold isiX; rfl
theorem k_ib : isiX "int" "bool" = .ok false := by unfold isiX; rfl
theorem k_bi : isiX "bool" "int" = .ok true := by unfold isiX; rfl
theorem k_bb : isiX "bool" "bool" = .ok true := by unfold isiX; rfl
theorem k_ni : isiX "NoneType" "int" = .ok false := by unfold isiX; rfl
theorem k_si : isiX "str" "int" = .ok false := by unfold isiX; rfl
theorem k_ti : isiX "tuple" "int" = .ok false := by unfold isiX; rfl
theorem k_li : isiX "list" "int" = .ok false := by unfold isiX; rfl
def notTup : PyData → Prop
  | .tuple _ => False
  | .dict _ => False
  | _ => True
theorem not_tup {d : PyData} (h : notTup d) : isiX (HasTy.ty d) "tuple" = .ok false := by
  cases d <;> first | exact h.elim | exact k_nt | exact k_bt | exact k_it | exact k_st | exact k_lt
def notInt : PyData → Prop
  | .int _ => False
  | .dict _ => False
  | _ => True
/-- isinstance(x, int) and not isinstance(x, bool) -/
def isIB : PyData → Bool
  | .int _ => true
  | _ => false
theorem not_int {d : PyData} (h : notInt d) : ((isiX (HasTy.ty d) "int").bind fun t => (Xc.ok (!t))).bind (fun t => if t = true then Xc.ok true else isiX (HasTy.ty d) "bool") = .ok true := by
  cases d <;> first
    | exact h.elim
    | (show ((isiX "NoneType" "int").bind _).bind _ = _; rw [k_ni]; rfl)
    | (show ((isiX "bool" "int").bind _).bind (fun t => if t = true then _ else isiX "bool" "bool") = _; rw [k_bi, k_bb]; rfl)
    | (show ((isiX "str" "int").bind _).bind _ = _; rw [k_si]; rfl)
    | (show ((isiX "list" "int").bind _).bind _ = _; rw [k_li]; rfl)
    | (show ((isiX "tuple" "int").bind _).bind _ = _; rw [k_ti]; rfl)
theorem yes_int (i : Int) : ((isiX (HasTy.ty (PyData.int i)) "int").bind fun t => (Xc.ok (!t))).bind (fun t => if t = true then Xc.ok true else isiX (HasTy.ty (PyData.int i)) "bool") = .ok false := by
  show ((isiX "int" "int").bind _).bind (fun t => if t = true then _ else isiX "int" "bool") = _
  rw [k_ii, k_ib]
  rfl
end FL

/-! QS: sorting data; lists in strict order. -/
namespace FL
open PySem L2
class Alk (α : Type) [Rp α] [ToD α] : Prop where
  al : ∀ a b : α, PySem.W.alike (ToD.d a) (ToD.d b) = true
instance : Alk Int := ⟨fun _ _ => rfl⟩
instance : Alk Str := ⟨fun _ _ => rfl⟩
instance : Alk Bool := ⟨fun _ _ => rfl⟩
section
variable {α β : Type} [Rp α] [Rp β] [ToD α] [ToD β] {k j : Nat}
theorem alk_all [A : Alk α] : ∀ l m : List α, PySem.W.alikeAll (l.map ToD.d) (m.map ToD.d) = true
  | [], m => by simp [PySem.W.alikeAll]
  | a :: l, [] => by simp [PySem.W.alikeAll]
  | a :: l, b :: m => by
    show PySem.W.alikeAll (ToD.d a :: l.map ToD.d) (ToD.d b :: m.map ToD.d) = true
    simp only [PySem.W.alikeAll, A.al a b, alk_all l m, Bool.and_self]
instance [A : Alk α] : Alk (List α) := ⟨fun a b => by
  show PySem.W.alike (.list (a.map ToD.d)) (.list (b.map ToD.d)) = true
  simp only [PySem.W.alike, alk_all]⟩
instance [A : Alk α] : Alk (Tu α) := ⟨fun a b => by
  show PySem.W.alike (.tuple (a.l.map ToD.d)) (.tuple (b.l.map ToD.d)) = true
  simp only [PySem.W.alike, alk_all]⟩
instance [A : Alk α] [B : Alk β] : Alk (α × β) := ⟨fun a b => by
  show PySem.W.alike (.tuple [ToD.d a.1, ToD.d a.2]) (.tuple [ToD.d b.1, ToD.d b.2]) = true
  simp only [PySem.W.alike, PySem.W.alikeAll, A.al, B.al, Bool.and_self]⟩
/-- x < y, of data -/
def ltD (a b : α) : Bool := PySem.W.dataLt (ToD.d a) (ToD.d b)
def leD (a b : α) : Bool := !ltD b a
theorem sort_le : PySem.W.dataLe false (ToD.d (α := α)) = leD := rfl
theorem leD_trans (a b c : α) (h1 : leD a b = true) (h2 : leD b c = true) : leD a c = true := (PySem.W.sortLe_total (PyProof.Rows.listOrd PyProof.Rows.itemOrd) false fun b : α => PySem.W.keyToks (ToD.d b)).trans a b c h1 h2
theorem leD_total (a b : α) : (leD a b || leD b a) = true := by
  have := (PySem.W.sortLe_total (PyProof.Rows.listOrd PyProof.Rows.itemOrd) false fun b : α => PySem.W.keyToks (ToD.d b)).total a b
  exact Bool.or_eq_true_iff.mpr this
theorem sortX_ok [F : Flat α k] [A : Alk α] (h : k ≤ 64 := by decide) {l : List α} (ht : (∀ a ∈ l, tup1B (ToD.d a) = true) ∨ ∀ a ∈ l, noTupB (ToD.d a) = true) :
    ∃ r, sortX l = .ok r ∧ r.Perm l ∧ r.Pairwise fun a b => ltD b a = false := by
  refine ⟨l.mergeSort leD, ?_, List.mergeSort_perm _ _, ?_⟩
  · have c1 : alikeB (l.map ToD.d) = true := by
      unfold alikeB
      rw [List.all_eq_true]
      intro d hd
      rw [List.all_eq_true]
      intro e he
      obtain ⟨a, _, rfl⟩ := List.mem_map.mp hd
      obtain ⟨b, _, rfl⟩ := List.mem_map.mp he
      exact A.al a b
    have c2 : sortableB (l.map ToD.d) = true := by
      unfold sortableB
      rw [Bool.or_eq_true_iff, List.all_eq_true, List.all_eq_true]
      rcases ht with ht | ht
      · exact .inl fun d hd => by obtain ⟨a, m, rfl⟩ := List.mem_map.mp hd; exact ht a m
      · exact .inr fun d hd => by obtain ⟨a, m, rfl⟩ := List.mem_map.mp hd; exact ht a m
    unfold sortX
    rw [if_pos ⟨List.all_eq_true.mpr fun a _ => shaped_of h a, c1, c2⟩]
    rfl
  · have := List.pairwise_mergeSort (le := leD (α := α)) leD_trans leD_total l
    exact this.imp fun {a b} q => by
      unfold leD at q
      simpa using q
end
theorem ltD_ints (a b : Tu Int) : ltD a b = decide (Tu.l a < Tu.l b) := by
  show PySem.W.dataLt (.tuple (a.l.map ToD.d)) (.tuple (b.l.map ToD.d)) = _
  rw [PySem.W.dataLt_tuple]
  exact PySem.W.dataLt_ints a.l b.l
theorem ltD_pair {α β : Type} [Rp α] [Rp β] [ToD α] [ToD β] [Alk α] [Alk β] [EqD α] [EqD β] [DecidableEq α] [DecidableEq β] (a b : α × β) : ltD a b = if a.1 = b.1 then (if a.2 = b.2 then false else ltD a.2 b.2) else ltD a.1 b.1 := by
  show PySem.W.dataLt (.tuple [ToD.d a.1, ToD.d a.2]) (.tuple [ToD.d b.1, ToD.d b.2]) = _
  rw [PySem.W.dataLt_pair (Alk.al _ _) (Alk.al _ _)]
  by_cases h1 : a.1 = b.1
  · rw [if_pos ((EqD.eq _ _).mpr h1), if_pos h1]
    by_cases h2 : a.2 = b.2
    · rw [if_pos ((EqD.eq _ _).mpr h2), if_pos h2]
    · rw [if_neg (fun z => h2 ((EqD.eq _ _).mp z)), if_neg h2]; rfl
  · rw [if_neg (fun z => h1 ((EqD.eq _ _).mp z)), if_neg h1]; rfl
/-! lists in strict order -/
section
variable {α : Type} {R : α → α → Prop}
theorem strict_uniq (ir : ∀ a, ¬ R a a) (tr : ∀ a b c, R a b → R b c → R a c) : ∀ {l m : List α}, l.Pairwise R → m.Pairwise R → (∀ a, a ∈ l ↔ a ∈ m) → l = m
  | [], [], _, _, _ => rfl
  | [], b :: m, _, _, h => by have := (h b).mpr (by simp); cases this
  | a :: l, [], _, _, h => by have := (h a).mp (by simp); cases this
  | a :: l, b :: m, hl, hm, h => by
    have hl' := List.pairwise_cons.mp hl
    have hm' := List.pairwise_cons.mp hm
    have e : a = b := by
      rcases List.mem_cons.mp ((h a).mp (by simp)) with e | ma
      · exact e
      · rcases List.mem_cons.mp ((h b).mpr (by simp)) with e | mb
        · exact e.symm
        · exact absurd (tr _ _ _ (hl'.1 b mb) (hm'.1 a ma)) (ir a)
    subst e
    rw [strict_uniq ir tr hl'.2 hm'.2 fun c => ?_]
    constructor
    · intro mc
      rcases List.mem_cons.mp ((h c).mp (by simp [mc])) with e | q
      · subst e; exact absurd (hl'.1 c mc) (ir c)
      · exact q
    · intro mc
      rcases List.mem_cons.mp ((h c).mpr (by simp [mc])) with e | q
      · subst e; exact absurd (hm'.1 c mc) (ir c)
      · exact q
end
theorem lt_scale {c : Int} (hc : 0 < c) : ∀ xs ys : List Int, (xs.map (· * c) < ys.map (· * c)) ↔ xs < ys
  | [], [] => by simp
  | [], _ :: _ => by simp
  | _ :: _, [] => by simp
  | x :: xs, y :: ys => by
    simp only [List.map_cons, List.cons_lt_cons_iff, lt_scale hc xs ys]
    constructor
    · rintro (h | ⟨h1, h2⟩)
      · exact .inl (Int.lt_of_mul_lt_mul_right h (by omega))
      · exact .inr ⟨Int.eq_of_mul_eq_mul_right (show c ≠ 0 by omega) h1, h2⟩
    · rintro (h | ⟨h1, h2⟩)
      · exact .inl (Int.mul_lt_mul_of_pos_right h hc)
      · exact .inr ⟨by rw [h1], h2⟩
end FL
namespace FL
open PySem L2
theorem foldX_pre {γ α : Type} {f : γ → α → Xc γ} {l : List α} {g : γ} (P : List α → γ → Prop) (h : P [] g) (hs : ∀ pre a rest g, l = pre ++ a :: rest → P pre g → ∃ g', f g a = .ok g' ∧ P (pre ++ [a]) g') : ∃ g', foldX f l g = .ok g' ∧ P l g' := by
  have go : ∀ (rest pre : List α) (g : γ), l = pre ++ rest → P pre g → ∃ g', foldX f rest g = .ok g' ∧ P l g' := by
    intro rest
    induction rest with
    | nil => intro pre g e p; exact ⟨g, rfl, by rw [e, List.append_nil]; exact p⟩
    | cons a rest ih =>
      intro pre g e p
      obtain ⟨g1, e1, p1⟩ := hs pre a rest g e p
      obtain ⟨g2, e2, p2⟩ := ih (pre ++ [a]) g1 (by rw [e, List.append_assoc]; rfl) p1
      exact ⟨g2, by show (f g a).bind _ = _; rw [e1]; exact e2, p2⟩
  exact go l [] g rfl h
theorem foldKp {γ α τ : Type} {f : γ → α → Xc γ} {l : List α} {g : γ} {k : γ → Xc τ} {r : Xc τ} (P : List α → γ → Prop) (h : P [] g) (hs : ∀ pre a rest g, l = pre ++ a :: rest → P pre g → ∃ g', f g a = .ok g' ∧ P (pre ++ [a]) g') (hk : ∀ g, P l g → k g = r) : (foldX f l g).bind k = r := by
  obtain ⟨g', e, p⟩ := foldX_pre (f := f) P h hs
  rw [e, bind_ok']
  exact hk g' p
theorem foldEx {γ α τ : Type} {f : γ → α → Xc γ} {l : List α} {g : γ} {k : γ → Xc τ} {Q : τ → Prop} (P : List α → γ → Prop) (h : P [] g) (hs : ∀ pre a rest g, l = pre ++ a :: rest → P pre g → ∃ g', f g a = .ok g' ∧ P (pre ++ [a]) g') (hk : ∀ g, P l g → ∃ r, k g = .ok r ∧ Q r) : ∃ r, (foldX f l g).bind k = .ok r ∧ Q r := by
  obtain ⟨g', e, p⟩ := foldX_pre (f := f) P h hs
  rw [e, bind_ok']
  exact hk g' p
theorem foldEi {γ α τ : Type} {f : γ → α → Xc γ} {l : List α} {g : γ} {k : γ → Xc τ} {Q : τ → Prop} (P : Nat → γ → Prop) (h : P 0 g) (hs : ∀ (i : Nat) g a, l[i]? = some a → P i g → ∃ g', f g a = .ok g' ∧ P (i + 1) g') (hk : ∀ g, P l.length g → ∃ r, k g = .ok r ∧ Q r) : ∃ r, (foldX f l g).bind k = .ok r ∧ Q r := by
  obtain ⟨g', e, p⟩ := foldX_ix (f := f) P h hs
  rw [e, bind_ok']
  exact hk g' p
theorem insX_ok {α : Type} {l : List α} {i : Int} {a : α} (h : l.length < 1000000) (h0 : 0 ≤ i) (h1 : i < 2 ^ 63) : insX l i a = .ok (l.take i.toNat ++ [a] ++ l.drop i.toNat) := by
  have := size_ge
  unfold insX
  rw [if_pos ⟨by omega, h0, h1⟩]
end FL

namespace LW
open PySem L2 FL
def top (i : Nat) : Stmt := PySem.Challenge.pw_leadersets_k49_edits_of_tasks.main.body.getD i (.Pass ⟨0, 0, 0, 0⟩)
abbrev FnP (K : PySem.W.Frag) (x : Str) (st : Stmt) (f : Addr) (fd : FuncData) : Prop := FunD K x x (defArgs st) (defBody st) (defScope st) [] [] f fd
abbrev Fs_Affine : List Str := [("coefs" : Str), ("constant" : Str), ("bottom" : Str), ("size" : Str)]
abbrev Ty_Affine := Ob "Affine" Fs_Affine ((Tu Int) × Int × Int × Int × Unit)
abbrev Fs_Task : List Str := [("size" : Str), ("replies" : Str), ("cost" : Str), ("rules" : Str), ("aim" : Str), ("rows" : Str)]
abbrev Ty_Task := Ob "Task" Fs_Task (Int × Int × Ty_Affine × (Tu Ty_Affine) × Ty_Affine × (Tu Ty_Affine) × Unit)
def mt_BadShape___init__ : Stmt := (clsBody (top 5)).getD 0 (.Pass ⟨0, 0, 0, 0⟩)
def mt_UnknownName___init__ : Stmt := (clsBody (top 6)).getD 0 (.Pass ⟨0, 0, 0, 0⟩)
def mt_Affine___init__ : Stmt := (clsBody (top 22)).getD 0 (.Pass ⟨0, 0, 0, 0⟩)
def mt_Affine___eq__ : Stmt := (clsBody (top 22)).getD 6 (.Pass ⟨0, 0, 0, 0⟩)
def mt_Task___init__ : Stmt := (clsBody (top 10)).getD 4 (.Pass ⟨0, 0, 0, 0⟩)
def mt_Task___eq__ : Stmt := (clsBody (top 10)).getD 5 (.Pass ⟨0, 0, 0, 0⟩)
def m_BadShape___init__ (z : Str) : Xc Str := (catS ("wrong size of " : Str) z)
def m_UnknownName___init__ (z : Str) : Xc Str := (catS ("unknown name " : Str) z)
def m_common_divisor_l (z : (List Int) × Int × Unit) : Xc Int := (Xc.bind (foldX (fun (g2 : ((List Int) × (Int × (Int × Unit)))) a3 => (Xc.ok (g2.1, (g2.2.1, ((gcdI g2.2.2.1 a3), ()))))) z.1 (z.1, (z.2.1, ((absI z.2.1), ())))) fun (g5 : ((List Int) × (Int × (Int × Unit)))) => (Xc.ok g5.2.2.1))
def m_Affine___init___l (z : (List Int) × Int × Int × Unit) : Xc ((Tu Int) × Int × Int × Int × Unit) := (Xc.bind (if (decide (z.2.2.1 = (0 : Int))) = true then (Xc.er "BadNumber" []) else (Xc.ok ((), (z.1, (z.2.1, (z.2.2.1, ())))))) fun (g7 : ((Unit) × ((List Int) × (Int × (Int × Unit))))) => (Xc.bind (m_common_divisor_l (g7.2.1, ((gcdI g7.2.2.1 g7.2.2.2.1), ()))) fun t8 => (Xc.bind (if (decide (g7.2.2.2.1 < (0 : Int))) = true then (Xc.ok (g7.1, (g7.2.1, (g7.2.2.1, (g7.2.2.2.1, ((-t8), ())))))) else (Xc.ok (g7.1, (g7.2.1, (g7.2.2.1, (g7.2.2.2.1, (t8, ()))))))) fun (g10 : ((Unit) × ((List Int) × (Int × (Int × (Int × Unit)))))) => (Xc.bind (Xc.bind (compX (fun a11 => (Xc.ok true)) (fun a11 => (fdvX a11 g10.2.2.2.2.1)) g10.2.1) fun t12 => (Xc.ok (tu t12))) fun t13 => (Xc.bind (fdvX g10.2.2.1 g10.2.2.2.2.1) fun t14 => (Xc.bind (fdvX g10.2.2.2.1 g10.2.2.2.2.1) fun t15 => (Xc.ok (t13, (t14, (t15, (((HasLen.len t13 : Nat) : Int), ())))))))))))
def m_Affine___eq__ (z : Ty_Affine × Ty_Affine × Unit) : Xc Bool := (if true = true then (Xc.bind (eqdX z.1.v.1 z.2.1.v.1) fun t16 => (if t16 = true then (if (decide (z.1.v.2.1 = z.2.1.v.2.1)) = true then (Xc.ok (decide (z.1.v.2.2.1 = z.2.1.v.2.2.1))) else Xc.ok false) else Xc.ok false)) else Xc.ok false)
theorem refl_Affine___eq__ : ∀ (a : Ty_Affine) r, m_Affine___eq__ (a, (a, ())) = .ok r → r = true := by
  intro a r h
  unfold m_Affine___eq__ at h
  simp [bind_ok', eqdX_ok] at h
  exact h
def m__check (z : Str × Bool × Unit) : Xc Unit := (if (!z.2.1) = true then (raX (m_BadShape___init__ z.1) "BadShape" [("part", V.str z.1)]) else (Xc.ok ()))
def m__all_fit (z : (Sq Ty_Affine) × Int × Unit) : Xc Bool := (Xc.bind (compX (fun a18 => (Xc.ok true)) (fun a18 => (Xc.ok (decide (a18.v.2.2.2.1 = z.2.1)))) (Sq.l z.1)) fun t19 => (Xc.ok (List.all t19 id)))
def m_Task___init__ (z : Int × Int × Ty_Affine × (Sq Ty_Affine) × Ty_Affine × (Sq Ty_Affine) × Unit) : Xc (Int × Int × Ty_Affine × (Tu Ty_Affine) × Ty_Affine × (Tu Ty_Affine) × Unit) := (Xc.bind (Xc.bind (Xc.bind (Xc.bind (if (1 : Int) ≤ z.1 then (Xc.ok (decide (z.1 ≤ (3 : Int)))) else Xc.ok false) fun t20 => (Xc.ok (t20, ()))) fun t21 => (Xc.ok (("size" : Str), t21))) fun t22 => (m__check t22)) fun t23 => (Xc.bind (Xc.bind (Xc.bind (Xc.bind (if (1 : Int) ≤ z.2.1 then (Xc.ok (decide (z.2.1 ≤ (3 : Int)))) else Xc.ok false) fun t24 => (Xc.ok (t24, ()))) fun t25 => (Xc.ok (("replies" : Str), t25))) fun t26 => (m__check t26)) fun t27 => (Xc.bind (m__check (("cost" : Str), ((decide (z.2.2.1.v.2.2.2.1 = (z.1 + z.2.1))), ()))) fun t28 => (Xc.bind (Xc.bind (Xc.bind (Xc.bind (if (decide (((HasLen.len z.2.2.2.1 : Nat) : Int) ≤ (4 : Int))) = true then (m__all_fit (z.2.2.2.1, ((z.1 + z.2.1), ()))) else Xc.ok false) fun t29 => (Xc.ok (t29, ()))) fun t30 => (Xc.ok (("rules" : Str), t30))) fun t31 => (m__check t31)) fun t32 => (Xc.bind (m__check (("aim" : Str), ((decide (z.2.2.2.2.1.v.2.2.2.1 = (z.1 + z.2.1))), ()))) fun t33 => (Xc.bind (Xc.bind (Xc.bind (Xc.bind (Xc.bind (if (1 : Int) ≤ ((HasLen.len z.2.2.2.2.2.1 : Nat) : Int) then (Xc.ok (decide (((HasLen.len z.2.2.2.2.2.1 : Nat) : Int) ≤ (4 : Int)))) else Xc.ok false) fun t34 => (if t34 = true then (m__all_fit (z.2.2.2.2.2.1, ((z.1 + z.2.1), ()))) else Xc.ok false)) fun t35 => (Xc.ok (t35, ()))) fun t36 => (Xc.ok (("rows" : Str), t36))) fun t37 => (m__check t37)) fun t38 => (Xc.ok (z.1, (z.2.1, (z.2.2.1, ((tu (Sq.l z.2.2.2.1)), (z.2.2.2.2.1, ((tu (Sq.l z.2.2.2.2.2.1)), ())))))))))))))
def m_Task___eq__ (z : Ty_Task × Ty_Task × Unit) : Xc Bool := (if true = true then (if (decide (z.1.v.1 = z.2.1.v.1)) = true then (if (decide (z.1.v.2.1 = z.2.1.v.2.1)) = true then (Xc.bind (m_Affine___eq__ (z.1.v.2.2.1, (z.2.1.v.2.2.1, ()))) fun t41 => (if t41 = true then (Xc.bind (nerX (eqLX (fun a b => m_Affine___eq__ (a, (b, ()))) (Tu.l z.1.v.2.2.2.1) (Tu.l z.2.1.v.2.2.2.1))) fun t40 => (if t40 = true then (Xc.bind (m_Affine___eq__ (z.1.v.2.2.2.2.1, (z.2.1.v.2.2.2.2.1, ()))) fun t39 => (if t39 = true then (nerX (eqLX (fun a b => m_Affine___eq__ (a, (b, ()))) (Tu.l z.1.v.2.2.2.2.2.1) (Tu.l z.2.1.v.2.2.2.2.2.1))) else Xc.ok false)) else Xc.ok false)) else Xc.ok false)) else Xc.ok false) else Xc.ok false) else Xc.ok false)
def m__deed (z : (Tu (PyData ⊕ Ty_Affine)) × Unit) : Xc Str := (Xc.bind (Xc.bind (Xc.bind (Xc.bind (getX (Tu.l z.1) (0 : Int)) fun t42 => (unL t42)) fun t43 => (asD Str t43)) fun t44 => (Xc.ok (!decide (t44 ∈ Tu.l (tu [("put" : Str), ("insert" : Str), ("remove" : Str)]))))) fun t54 => (if t54 = true then (Xc.bind (Xc.bind (Xc.bind (getX (Tu.l z.1) (0 : Int)) fun t49 => (unL t49)) fun t50 => (asD Str t50)) fun t51 => (raX (m_UnknownName___init__ t51) "UnknownName" [("name", V.str t51)])) else (Xc.bind (Xc.bind (getX (Tu.l z.1) (0 : Int)) fun t52 => (unL t52)) fun t53 => (asD Str t53))))
def m__changed (z : (Tu Ty_Affine) × Str × Int × (Option Ty_Affine) × Unit) : Xc (List Ty_Affine) := (Xc.bind (if (decide (z.2.1 = ("insert" : Str))) = true then (Xc.ok ((HasLen.len z.1 : Nat) : Int)) else (Xc.ok (((HasLen.len z.1 : Nat) : Int) - (1 : Int)))) fun t55 => (Xc.bind (Xc.bind (if (0 : Int) ≤ z.2.2.1 then (Xc.ok (decide (z.2.2.1 ≤ t55))) else Xc.ok false) fun t56 => (Xc.ok (!t56))) fun t64 => (if t64 = true then (raX (m_BadShape___init__ ("place" : Str)) "BadShape" [("part", V.str ("place" : Str))]) else (Xc.bind (if (decide (z.2.1 = ("insert" : Str))) = true then (Xc.ok (tu (cutL (Tu.l z.1) (some z.2.2.1) none))) else (Xc.ok (tu (cutL (Tu.l z.1) (some (z.2.2.1 + (1 : Int))) none)))) fun t58 => (if (decide (z.2.1 = ("remove" : Str))) = true then (catL (Tu.l (tu (cutL (Tu.l z.1) none (some z.2.2.1)))) (Tu.l t58)) else (Xc.bind (Xc.bind (Xc.bind (Xc.bind (someX z.2.2.2.1) fun t60 => (Xc.ok (t60 :: ([] : List Ty_Affine)))) fun t61 => (szX t61)) fun t62 => (catL (Tu.l (tu (cutL (Tu.l z.1) none (some z.2.2.1)))) t62)) fun t63 => (catL t63 (Tu.l t58))))))))
def m__value (z : (Tu (PyData ⊕ Ty_Affine)) × Int × Unit) : Xc (Option Ty_Affine) := (Xc.bind (Xc.bind (Xc.bind (Xc.bind (getX (Tu.l z.1) (0 : Int)) fun t65 => (unL t65)) fun t66 => (asD Str t66)) fun t67 => (Xc.ok (decide (t67 = ("remove" : Str))))) fun t70 => (if t70 = true then (Xc.ok (none : Option Ty_Affine)) else (Xc.bind (Xc.bind (getX (Tu.l z.1) z.2.1) fun t68 => (unR t68)) fun t69 => (Xc.ok (some t69)))))
def m_edited_task (z : Ty_Task × (Tu (PyData ⊕ Ty_Affine)) × Unit) : Xc Ty_Task := (Xc.bind (m__deed (z.2.1, ())) fun t71 => (let k194 := fun (g315 : (Ty_Task × ((Tu (PyData ⊕ Ty_Affine)) × (Str × (Ty_Affine × ((Sq Ty_Affine) × (Ty_Affine × ((Sq Ty_Affine) × Unit)))))))) => (Xc.bind (m_Task___init__ (g315.1.v.1, (g315.1.v.2.1, (g315.2.2.2.1, (g315.2.2.2.2.1, (g315.2.2.2.2.2.1, (g315.2.2.2.2.2.2.1, ()))))))) fun t316 => (Xc.ok (⟨t316⟩ : Ty_Task))); (Xc.bind (Xc.bind (Xc.bind (Xc.bind (getX (Tu.l z.2.1) (1 : Int)) fun t72 => (unL t72)) fun t73 => (asD Str t73)) fun t74 => (Xc.ok (decide (t74 = ("rules" : Str))))) fun t314 => (if t314 = true then (Xc.bind (Xc.bind (Xc.bind (Xc.bind (Xc.bind (Xc.bind (Xc.bind (getX (Tu.l z.2.1) (2 : Int)) fun t195 => (unL t195)) fun t196 => (asI t196)) fun t198 => (Xc.bind (Xc.bind (m__value (z.2.1, ((3 : Int), ()))) fun t197 => (Xc.ok (t197, ()))) fun t199 => (Xc.ok (t198, t199)))) fun t200 => (Xc.ok (t71, t200))) fun t201 => (Xc.ok ((T4.mk z.1.v.2.2.1 z.1.v.2.2.2.1 z.1.v.2.2.2.2.1 z.1.v.2.2.2.2.2.1).b, t201))) fun t202 => (m__changed t202)) fun t203 => (k194 (z.1, (z.2.1, (t71, ((T4.mk z.1.v.2.2.1 z.1.v.2.2.2.1 z.1.v.2.2.2.2.1 z.1.v.2.2.2.2.2.1).a, ((sq t203), ((T4.mk z.1.v.2.2.1 z.1.v.2.2.2.1 z.1.v.2.2.2.2.1 z.1.v.2.2.2.2.2.1).c, ((sq (Tu.l (T4.mk z.1.v.2.2.1 z.1.v.2.2.2.1 z.1.v.2.2.2.2.1 z.1.v.2.2.2.2.2.1).d)), ()))))))))) else (let k259 := fun (g313 : (Ty_Task × ((Tu (PyData ⊕ Ty_Affine)) × (Str × (Ty_Affine × ((Tu Ty_Affine) × (Ty_Affine × ((Sq Ty_Affine) × Unit)))))))) => (k194 (g313.1, (g313.2.1, (g313.2.2.1, (g313.2.2.2.1, ((sq (Tu.l g313.2.2.2.2.1)), (g313.2.2.2.2.2.1, (g313.2.2.2.2.2.2.1, ())))))))); (Xc.bind (Xc.bind (Xc.bind (Xc.bind (getX (Tu.l z.2.1) (1 : Int)) fun t204 => (unL t204)) fun t205 => (asD Str t205)) fun t206 => (Xc.ok (decide (t206 = ("rows" : Str))))) fun t312 => (if t312 = true then (Xc.bind (Xc.bind (Xc.bind (Xc.bind (Xc.bind (Xc.bind (Xc.bind (getX (Tu.l z.2.1) (2 : Int)) fun t260 => (unL t260)) fun t261 => (asI t261)) fun t263 => (Xc.bind (Xc.bind (m__value (z.2.1, ((3 : Int), ()))) fun t262 => (Xc.ok (t262, ()))) fun t264 => (Xc.ok (t263, t264)))) fun t265 => (Xc.ok (t71, t265))) fun t266 => (Xc.ok ((T4.mk z.1.v.2.2.1 z.1.v.2.2.2.1 z.1.v.2.2.2.2.1 z.1.v.2.2.2.2.2.1).d, t266))) fun t267 => (m__changed t267)) fun t268 => (k259 (z.1, (z.2.1, (t71, ((T4.mk z.1.v.2.2.1 z.1.v.2.2.2.1 z.1.v.2.2.2.2.1 z.1.v.2.2.2.2.2.1).a, ((T4.mk z.1.v.2.2.1 z.1.v.2.2.2.1 z.1.v.2.2.2.2.1 z.1.v.2.2.2.2.2.1).b, ((T4.mk z.1.v.2.2.1 z.1.v.2.2.2.1 z.1.v.2.2.2.2.1 z.1.v.2.2.2.2.2.1).c, ((sq t268), ()))))))))) else (let k291 := fun (g311 : (Ty_Task × ((Tu (PyData ⊕ Ty_Affine)) × (Str × (Ty_Affine × ((Tu Ty_Affine) × (Ty_Affine × ((Tu Ty_Affine) × Unit)))))))) => (k259 (g311.1, (g311.2.1, (g311.2.2.1, (g311.2.2.2.1, (g311.2.2.2.2.1, (g311.2.2.2.2.2.1, ((sq (Tu.l g311.2.2.2.2.2.2.1)), ())))))))); (Xc.bind (Xc.bind (Xc.bind (Xc.bind (Xc.bind (getX (Tu.l z.2.1) (1 : Int)) fun t269 => (unL t269)) fun t270 => (asD Str t270)) fun t271 => (Xc.ok (decide (t271 = ("cost" : Str))))) fun t272 => (if t272 = true then (Xc.ok (decide (t71 = ("put" : Str)))) else Xc.ok false)) fun t310 => (if t310 = true then (Xc.bind (Xc.bind (getX (Tu.l z.2.1) (2 : Int)) fun t292 => (unR t292)) fun t293 => (k291 (z.1, (z.2.1, (t71, (t293, ((T4.mk z.1.v.2.2.1 z.1.v.2.2.2.1 z.1.v.2.2.2.2.1 z.1.v.2.2.2.2.2.1).b, ((T4.mk z.1.v.2.2.1 z.1.v.2.2.2.1 z.1.v.2.2.2.2.1 z.1.v.2.2.2.2.2.1).c, ((T4.mk z.1.v.2.2.1 z.1.v.2.2.2.1 z.1.v.2.2.2.2.1 z.1.v.2.2.2.2.2.1).d, ()))))))))) else (Xc.bind (Xc.bind (Xc.bind (Xc.bind (Xc.bind (getX (Tu.l z.2.1) (1 : Int)) fun t294 => (unL t294)) fun t295 => (asD Str t295)) fun t296 => (Xc.ok (decide (t296 = ("aim" : Str))))) fun t297 => (if t297 = true then (Xc.ok (decide (t71 = ("put" : Str)))) else Xc.ok false)) fun t309 => (if t309 = true then (Xc.bind (Xc.bind (getX (Tu.l z.2.1) (2 : Int)) fun t304 => (unR t304)) fun t305 => (k291 (z.1, (z.2.1, (t71, ((T4.mk z.1.v.2.2.1 z.1.v.2.2.2.1 z.1.v.2.2.2.2.1 z.1.v.2.2.2.2.2.1).a, ((T4.mk z.1.v.2.2.1 z.1.v.2.2.2.1 z.1.v.2.2.2.2.1 z.1.v.2.2.2.2.2.1).b, (t305, ((T4.mk z.1.v.2.2.1 z.1.v.2.2.2.1 z.1.v.2.2.2.2.1 z.1.v.2.2.2.2.2.1).d, ()))))))))) else (Xc.bind (Xc.bind (Xc.bind (getX (Tu.l z.2.1) (1 : Int)) fun t306 => (unL t306)) fun t307 => (asD Str t307)) fun t308 => (raX (m_UnknownName___init__ t308) "UnknownName" [("name", V.str t308)]))))))))))))))
def m__law_draws (z : (List Int) × Int × Unit) : Xc (List Int) := (Xc.bind (foldX (fun (g426 : ((List Int) × (Int × (List Int × Unit)))) a427 => (Xc.bind (Xc.bind (Xc.bind (powX (10 : Int) (18 : Int)) fun t428 => (Xc.ok (decide (t428 ≤ a427)))) fun t534 => (if t534 = true then (Xc.bind (Xc.bind (rngX 0 (60 : Int)) fun t508 => (foldX (fun (g493 : ((List Int) × (Int × (List Int × (Int × (Int × Unit)))))) a494 => (Xc.bind (Xc.bind (if (decide ((0 : Int) < g493.2.2.2.2.1)) = true then (Xc.ok (decide (((HasLen.len g493.2.2.1 : Nat) : Int) < g493.2.1))) else Xc.ok false) fun t504 => (if t504 = true then (Xc.bind (modX g493.2.2.2.2.1 (1000 : Int)) fun t500 => (Xc.bind (appX g493.2.2.1 t500) fun t501 => (Xc.bind (fdvX g493.2.2.2.2.1 (1000 : Int)) fun t502 => (Xc.ok (g493.1, (g493.2.1, (t501, (g493.2.2.2.1, (t502, (a494, ())))))))))) else (Xc.ok (g493.1, (g493.2.1, (g493.2.2.1, (g493.2.2.2.1, (g493.2.2.2.2.1, (a494, ()))))))))) fun (g505 : ((List Int) × (Int × (List Int × (Int × (Int × (Int × Unit))))))) => (Xc.ok (g505.1, (g505.2.1, (g505.2.2.1, (g505.2.2.2.1, (g505.2.2.2.2.1, ())))))))) t508 (g426.1, (g426.2.1, (g426.2.2.1, (a427, (a427, ()))))))) fun (g507 : ((List Int) × (Int × (List Int × (Int × (Int × Unit)))))) => (Xc.ok (g507.1, (g507.2.1, (g507.2.2.1, (g507.2.2.2.1, (g507.2.2.2.2.1, ()))))))) else (Xc.bind (if (decide (((HasLen.len g426.2.2.1 : Nat) : Int) < g426.2.1)) = true then (Xc.bind (Xc.bind (Xc.bind (Xc.bind (Xc.bind (Xc.bind (Xc.bind (Xc.bind (Xc.bind (mulX a427 (48271 : Int)) fun t520 => (Xc.ok (t520 + (11 : Int)))) fun t521 => (Xc.ok t521)) fun t522 => (modX t522 (65537 : Int))) fun t523 => (mulX t523 (31 : Int))) fun t524 => (Xc.ok (t524 + (7 : Int)))) fun t525 => (Xc.ok t525)) fun t526 => (modX t526 (1009 : Int))) fun t527 => (modX t527 (1000 : Int))) fun t529 => (Xc.bind (appX g426.2.2.1 t529) fun t530 => (Xc.ok (g426.1, (g426.2.1, (t530, (a427, (a427, ())))))))) else (Xc.ok (g426.1, (g426.2.1, (g426.2.2.1, (a427, (a427, ()))))))) fun (g532 : ((List Int) × (Int × (List Int × (Int × (Int × Unit)))))) => (Xc.ok (g532.1, (g532.2.1, (g532.2.2.1, (g532.2.2.2.1, (g532.2.2.2.2.1, ()))))))))) fun (g535 : ((List Int) × (Int × (List Int × (Int × (Int × Unit)))))) => (Xc.ok (g535.1, (g535.2.1, (g535.2.2.1, ())))))) z.1 (z.1, (z.2.1, (([] : List Int), ())))) fun (g537 : ((List Int) × (Int × (List Int × Unit)))) => (let vseed_538 : Int := ((7 : Int) + ((HasLen.len g537.1 : Nat) : Int)); (Xc.bind (foldX (fun (g544 : ((List Int) × (Int × (List Int × (Int × Unit))))) a545 => (Xc.bind (Xc.bind (Xc.bind (Xc.bind (mulX g544.2.2.2.1 (31 : Int)) fun t546 => (Xc.ok (t546 + a545))) fun t547 => (Xc.ok t547)) fun t548 => (modX t548 (1000003 : Int))) fun t549 => (Xc.ok (g544.1, (g544.2.1, (g544.2.2.1, (t549, ()))))))) g537.1 (g537.1, (g537.2.1, (g537.2.2.1, (vseed_538, ()))))) fun (g551 : ((List Int) × (Int × (List Int × (Int × Unit))))) => (Xc.bind (Xc.bind (rngX 0 g551.2.1) fun t593 => (foldX (fun (g571 : ((List Int) × (Int × (List Int × (Int × Unit))))) a572 => (Xc.bind (if (decide (((HasLen.len g571.2.2.1 : Nat) : Int) < g571.2.1)) = true then (Xc.bind (Xc.bind (Xc.bind (Xc.bind (mulX g571.2.2.2.1 (48271 : Int)) fun t581 => (Xc.ok (t581 + (69621 : Int)))) fun t582 => (Xc.ok t582)) fun t583 => (modX t583 (2147483647 : Int))) fun t584 => (Xc.bind (Xc.bind (fdvX t584 (1000 : Int)) fun t585 => (modX t585 (1000 : Int))) fun t587 => (Xc.bind (appX g571.2.2.1 t587) fun t588 => (Xc.ok (g571.1, (g571.2.1, (t588, (a572, (t584, ()))))))))) else (Xc.ok (g571.1, (g571.2.1, (g571.2.2.1, (a572, (g571.2.2.2.1, ()))))))) fun (g590 : ((List Int) × (Int × (List Int × (Int × (Int × Unit)))))) => (Xc.ok (g590.1, (g590.2.1, (g590.2.2.1, (g590.2.2.2.2.1, ()))))))) t593 (g551.1, (g551.2.1, (g551.2.2.1, (g551.2.2.2.1, ())))))) fun (g592 : ((List Int) × (Int × (List Int × (Int × Unit))))) => (Xc.ok g592.2.2.1)))))
def m__law_gcd (z : Int × Int × Unit) : Xc Int := (Xc.bind (Xc.bind (Xc.bind (mulX (2 : Int) ((Builtin.Int.intBits (absI z.2.1) : Nat) : Int)) fun t600 => (Xc.ok (t600 + (2 : Int)))) fun t601 => (rngX 0 t601)) fun t606 => (forK (forX (fun (g599 : (Int × (Int × Unit))) a602 => (if (decide (g599.2.1 = (0 : Int))) = true then (Xc.ok (Lp.rt g599.1)) else (Xc.bind (modX g599.1 g599.2.1) fun t604 => (Xc.ok (Lp.ct (g599.2.1, (t604, ()))))))) t606 ((absI z.1), ((absI z.2.1), ()))) id fun (g605 : (Int × (Int × Unit))) => (Xc.ok g605.1)))
def m__law_values (z : (List Int) × Int × Int × Unit) : Xc (List Int) := (Xc.bind (Xc.bind (Xc.bind (Xc.bind (Xc.bind (Xc.bind (modX z.2.1 ((HasLen.len z.1 : Nat) : Int)) fun t610 => (getX z.1 t610)) fun t611 => (modX t611 (19 : Int))) fun t612 => (Xc.ok (t612 - (9 : Int)))) fun t613 => (Xc.ok (t613 :: ([] : List Int)))) fun t614 => (szX t614)) fun t615 => (Xc.bind (Xc.bind (rngX 0 z.2.2.1) fun t639 => (foldX (fun (g626 : ((List Int) × (Int × (Int × (List Int × Unit))))) a627 => (Xc.bind (Xc.bind (Xc.bind (Xc.bind (Xc.bind (Xc.bind (modX (g626.2.1 + a627) ((HasLen.len g626.1 : Nat) : Int)) fun t628 => (getX g626.1 t628)) fun t629 => (fdvX t629 (3 : Int))) fun t630 => (Xc.bind (mulX (5 : Int) a627) fun t631 => (Xc.ok (t630 + t631)))) fun t632 => (modX t632 (19 : Int))) fun t633 => (Xc.ok (t633 - (9 : Int)))) fun t635 => (Xc.bind (appX g626.2.2.2.1 t635) fun t636 => (Xc.ok (g626.1, (g626.2.1, (g626.2.2.1, (t636, ())))))))) t639 (z.1, (z.2.1, (z.2.2.1, (t615, ())))))) fun (g638 : ((List Int) × (Int × (Int × (List Int × Unit))))) => (Xc.bind (Xc.bind (Xc.bind (Xc.bind (Xc.bind (modX g638.2.1 ((HasLen.len g638.1 : Nat) : Int)) fun t640 => (getX g638.1 t640)) fun t641 => (fdvX t641 (19 : Int))) fun t642 => (modX t642 (3 : Int))) fun t643 => (Xc.ok ((1 : Int) + t643))) fun t645 => (Xc.bind (appX g638.2.2.2.1 t645) fun t646 => (Xc.bind (foldX (fun (g649 : ((List Int) × (Int × (Int × ((List Int) × (Int × Unit)))))) a650 => (Xc.bind (m__law_gcd (g649.2.2.2.2.1, (a650, ()))) fun t651 => (Xc.ok (g649.1, (g649.2.1, (g649.2.2.1, (g649.2.2.2.1, (t651, ())))))))) t646 (g638.1, (g638.2.1, (g638.2.2.1, (t646, ((0 : Int), ())))))) fun (g653 : ((List Int) × (Int × (Int × ((List Int) × (Int × Unit)))))) => (compX (fun a654 => (Xc.ok true)) (fun a654 => (fdvX a654 g653.2.2.2.2.1)) g653.2.2.2.1))))))
def m__law_function (z : (List Int) × Unit) : Xc Ty_Affine := (Xc.bind (Xc.bind (Xc.bind (getX z.1 (0 : Int)) fun t656 => (Xc.bind (Xc.bind (getX z.1 (-(1 : Int))) fun t655 => (Xc.ok (t655, ()))) fun t657 => (Xc.ok (t656, t657)))) fun t658 => (Xc.ok ((cutL z.1 (some (1 : Int)) (some (-(1 : Int)))), t658))) fun t659 => (Xc.bind (m_Affine___init___l t659) fun t660 => (Xc.ok (⟨t660⟩ : Ty_Affine))))
def m__law_read (z : Ty_Affine × Unit) : Xc (List Int) := (Xc.bind (Xc.bind (szX (z.1.v.2.1 :: ([] : List Int))) fun t661 => (catL t661 (Tu.l z.1.v.1))) fun t662 => (Xc.bind (szX (z.1.v.2.2.1 :: ([] : List Int))) fun t663 => (catL t662 t663)))
def m__law_same (z : (Ty_Task ⊕ (Option (Str × Str))) × (List PyData) × Unit) : Xc Bool := (Xc.bind (if (!((Sum.elim (fun _ => true) (optB false (fun _ => false))) z.1)) = true then Xc.ok true else (Xc.bind (Xc.bind (Xc.bind (unL z.1) fun t665 => (Xc.ok t665.v.1)) fun t667 => (Xc.bind (Xc.bind (getX z.2.1 (0 : Int)) fun t666 => (asI t666)) fun t668 => (Xc.ok (!decide (t667 = t668))))) fun t674 => (if t674 = true then Xc.ok true else (Xc.bind (Xc.bind (unL z.1) fun t670 => (Xc.ok t670.v.2.1)) fun t672 => (Xc.bind (Xc.bind (getX z.2.1 (1 : Int)) fun t671 => (asI t671)) fun t673 => (Xc.ok (!decide (t672 = t673)))))))) fun t764 => (if t764 = true then (Xc.ok false) else (Xc.bind (Xc.bind (Xc.bind (Xc.bind (Xc.bind (unL z.1) fun t677 => (Xc.ok t677.v.2.2.2.1)) fun t678 => (isiX (HasTy.ty t678) "tuple")) fun t679 => (Xc.ok (!t679))) fun t684 => (if t684 = true then Xc.ok true else (Xc.bind (Xc.bind (Xc.bind (unL z.1) fun t681 => (Xc.ok t681.v.2.2.2.2.2.1)) fun t682 => (isiX (HasTy.ty t682) "tuple")) fun t683 => (Xc.ok (!t683))))) fun t763 => (if t763 = true then (Xc.ok false) else (Xc.bind (Xc.bind (Xc.bind (Xc.bind (Xc.bind (Xc.bind (unL z.1) fun t689 => (Xc.ok t689.v.2.2.1)) fun t690 => (Xc.ok (t690, ()))) fun t691 => (m__law_read t691)) fun t693 => (Xc.bind (Xc.bind (getX z.2.1 (2 : Int)) fun t692 => (asD (List Int) t692)) fun t694 => (Xc.bind (eqdX t693 t694) fun t => Xc.ok (!t)))) fun t704 => (if t704 = true then Xc.ok true else (Xc.bind (Xc.bind (Xc.bind (Xc.bind (unL z.1) fun t698 => (Xc.ok t698.v.2.2.2.2.1)) fun t699 => (Xc.ok (t699, ()))) fun t700 => (m__law_read t700)) fun t702 => (Xc.bind (Xc.bind (getX z.2.1 (4 : Int)) fun t701 => (asD (List Int) t701)) fun t703 => (Xc.bind (eqdX t702 t703) fun t => Xc.ok (!t)))))) fun t762 => (if t762 = true then (Xc.ok false) else (Xc.bind (Xc.bind (Xc.bind (Xc.bind (Xc.bind (Xc.bind (unL z.1) fun t710 => (Xc.ok t710.v.2.2.2.1)) fun t711 => (Xc.ok (Tu.l t711))) fun t713 => (compX (fun a712 => (Xc.ok true)) (fun a712 => (m__law_read (a712, ()))) t713)) fun t715 => (Xc.bind (Xc.bind (getX z.2.1 (3 : Int)) fun t714 => (asD (List (List Int)) t714)) fun t716 => (Xc.bind (eqdX t715 t716) fun t => Xc.ok (!t)))) fun t728 => (if t728 = true then Xc.ok true else (Xc.bind (Xc.bind (Xc.bind (Xc.bind (unL z.1) fun t721 => (Xc.ok t721.v.2.2.2.2.2.1)) fun t722 => (Xc.ok (Tu.l t722))) fun t724 => (compX (fun a723 => (Xc.ok true)) (fun a723 => (m__law_read (a723, ()))) t724)) fun t726 => (Xc.bind (Xc.bind (getX z.2.1 (5 : Int)) fun t725 => (asD (List (List Int)) t725)) fun t727 => (Xc.bind (eqdX t726 t727) fun t => Xc.ok (!t)))))) fun t761 => (if t761 = true then (Xc.ok false) else (Xc.bind (Xc.bind (Xc.bind (getX z.2.1 (3 : Int)) fun t730 => (asD (List (List Int)) t730)) fun t732 => (compX (fun a731 => (Xc.ok true)) (fun a731 => (m__law_function (a731, ()))) t732)) fun t733 => (Xc.bind (Xc.bind (Xc.bind (getX z.2.1 (5 : Int)) fun t734 => (asD (List (List Int)) t734)) fun t736 => (compX (fun a735 => (Xc.ok true)) (fun a735 => (m__law_function (a735, ()))) t736)) fun t737 => (Xc.bind (Xc.bind (Xc.bind (Xc.bind (getX z.2.1 (0 : Int)) fun t738 => (asI t738)) fun t752 => (Xc.bind (Xc.bind (Xc.bind (getX z.2.1 (1 : Int)) fun t739 => (asI t739)) fun t750 => (Xc.bind (Xc.bind (Xc.bind (Xc.bind (Xc.bind (getX z.2.1 (2 : Int)) fun t740 => (asD (List Int) t740)) fun t741 => (Xc.ok (t741, ()))) fun t742 => (m__law_function t742)) fun t748 => (Xc.bind (Xc.bind (Xc.bind (Xc.bind (Xc.bind (Xc.bind (getX z.2.1 (4 : Int)) fun t743 => (asD (List Int) t743)) fun t744 => (Xc.ok (t744, ()))) fun t745 => (m__law_function t745)) fun t746 => (Xc.ok (t746, ((sq t737), ())))) fun t747 => (Xc.ok ((sq t733), t747))) fun t749 => (Xc.ok (t748, t749)))) fun t751 => (Xc.ok (t750, t751)))) fun t753 => (Xc.ok (t752, t753)))) fun t754 => (Xc.bind (m_Task___init__ t754) fun t755 => (Xc.ok (⟨t755⟩ : Ty_Task)))) fun t756 => (Xc.bind (Xc.bind (unL z.1) fun t757 => (m_Task___eq__ (t757, (t756, ())))) fun t760 => (if t760 = true then (Xc.bind (Xc.bind (unL z.1) fun t758 => (Xc.bind (nerX (m_Task___eq__ (t758, (t756, ())))) fun t => Xc.ok (!t))) fun t759 => (Xc.ok (!t759))) else Xc.ok false)))))))))))))
def m__law_due (z : (List PyData) × Str × Str × Int × (List Int) × Unit) : Xc ((Str × Str) ⊕ (List PyData)) := (Xc.bind (Xc.bind (szX (("put" : Str) :: (("insert" : Str) :: (("remove" : Str) :: ([] : List Str))))) fun t765 => (Xc.bind (inDX z.2.1 t765) fun t => Xc.ok (!t))) fun t850 => (if t850 = true then (Xc.ok (Sum.inl (("name" : Str), z.2.1) : ((Str × Str) ⊕ (List PyData)))) else (Xc.bind (Xc.bind (Xc.bind (szX (("rules" : Str) :: (("rows" : Str) :: (("cost" : Str) :: (("aim" : Str) :: ([] : List Str)))))) fun t767 => (Xc.bind (inDX z.2.2.1 t767) fun t => Xc.ok (!t))) fun t770 => (if t770 = true then Xc.ok true else (Xc.bind (Xc.bind (szX (("cost" : Str) :: (("aim" : Str) :: ([] : List Str)))) fun t768 => (inDX z.2.2.1 t768)) fun t769 => (if t769 = true then (Xc.ok (!decide (z.2.1 = ("put" : Str)))) else Xc.ok false)))) fun t849 => (if t849 = true then (Xc.ok (Sum.inl (("name" : Str), z.2.2.1) : ((Str × Str) ⊕ (List PyData)))) else (Xc.bind (Xc.bind (Xc.bind (Xc.bind (getX z.1 (0 : Int)) fun t772 => (asI t772)) fun t774 => (Xc.bind (Xc.bind (getX z.1 (1 : Int)) fun t773 => (asI t773)) fun t775 => (Xc.ok (t774 + t775)))) fun t776 => (Xc.ok (t776 + (2 : Int)))) fun t777 => (Xc.bind (if (decide (z.2.2.1 = ("cost" : Str))) = true then Xc.ok true else (Xc.ok (decide (z.2.2.1 = ("aim" : Str))))) fun t848 => (if t848 = true then (if (!decide (((HasLen.len z.2.2.2.2.1 : Nat) : Int) = t777)) = true then (Xc.ok (Sum.inl (("shape" : Str), z.2.2.1) : ((Str × Str) ⊕ (List PyData)))) else (if (decide (z.2.2.1 = ("cost" : Str))) = true then (Xc.bind (Xc.bind (Xc.bind (Xc.bind (Xc.bind (datX z.2.2.2.2.1) fun t803 => (Xc.ok (t803 :: ([] : List PyData)))) fun t804 => (szX t804)) fun t805 => (catL (cutL z.1 none (some (2 : Int))) t805)) fun t806 => (catL t806 (cutL z.1 (some (3 : Int)) none))) fun t807 => (Xc.ok (Sum.inr t807 : ((Str × Str) ⊕ (List PyData))))) else (Xc.bind (Xc.bind (Xc.bind (Xc.bind (Xc.bind (datX z.2.2.2.2.1) fun t808 => (Xc.ok (t808 :: ([] : List PyData)))) fun t809 => (szX t809)) fun t810 => (catL (cutL z.1 none (some (4 : Int))) t810)) fun t811 => (catL t811 (cutL z.1 (some (5 : Int)) none))) fun t812 => (Xc.ok (Sum.inr t812 : ((Str × Str) ⊕ (List PyData))))))) else (Xc.bind (if (decide (z.2.2.1 = ("rules" : Str))) = true then (Xc.ok (3 : Int)) else (Xc.ok (5 : Int))) fun t813 => (Xc.bind (Xc.bind (Xc.bind (getX z.1 t813) fun t814 => (asD (List (List Int)) t814)) fun t815 => (Xc.ok t815)) fun t816 => (Xc.bind (if (decide (z.2.1 = ("insert" : Str))) = true then (Xc.ok ((HasLen.len t816 : Nat) : Int)) else (Xc.ok (((HasLen.len t816 : Nat) : Int) - (1 : Int)))) fun t817 => (Xc.bind (if (decide (z.2.2.2.1 < (0 : Int))) = true then Xc.ok true else (Xc.ok (decide (t817 < z.2.2.2.1)))) fun t847 => (if t847 = true then (Xc.ok (Sum.inl (("shape" : Str), ("place" : Str)) : ((Str × Str) ⊕ (List PyData)))) else (Xc.bind (if (decide (z.2.1 = ("put" : Str))) = true then (Xc.bind (setX t816 z.2.2.2.1 z.2.2.2.2.1) fun t826 => (Xc.ok (z.1, (z.2.1, (z.2.2.1, (z.2.2.2.1, (z.2.2.2.2.1, (t777, (t813, (t826, (t817, ()))))))))))) else (Xc.bind (if (decide (z.2.1 = ("insert" : Str))) = true then (Xc.bind (insX t816 z.2.2.2.1 z.2.2.2.2.1) fun t829 => (Xc.ok (z.1, (z.2.1, (z.2.2.1, (z.2.2.2.1, (z.2.2.2.2.1, (t777, (t813, (t829, (t817, ()))))))))))) else (Xc.bind (popX t816 z.2.2.2.1) fun t830 => (Xc.ok (z.1, (z.2.1, (z.2.2.1, (z.2.2.2.1, (z.2.2.2.2.1, (t777, (t813, (t830, (t817, ())))))))))))) fun (g832 : ((List PyData) × (Str × (Str × (Int × ((List Int) × (Int × (Int × (List (List Int) × (Int × Unit)))))))))) => (Xc.ok (g832.1, (g832.2.1, (g832.2.2.1, (g832.2.2.2.1, (g832.2.2.2.2.1, (g832.2.2.2.2.2.1, (g832.2.2.2.2.2.2.1, (g832.2.2.2.2.2.2.2.1, (g832.2.2.2.2.2.2.2.2.1, ())))))))))))) fun (g834 : ((List PyData) × (Str × (Str × (Int × ((List Int) × (Int × (Int × (List (List Int) × (Int × Unit)))))))))) => (Xc.bind (if (decide ((4 : Int) < ((HasLen.len g834.2.2.2.2.2.2.2.1 : Nat) : Int))) = true then Xc.ok true else (if (decide (g834.2.2.1 = ("rows" : Str))) = true then (Xc.ok (decide (((HasLen.len g834.2.2.2.2.2.2.2.1 : Nat) : Int) < (1 : Int)))) else Xc.ok false)) fun t846 => (if t846 = true then (Xc.ok (Sum.inl (("shape" : Str), g834.2.2.1) : ((Str × Str) ⊕ (List PyData)))) else (Xc.bind (Xc.bind (Xc.bind (compX (fun a836 => (Xc.ok (!decide (((HasLen.len a836 : Nat) : Int) = g834.2.2.2.2.2.1)))) (fun a836 => (Xc.ok a836)) g834.2.2.2.2.2.2.2.1) fun t837 => (Xc.ok ((HasLen.len t837 : Nat) : Int))) fun t838 => (Xc.ok (decide ((0 : Int) < t838)))) fun t845 => (if t845 = true then (Xc.ok (Sum.inl (("shape" : Str), g834.2.2.1) : ((Str × Str) ⊕ (List PyData)))) else (Xc.bind (Xc.bind (Xc.bind (Xc.bind (Xc.bind (datX g834.2.2.2.2.2.2.2.1) fun t840 => (Xc.ok (t840 :: ([] : List PyData)))) fun t841 => (szX t841)) fun t842 => (catL (cutL g834.1 none (some g834.2.2.2.2.2.2.1)) t842)) fun t843 => (catL t843 (cutL g834.1 (some (g834.2.2.2.2.2.2.1 + (1 : Int))) none))) fun t844 => (Xc.ok (Sum.inr t844 : ((Str × Str) ⊕ (List PyData))))))))))))))))))))))
def m__law_edit (z : Str × Str × Int × (List Int) × Unit) : Xc (Tu (PyData ⊕ Ty_Affine)) := (Xc.bind (if (decide (z.2.1 = ("cost" : Str))) = true then Xc.ok true else (Xc.ok (decide (z.2.1 = ("aim" : Str))))) fun t901 => (if t901 = true then (Xc.bind (Xc.bind (Xc.bind (datX z.1) fun t861 => (Xc.ok (Sum.inl t861 : (PyData ⊕ Ty_Affine)))) fun t867 => (Xc.bind (Xc.bind (Xc.bind (datX z.2.1) fun t862 => (Xc.ok (Sum.inl t862 : (PyData ⊕ Ty_Affine)))) fun t865 => (Xc.bind (Xc.bind (Xc.bind (m__law_function (z.2.2.2.1, ())) fun t863 => (Xc.ok (Sum.inr t863 : (PyData ⊕ Ty_Affine)))) fun t864 => (Xc.ok (t864 :: ([] : List (PyData ⊕ Ty_Affine))))) fun t866 => (Xc.ok (t865 :: t866)))) fun t868 => (Xc.ok (t867 :: t868)))) fun t869 => (Xc.bind (szX t869) fun l => Xc.ok (tu l))) else (if (decide (z.1 = ("remove" : Str))) = true then (Xc.bind (Xc.bind (Xc.bind (datX z.1) fun t880 => (Xc.ok (Sum.inl t880 : (PyData ⊕ Ty_Affine)))) fun t886 => (Xc.bind (Xc.bind (Xc.bind (datX z.2.1) fun t881 => (Xc.ok (Sum.inl t881 : (PyData ⊕ Ty_Affine)))) fun t884 => (Xc.bind (Xc.bind (Xc.bind (datX z.2.2.1) fun t882 => (Xc.ok (Sum.inl t882 : (PyData ⊕ Ty_Affine)))) fun t883 => (Xc.ok (t883 :: ([] : List (PyData ⊕ Ty_Affine))))) fun t885 => (Xc.ok (t884 :: t885)))) fun t887 => (Xc.ok (t886 :: t887)))) fun t888 => (Xc.bind (szX t888) fun l => Xc.ok (tu l))) else (Xc.bind (Xc.bind (Xc.bind (datX z.1) fun t889 => (Xc.ok (Sum.inl t889 : (PyData ⊕ Ty_Affine)))) fun t898 => (Xc.bind (Xc.bind (Xc.bind (datX z.2.1) fun t890 => (Xc.ok (Sum.inl t890 : (PyData ⊕ Ty_Affine)))) fun t896 => (Xc.bind (Xc.bind (Xc.bind (datX z.2.2.1) fun t891 => (Xc.ok (Sum.inl t891 : (PyData ⊕ Ty_Affine)))) fun t894 => (Xc.bind (Xc.bind (Xc.bind (m__law_function (z.2.2.2.1, ())) fun t892 => (Xc.ok (Sum.inr t892 : (PyData ⊕ Ty_Affine)))) fun t893 => (Xc.ok (t893 :: ([] : List (PyData ⊕ Ty_Affine))))) fun t895 => (Xc.ok (t894 :: t895)))) fun t897 => (Xc.ok (t896 :: t897)))) fun t899 => (Xc.ok (t898 :: t899)))) fun t900 => (Xc.bind (szX t900) fun l => Xc.ok (tu l))))))
def m__law_told (z : Ty_Task × (Tu (PyData ⊕ Ty_Affine)) × Unit) : Xc (Ty_Task ⊕ (Option (Str × Str))) := (joinM (catF [(⟨catchL "UnknownName" [("BadShape" : Str)], fun _ e904 k939 => (Xc.bind (if true = true then (Xc.ok (!false)) else Xc.ok false) fun t949 => (if t949 = true then (Xc.bind (Xc.bind (Xc.bind (Xc.bind (fldS e904.1 "name") fun t945 => (Xc.ok (("name" : Str), t945))) fun t946 => (Xc.ok (some t946))) fun t947 => (Xc.ok (Sum.inr t947 : (Ty_Task ⊕ (Option (Str × Str)))))) fun t948 => (Xc.ok (Sum.inr t948))) else (k939 (e904.2.1, (e904.2.2.1, ())))))⟩ : Hd (Ty_Task × ((Tu (PyData ⊕ Ty_Affine)) × Unit)) (Ty_Task × ((Tu (PyData ⊕ Ty_Affine)) × Unit)) (Ty_Task ⊕ (Option (Str × Str)))), (⟨catchL "BadShape" [("UnknownName" : Str)], fun _ e915 k928 => (Xc.bind (if true = true then (Xc.ok (!false)) else Xc.ok false) fun t938 => (if t938 = true then (Xc.bind (Xc.bind (Xc.bind (Xc.bind (fldS e915.1 "part") fun t934 => (Xc.ok (("shape" : Str), t934))) fun t935 => (Xc.ok (some t935))) fun t936 => (Xc.ok (Sum.inr t936 : (Ty_Task ⊕ (Option (Str × Str)))))) fun t937 => (Xc.ok (Sum.inr t937))) else (k928 (e915.2.1, (e915.2.2.1, ())))))⟩ : Hd (Ty_Task × ((Tu (PyData ⊕ Ty_Affine)) × Unit)) (Ty_Task × ((Tu (PyData ⊕ Ty_Affine)) × Unit)) (Ty_Task ⊕ (Option (Str × Str))))] (Xc.bind (Xc.bind (m_edited_task (z.1, (z.2.1, ()))) fun t926 => (Xc.ok (Sum.inl t926 : (Ty_Task ⊕ (Option (Str × Str)))))) fun t927 => (Xc.ok (Sum.inr t927))) (z.1, (z.2.1, ()))) fun (g950 : (Ty_Task × ((Tu (PyData ⊕ Ty_Affine)) × Unit))) => (Xc.ok (Sum.inr (none : Option (Str × Str)) : (Ty_Task ⊕ (Option (Str × Str))))))
def m_law (z : (List Int) × Unit) : Xc Bool := (Xc.bind (m__law_draws (z.1, ((60 : Int), ()))) fun t951 => (Xc.bind (Xc.bind (Xc.bind (getX t951 (0 : Int)) fun t952 => (modX t952 (3 : Int))) fun t953 => (Xc.ok ((1 : Int) + t953))) fun t954 => (Xc.bind (Xc.bind (Xc.bind (Xc.bind (getX t951 (0 : Int)) fun t955 => (fdvX t955 (3 : Int))) fun t956 => (modX t956 (3 : Int))) fun t957 => (Xc.ok ((1 : Int) + t957))) fun t958 => (Xc.bind (Xc.bind (Xc.bind (Xc.bind (getX t951 (1 : Int)) fun t959 => (modX t959 (5 : Int))) fun t960 => (rngX 0 t960)) fun t966 => (compX (fun a961 => (Xc.ok true)) (fun a961 => (Xc.bind (Xc.bind (Xc.bind (Xc.bind (mulX (5 : Int) a961) fun t962 => (Xc.ok ((7 : Int) + t962))) fun t963 => (Xc.ok (t963, ((t954 + t958), ())))) fun t964 => (Xc.ok (t951, t964))) fun t965 => (m__law_values t965))) t966)) fun t967 => (Xc.bind (Xc.bind (Xc.bind (Xc.bind (Xc.bind (getX t951 (2 : Int)) fun t968 => (modX t968 (4 : Int))) fun t969 => (Xc.ok ((1 : Int) + t969))) fun t970 => (rngX 0 t970)) fun t976 => (compX (fun a971 => (Xc.ok true)) (fun a971 => (Xc.bind (Xc.bind (Xc.bind (Xc.bind (mulX (7 : Int) a971) fun t972 => (Xc.ok ((31 : Int) + t972))) fun t973 => (Xc.ok (t973, ((t954 + t958), ())))) fun t974 => (Xc.ok (t951, t974))) fun t975 => (m__law_values t975))) t976)) fun t977 => (Xc.bind (Xc.bind (Xc.bind (datX t954) fun t989 => (Xc.bind (Xc.bind (datX t958) fun t987 => (Xc.bind (Xc.bind (Xc.bind (m__law_values (t951, ((3 : Int), ((t954 + t958), ())))) fun t978 => (datX t978)) fun t985 => (Xc.bind (Xc.bind (datX t967) fun t983 => (Xc.bind (Xc.bind (Xc.bind (m__law_values (t951, ((11 : Int), ((t954 + t958), ())))) fun t979 => (datX t979)) fun t981 => (Xc.bind (Xc.bind (datX t977) fun t980 => (Xc.ok (t980 :: ([] : List PyData)))) fun t982 => (Xc.ok (t981 :: t982)))) fun t984 => (Xc.ok (t983 :: t984)))) fun t986 => (Xc.ok (t985 :: t986)))) fun t988 => (Xc.ok (t987 :: t988)))) fun t990 => (Xc.ok (t989 :: t990)))) fun t991 => (szX t991)) fun t992 => (Xc.bind (Xc.bind (Xc.bind (Xc.bind (Xc.bind (Xc.bind (Xc.bind (Xc.bind (getX t992 (2 : Int)) fun t993 => (asD (List Int) t993)) fun t994 => (Xc.ok (t994, ()))) fun t995 => (m__law_function t995)) fun t1008 => (Xc.bind (Xc.bind (Xc.bind (compX (fun a996 => (Xc.ok true)) (fun a996 => (m__law_function (a996, ()))) t967) fun t997 => (Xc.ok (sq t997))) fun t1006 => (Xc.bind (Xc.bind (Xc.bind (Xc.bind (Xc.bind (getX t992 (4 : Int)) fun t998 => (asD (List Int) t998)) fun t999 => (Xc.ok (t999, ()))) fun t1000 => (m__law_function t1000)) fun t1004 => (Xc.bind (Xc.bind (Xc.bind (compX (fun a1001 => (Xc.ok true)) (fun a1001 => (m__law_function (a1001, ()))) t977) fun t1002 => (Xc.ok (sq t1002))) fun t1003 => (Xc.ok (t1003, ()))) fun t1005 => (Xc.ok (t1004, t1005)))) fun t1007 => (Xc.ok (t1006, t1007)))) fun t1009 => (Xc.ok (t1008, t1009)))) fun t1010 => (Xc.ok (t958, t1010))) fun t1011 => (Xc.ok (t954, t1011))) fun t1012 => (Xc.bind (m_Task___init__ t1012) fun t1013 => (Xc.ok (⟨t1013⟩ : Ty_Task)))) fun t1014 => (Xc.bind (Xc.bind (m__law_same ((Sum.inl t1014 : (Ty_Task ⊕ (Option (Str × Str)))), (t992, ()))) fun t1015 => (Xc.ok (!t1015))) fun t1238 => (if t1238 = true then (Xc.ok false) else (Xc.bind (rngX 0 (6 : Int)) fun t1237 => (forK (forX (fun (g1126 : ((List Int) × ((List Int) × (Int × (Int × (Int × ((List (List Int)) × ((List (List Int)) × ((List PyData) × (Ty_Task × Unit)))))))))) a1127 => (Xc.bind (Xc.bind (Xc.bind (mulX (8 : Int) a1127) fun t1128 => (Xc.ok ((10 : Int) + t1128))) fun t1129 => (getX g1126.2.1 t1129)) fun t1130 => (Xc.bind (Xc.bind (szX (("put" : Str) :: (("insert" : Str) :: (("remove" : Str) :: (("insert" : Str) :: (("remove" : Str) :: (("put" : Str) :: (("push" : Str) :: (("puts" : Str) :: ([] : List Str)))))))))) fun t1131 => (Xc.bind (modX t1130 (8 : Int)) fun t1132 => (getX t1131 t1132))) fun t1133 => (Xc.bind (Xc.bind (szX (("rules" : Str) :: (("rows" : Str) :: (("rules" : Str) :: (("rows" : Str) :: (("cost" : Str) :: (("aim" : Str) :: (("row" : Str) :: (("rules " : Str) :: ([] : List Str)))))))))) fun t1137 => (Xc.bind (Xc.bind (Xc.bind (Xc.bind (mulX (8 : Int) a1127) fun t1134 => (Xc.ok ((11 : Int) + t1134))) fun t1135 => (getX g1126.2.1 t1135)) fun t1136 => (modX t1136 (8 : Int))) fun t1138 => (getX t1137 t1138))) fun t1139 => (Xc.bind (Xc.bind (Xc.bind (getX g1126.2.2.2.2.2.2.2.1 (3 : Int)) fun t1140 => (asSq t1140)) fun t1141 => (Xc.ok ((HasLen.len t1141 : Nat) : Int))) fun t1142 => (Xc.bind (if (decide (t1139 = ("rows" : Str))) = true then (Xc.bind (Xc.bind (Xc.bind (getX g1126.2.2.2.2.2.2.2.1 (5 : Int)) fun t1146 => (asSq t1146)) fun t1147 => (Xc.ok ((HasLen.len t1147 : Nat) : Int))) fun t1148 => (Xc.ok (g1126.1, (g1126.2.1, (g1126.2.2.1, (g1126.2.2.2.1, (g1126.2.2.2.2.1, (g1126.2.2.2.2.2.1, (g1126.2.2.2.2.2.2.1, (g1126.2.2.2.2.2.2.2.1, (g1126.2.2.2.2.2.2.2.2.1, (a1127, (t1130, (t1133, (t1139, (t1148, ())))))))))))))))) else (Xc.ok (g1126.1, (g1126.2.1, (g1126.2.2.1, (g1126.2.2.2.1, (g1126.2.2.2.2.1, (g1126.2.2.2.2.2.1, (g1126.2.2.2.2.2.2.1, (g1126.2.2.2.2.2.2.2.1, (g1126.2.2.2.2.2.2.2.2.1, (a1127, (t1130, (t1133, (t1139, (t1142, ())))))))))))))))) fun (g1150 : ((List Int) × ((List Int) × (Int × (Int × (Int × ((List (List Int)) × ((List (List Int)) × ((List PyData) × (Ty_Task × (Int × (Int × (Str × (Str × (Int × Unit))))))))))))))) => (Xc.bind (Xc.bind (Xc.bind (Xc.bind (Xc.bind (mulX (8 : Int) g1150.2.2.2.2.2.2.2.2.2.1) fun t1151 => (Xc.ok ((12 : Int) + t1151))) fun t1152 => (getX g1150.2.1 t1152)) fun t1153 => (modX t1153 (g1150.2.2.2.2.2.2.2.2.2.2.2.2.2.1 + (3 : Int)))) fun t1154 => (Xc.ok (t1154 - (1 : Int)))) fun t1155 => (Xc.bind (Xc.bind (Xc.bind (Xc.bind (Xc.bind (mulX (8 : Int) g1150.2.2.2.2.2.2.2.2.2.1) fun t1156 => (Xc.ok ((13 : Int) + t1156))) fun t1167 => (Xc.bind (Xc.bind (Xc.bind (Xc.bind (Xc.bind (Xc.bind (Xc.bind (Xc.bind (mulX (8 : Int) g1150.2.2.2.2.2.2.2.2.2.1) fun t1160 => (Xc.ok ((14 : Int) + t1160))) fun t1161 => (getX g1150.2.1 t1161)) fun t1162 => (modX t1162 (8 : Int))) fun t1163 => (Xc.ok (decide (t1163 = (3 : Int))))) fun t1164 => (Xc.ok (if t1164 = true then (1 : Int) else 0))) fun t1165 => (Xc.ok (g1150.2.2.2.2.1 + t1165))) fun t1166 => (Xc.ok (t1166, ()))) fun t1168 => (Xc.ok (t1167, t1168)))) fun t1169 => (Xc.ok (g1150.2.1, t1169))) fun t1170 => (m__law_values t1170)) fun t1171 => (Xc.bind (m__law_due (g1150.2.2.2.2.2.2.2.1, (g1150.2.2.2.2.2.2.2.2.2.2.2.1, (g1150.2.2.2.2.2.2.2.2.2.2.2.2.1, (t1155, (t1171, ())))))) fun t1172 => (Xc.bind (Xc.bind (Xc.bind (Xc.bind (m__law_edit (g1150.2.2.2.2.2.2.2.2.2.2.2.1, (g1150.2.2.2.2.2.2.2.2.2.2.2.2.1, (t1155, (t1171, ()))))) fun t1173 => (Xc.ok (t1173, ()))) fun t1174 => (Xc.ok (g1150.2.2.2.2.2.2.2.2.1, t1174))) fun t1175 => (m__law_told t1175)) fun t1176 => (Xc.bind (Xc.bind (m__law_same ((Sum.inl g1150.2.2.2.2.2.2.2.2.1 : (Ty_Task ⊕ (Option (Str × Str)))), (g1150.2.2.2.2.2.2.2.1, ()))) fun t1177 => (Xc.ok (!t1177))) fun t1235 => (if t1235 = true then (Xc.ok (Lp.rt false)) else (let k1206 := fun (g1234 : ((List Int) × ((List Int) × (Int × (Int × (Int × ((List (List Int)) × ((List (List Int)) × ((List PyData) × (Ty_Task × (Int × (Int × (Str × (Str × (Int × (Int × ((List Int) × (((Str × Str) ⊕ (List PyData)) × ((Ty_Task ⊕ (Option (Str × Str))) × Unit))))))))))))))))))) => (Xc.ok (Lp.ct (g1234.1, (g1234.2.1, (g1234.2.2.1, (g1234.2.2.2.1, (g1234.2.2.2.2.1, (g1234.2.2.2.2.2.1, (g1234.2.2.2.2.2.2.1, (g1234.2.2.2.2.2.2.2.1, (g1234.2.2.2.2.2.2.2.2.1, ()))))))))))); (if ((Sum.elim (fun _ => true) (fun _ => false)) t1172) = true then (Xc.bind (if (!((Sum.elim (fun _ => false) (optB false (fun _ => true))) t1176)) = true then Xc.ok true else (Xc.bind (Xc.bind (unR t1176) fun t1207 => (someX t1207)) fun t1208 => (Xc.bind (unL t1172) fun t1209 => (Xc.bind (eqdX t1208 t1209) fun t => Xc.ok (!t))))) fun t1211 => (if t1211 = true then (Xc.ok (Lp.rt false)) else (k1206 (g1150.1, (g1150.2.1, (g1150.2.2.1, (g1150.2.2.2.1, (g1150.2.2.2.2.1, (g1150.2.2.2.2.2.1, (g1150.2.2.2.2.2.2.1, (g1150.2.2.2.2.2.2.2.1, (g1150.2.2.2.2.2.2.2.2.1, (g1150.2.2.2.2.2.2.2.2.2.1, (g1150.2.2.2.2.2.2.2.2.2.2.1, (g1150.2.2.2.2.2.2.2.2.2.2.2.1, (g1150.2.2.2.2.2.2.2.2.2.2.2.2.1, (g1150.2.2.2.2.2.2.2.2.2.2.2.2.2.1, (t1155, (t1171, (t1172, (t1176, ()))))))))))))))))))))) else (Xc.bind (Xc.bind (Xc.bind (Xc.bind (Xc.bind (Xc.bind (unR t1172) fun t1212 => (Xc.ok (t1212, ()))) fun t1213 => (Xc.ok (t1176, t1213))) fun t1214 => (m__law_same t1214)) fun t1215 => (Xc.ok (!t1215))) fun t1229 => (if t1229 = true then Xc.ok true else (Xc.bind (Xc.bind (Xc.bind (unL t1176) fun t1218 => (m_Task___eq__ (g1150.2.2.2.2.2.2.2.2.1, (t1218, ())))) fun t1220 => (Xc.bind (Xc.bind (unR t1172) fun t1219 => (eqdX g1150.2.2.2.2.2.2.2.1 t1219)) fun t1221 => (Xc.ok (!decide (t1220 = t1221))))) fun t1228 => (if t1228 = true then Xc.ok true else (Xc.bind (Xc.bind (unL t1176) fun t1224 => (Xc.bind (nerX (m_Task___eq__ (t1224, (g1150.2.2.2.2.2.2.2.2.1, ())))) fun t => Xc.ok (!t))) fun t1226 => (Xc.bind (Xc.bind (unR t1172) fun t1225 => (Xc.bind (eqdX g1150.2.2.2.2.2.2.2.1 t1225) fun t => Xc.ok (!t))) fun t1227 => (Xc.ok (!decide (t1226 = t1227))))))))) fun t1233 => (if t1233 = true then (Xc.ok (Lp.rt false)) else (Xc.bind (unL t1176) fun t1231 => (Xc.bind (unR t1172) fun t1232 => (k1206 (g1150.1, (g1150.2.1, (g1150.2.2.1, (g1150.2.2.2.1, (g1150.2.2.2.2.1, (g1150.2.2.2.2.2.1, (g1150.2.2.2.2.2.2.1, (t1232, (t1231, (g1150.2.2.2.2.2.2.2.2.2.1, (g1150.2.2.2.2.2.2.2.2.2.2.1, (g1150.2.2.2.2.2.2.2.2.2.2.2.1, (g1150.2.2.2.2.2.2.2.2.2.2.2.2.1, (g1150.2.2.2.2.2.2.2.2.2.2.2.2.2.1, (t1155, (t1171, (t1172, (t1176, ()))))))))))))))))))))))))))))))))))))) t1237 (z.1, (t951, (t954, (t958, ((t954 + t958), (t967, (t977, (t992, (t1014, ())))))))))) id fun (g1236 : ((List Int) × ((List Int) × (Int × (Int × (Int × ((List (List Int)) × ((List (List Int)) × ((List PyData) × (Ty_Task × Unit)))))))))) => (Xc.ok true))))))))))))
structure T0 (K : PySem.W.Frag) (mg : Str → Option Value) : Prop where
  f_abs : mg "abs" = none
  f_all : mg "all" = none
  f_int : mg "int" = none
  f_isinstance : mg "isinstance" = none
  f_len : mg "len" = none
  f_list : mg "list" = none
  f_range : mg "range" = none
  f_tuple : mg "tuple" = none
  gcd : mg "gcd" = some (.builtin "math.gcd")
  g_Affine : mg "Affine" = some (.ref (He.ga K "Affine"))
  g_BadShape : mg "BadShape" = some (.ref (He.ga K "BadShape"))
  g_DEEDS : mg "DEEDS" = some (.ref (He.ga K "DEEDS"))
  g_LeaderError : mg "LeaderError" = some (.ref (He.ga K "LeaderError"))
  g_Task : mg "Task" = some (.ref (He.ga K "Task"))
  g_UnknownName : mg "UnknownName" = some (.ref (He.ga K "UnknownName"))
  x_BadNumber : Xk K mg "BadNumber"
  m_BadShape_BadShape : PySem.W.exmOne K (.ref (He.ga K "BadShape")) (.ref (He.ga K "BadShape")) = some true
  m_UnknownName_UnknownName : PySem.W.exmOne K (.ref (He.ga K "UnknownName")) (.ref (He.ga K "UnknownName")) = some true
  cl_Affine : Cls K (He.ga K "Affine")
  cl_Task : Cls K (He.ga K "Task")
  na_Affine_bottom : NoAttr K (He.ga K "Affine") "bottom"
  na_Affine_coefs : NoAttr K (He.ga K "Affine") "coefs"
  na_Affine_constant : NoAttr K (He.ga K "Affine") "constant"
  na_Affine_size : NoAttr K (He.ga K "Affine") "size"
  na_Task_aim : NoAttr K (He.ga K "Task") "aim"
  na_Task_cost : NoAttr K (He.ga K "Task") "cost"
  na_Task_replies : NoAttr K (He.ga K "Task") "replies"
  na_Task_rows : NoAttr K (He.ga K "Task") "rows"
  na_Task_rules : NoAttr K (He.ga K "Task") "rules"
  na_Task_size : NoAttr K (He.ga K "Task") "size"
  rd_Task : ClX.CRead K (He.ga K "Task") (.type "type")
  cc_Task_REPLIES : ∃ t, PySem.W.findCls K (.ref (He.ga K "Task")) (.type "type") "REPLIES" = some (.val (.int 3 t))
  cc_Task_ROWS : ∃ t, PySem.W.findCls K (.ref (He.ga K "Task")) (.type "type") "ROWS" = some (.val (.int 4 t))
  cc_Task_RULES : ∃ t, PySem.W.findCls K (.ref (He.ga K "Task")) (.type "type") "RULES" = some (.val (.int 4 t))
  cc_Task_SIZE : ∃ t, PySem.W.findCls K (.ref (He.ga K "Task")) (.type "type") "SIZE" = some (.val (.int 3 t))
  me_Affine___eq__ : Meth K (He.ga K "Affine") "__eq__" (He.ma K (He.ga K "Affine") "__eq__")
  me_Task___eq__ : Meth K (He.ga K "Task") "__eq__" (He.ma K (He.ga K "Task") "__eq__")
  isi_Affine : Isi K "Affine"
  isi_Task : Isi K "Task"
  ki_Affine_Affine : PySem.W.kitOne K (.ref (He.ga K "Affine")) (.ref (He.ga K "Affine")) = some true
  ki_NoneType_Task : PySem.W.kitOne K (.type "NoneType") (.ref (He.ga K "Task")) = some false
  ki_Task_Task : PySem.W.kitOne K (.ref (He.ga K "Task")) (.ref (He.ga K "Task")) = some true
  ki_tuple_Task : PySem.W.kitOne K (.type "tuple") (.ref (He.ga K "Task")) = some false
  e_BadShape : ExcC K (He.ga K "BadShape")
  e_UnknownName : ExcC K (He.ga K "UnknownName")
  k_BadShape_LeaderError : PySem.W.kitOne K (.ref (He.ga K "BadShape")) (.ref (He.ga K "LeaderError")) = some true
  k_BadShape_UnknownName : PySem.W.kitOne K (.ref (He.ga K "BadShape")) (.ref (He.ga K "UnknownName")) = some false
  k_UnknownName_BadShape : PySem.W.kitOne K (.ref (He.ga K "UnknownName")) (.ref (He.ga K "BadShape")) = some false
  k_UnknownName_LeaderError : PySem.W.kitOne K (.ref (He.ga K "UnknownName")) (.ref (He.ga K "LeaderError")) = some true
  tp_DEEDS : tupSB K (He.ga K "DEEDS") [("put" : Str), ("insert" : Str), ("remove" : Str)] = true
  ne_Task : NeC K (He.ga K "Task")
  xc_BadShape : XfC K (He.ga K "BadShape")
  xc_UnknownName : XfC K (He.ga K "UnknownName")
  nf_BadShape_part : PySem.W.findIn K (.ref (He.ga K "BadShape")) "part" = some none
  nf_UnknownName_name : PySem.W.findIn K (.ref (He.ga K "UnknownName")) "name" = some none
  mf_BadShape_UnknownName : PySem.W.exmOne K (.ref (He.ga K "BadShape")) (.ref (He.ga K "UnknownName")) = some false
  mf_UnknownName_BadShape : PySem.W.exmOne K (.ref (He.ga K "UnknownName")) (.ref (He.ga K "BadShape")) = some false
  kb_Task_tuple : PySem.W.kitOne K (.ref (He.ga K "Task")) (.type "tuple") = some false
end LW

namespace LW
open PySem L2 FL
section
variable {P : Program} {w : World} {K : PySem.W.Frag} {mg : Str → Option Value} {base : Heap}
abbrev N_BadShape___init__ : List Str := [("self" : Str), ("part" : Str)]
theorem d_BadShape___init__ {f cda cc : Addr} (T : T0 K mg) (A : Around) (outer : List Env) (s : Shared) (H : Hp) (E : XK) (c : C0) : FE (cxS (L2.CX P w) P w K mg base [("self" : Str), ("part" : Str)] "BadShape.__init__" (defScope mt_BadShape___init__) f cda cc A outer s H E) c (un (va Str nl)) (supE mt_BadShape___init__) (fun g => m_BadShape___init__ g.1) :=
  PE.imp (fe_catS fe_str (fe_var 1)) fun σ H Q h => h
abbrev N_UnknownName___init__ : List Str := [("self" : Str), ("name" : Str)]
theorem d_UnknownName___init__ {f cda cc : Addr} (T : T0 K mg) (A : Around) (outer : List Env) (s : Shared) (H : Hp) (E : XK) (c : C0) : FE (cxS (L2.CX P w) P w K mg base [("self" : Str), ("name" : Str)] "UnknownName.__init__" (defScope mt_UnknownName___init__) f cda cc A outer s H E) c (un (va Str nl)) (supE mt_UnknownName___init__) (fun g => m_UnknownName___init__ g.1) :=
  PE.imp (fe_catS fe_str (fe_var 1)) fun σ H Q h => h
abbrev N_common_divisor_l : List Str := [("tops" : Str), ("start" : Str), ("common" : Str), ("top" : Str)]
theorem sc_common_divisor_l : FnScope N_common_divisor_l [("tops" : Str), ("start" : Str)] (defScope (top 20)) := ⟨rfl, rfl, rfl, by decide +kernel, rfl, by decide +kernel, by decide +kernel⟩
theorem d_common_divisor_l {f : Addr} {fd : FuncData} (Fd : FnP K "common_divisor" (top 20) f fd) (T : T0 K mg)  : FnOk P w K mg base (L2.CX P w) 1 f fd [("tops" : Str), ("start" : Str)] (spF K (rtF Int) m_common_divisor_l) :=
  fn_def (αs := (List Int) × Int × Unit) (G' := nl) (n := 2) Fd sc_common_divisor_l rfl rfl (fun cdv A outer s F H E hr tk =>
    (fss_cons (fs_B (fn_set 2 rfl (fe_abs (fe_var 1) (T.f_abs)) sc_common_divisor_l.nd))
    (fss_cons (fs_n (fn_for (passes_of rfl) (fi_list (fe_var 0)) (fg_name 3 rfl sc_common_divisor_l.nd) (fns_B (fn_set 2 rfl (fe_gcd (fe_var 2) (fe_var 3) T.gcd) sc_common_divisor_l.nd) (fns_nilS (G' := (va (List Int) (va Int (va Int (un nl)))))))))
    (fss_one (fs_ret (fe_var 2)))))) (fun z => by simp only [bind_ok']; rfl)
abbrev N_Affine___init___l : List Str := [("self" : Str), ("coefs" : Str), ("constant" : Str), ("bottom" : Str), ("common" : Str), ("coef" : Str)]
theorem sc_Affine___init___l : FnScope N_Affine___init___l [("self" : Str), ("coefs" : Str), ("constant" : Str), ("bottom" : Str)] (defScope mt_Affine___init__) := ⟨rfl, rfl, rfl, by decide +kernel, rfl, by decide +kernel, by decide +kernel⟩
theorem d_Affine___init___l {f : Addr} {fd : FuncData} (Fd : FnM K "__init__" "Affine.__init__" mt_Affine___init__ [.int 1] f fd) (T : T0 K mg) (D_common_divisor_l : Dk P w K mg base "common_divisor" [("tops" : Str), ("start" : Str)] 1 (spF K (rtF Int) m_common_divisor_l)) : FnOk P w K mg base (L2.CX P w) 2 f fd [("self" : Str), ("coefs" : Str), ("constant" : Str), ("bottom" : Str)] (spI K "Affine" Fs_Affine m_Affine___init___l) :=
  fn_init (αs := (List Int) × Int × Int × Unit) (C := "Affine") (nsF := Fs_Affine) (n := 2) Fd sc_Affine___init___l rfl rfl (fun cdv A outer s F H1 H E x hr tk =>
    (fk_n (fun F1 H1 => (fn_if (ft_eq (fe_var 3) fe_int) (fns_one (fn_rai tk T.x_BadNumber)) fns_nil))
    (fk_B (fun F1 H1 => (fn_set 4 rfl (fe_cal D_common_divisor_l tk hr (fa_cons (fe_var 1) (fa_cons (fe_gcd (fe_var 2) (fe_var 3) T.gcd) fa_nil))) sc_Affine___init___l.nd))
    (fk_n (fun F1 H1 => (fn_if (ft_lt (fe_var 3) fe_int) (fns_B (fn_set 4 rfl (fe_neg (fe_var 4)) sc_Affine___init___l.nd) fns_nil) fns_nil))
    (fk_fld (fun F1 H1 => (fe_tupL (fe_fz (fo_lc (vs := [5]) (own := [(("coef" : Str), 5)]) rfl (blkOk_by (N := N_Affine___init___l) (sc := defScope mt_Affine___init__) (by decide +kernel)) sc_Affine___init___l.nd (fi_list (fe_var 1)) (fgb_name 5 sc_Affine___init___l.nd) fts_nil (fun s H C cl fp => (fe_fdv (fe_var 5) (fe_var 4))))) (T.f_tuple)))
    (fk_fld (fun F1 H1 => (fe_fdv (fe_var 2) (fe_var 4)))
    (fk_fld (fun F1 H1 => (fe_fdv (fe_var 3) (fe_var 4)))
    (fk_fld (fun F1 H1 => (fe_len (fe_slf 0 T.cl_Affine T.na_Affine_coefs) (T.f_len)))
    fk_nil T.cl_Affine T.na_Affine_size) T.cl_Affine T.na_Affine_bottom) T.cl_Affine T.na_Affine_constant) T.cl_Affine T.na_Affine_coefs))))) (fun z => by simp only [bind_ok']; rfl)
abbrev N_Affine___eq__ : List Str := [("self" : Str), ("other" : Str)]
theorem sc_Affine___eq__ : FnScope N_Affine___eq__ [("self" : Str), ("other" : Str)] (defScope mt_Affine___eq__) := ⟨rfl, rfl, rfl, by decide +kernel, rfl, by decide +kernel, by decide +kernel⟩
theorem d_Affine___eq__ {f : Addr} {fd : FuncData} (Fd : FnM K "__eq__" "Affine.__eq__" mt_Affine___eq__ [] f fd) (T : T0 K mg)  : FnOk P w K mg base (L2.CX P w) 1 f fd [("self" : Str), ("other" : Str)] (spF K (rtF Bool) m_Affine___eq__) :=
  fn_def (αs := Ty_Affine × Ty_Affine × Unit) (G' := nl) (n := 0) Fd sc_Affine___eq__ rfl rfl (fun cdv A outer s F H E hr tk =>
    (fss_one (fs_ret (fe_and (fe_isiC (ok := fun K => Isi K "Affine") (ty := fun K => .ref (He.ga K "Affine")) true (fe_var 1) T.isi_Affine T.ki_Affine_Affine T.g_Affine (T.f_isinstance)) (fe_and (fe_eqd hr (fe_fld 0 (fe_var 0) T.cl_Affine T.na_Affine_coefs) (fe_fld 0 (fe_var 1) T.cl_Affine T.na_Affine_coefs)) (fe_and (fe_eq (fe_fld 1 (fe_var 0) T.cl_Affine T.na_Affine_constant) (fe_fld 1 (fe_var 1) T.cl_Affine T.na_Affine_constant)) (fe_one (fe_eq (fe_fld 2 (fe_var 0) T.cl_Affine T.na_Affine_bottom) (fe_fld 2 (fe_var 1) T.cl_Affine T.na_Affine_bottom))))))))) (fun z => by simp only [bind_ok']; rfl)
abbrev N__check : List Str := [("part" : Str), ("fine" : Str)]
theorem sc__check : FnScope N__check [("part" : Str), ("fine" : Str)] (defScope (top 8)) := ⟨rfl, rfl, rfl, by decide +kernel, rfl, by decide +kernel, by decide +kernel⟩
theorem d__check {f : Addr} {fd : FuncData} (Fd : FnP K "_check" (top 8) f fd) (T : T0 K mg) (D_BadShape___init__ : Xf P w K mg base "BadShape" "part" 1 m_BadShape___init__) : FnOk P w K mg base (L2.CX P w) 3 f fd [("part" : Str), ("fine" : Str)] (spF K (rtF Unit) m__check) :=
  fn_defU (αs := Str × Bool × Unit) (n := 0) Fd sc__check rfl rfl (fun cdv A outer s F H E hr tk =>
    (fss_cons (fs_if (ft_not (ft_val (fe_var 1))) (fss_one (fs_raix D_BadShape___init__ tk hr (fe_var 0))) fss_nil)
    fss_nil)) (fun z => by simp only [bind_ok']; rfl)
abbrev N__all_fit : List Str := [("functions" : Str), ("size" : Str), ("function" : Str)]
theorem sc__all_fit : FnScope N__all_fit [("functions" : Str), ("size" : Str)] (defScope (top 9)) := ⟨rfl, rfl, rfl, by decide +kernel, rfl, by decide +kernel, by decide +kernel⟩
theorem d__all_fit {f : Addr} {fd : FuncData} (Fd : FnP K "_all_fit" (top 9) f fd) (T : T0 K mg)  : FnOk P w K mg base (L2.CX P w) 1 f fd [("functions" : Str), ("size" : Str)] (spF K (rtF Bool) m__all_fit) :=
  fn_def (αs := (Sq Ty_Affine) × Int × Unit) (G' := nl) (n := 1) Fd sc__all_fit rfl rfl (fun cdv A outer s F H E hr tk =>
    (fss_one (fs_ret (fe_all rfl (fe_fz (fo_lc (vs := [2]) (own := [(("function" : Str), 2)]) rfl (blkOk_by (N := N__all_fit) (sc := defScope (top 9)) (by decide +kernel)) sc__all_fit.nd (fi_sq (fe_var 0)) (fgb_name 2 sc__all_fit.nd) fts_nil (fun s H C cl fp => (fe_eq (fe_fld 3 (fe_var 2) T.cl_Affine T.na_Affine_size) (fe_var 1))))) (T.f_all))))) (fun z => by simp only [bind_ok']; rfl)
abbrev N_Task___init__ : List Str := [("self" : Str), ("size" : Str), ("replies" : Str), ("cost" : Str), ("rules" : Str), ("aim" : Str), ("rows" : Str), ("whole" : Str)]
theorem sc_Task___init__ : FnScope N_Task___init__ [("self" : Str), ("size" : Str), ("replies" : Str), ("cost" : Str), ("rules" : Str), ("aim" : Str), ("rows" : Str)] (defScope mt_Task___init__) := ⟨rfl, rfl, rfl, by decide +kernel, rfl, by decide +kernel, by decide +kernel⟩
theorem d_Task___init__ {f : Addr} {fd : FuncData} (Fd : FnM K "__init__" "Task.__init__" mt_Task___init__ [] f fd) (T : T0 K mg) (D__check : Dk P w K mg base "_check" [("part" : Str), ("fine" : Str)] 3 (spF K (rtF Unit) m__check)) (D__all_fit : Dk P w K mg base "_all_fit" [("functions" : Str), ("size" : Str)] 1 (spF K (rtF Bool) m__all_fit)) : FnOk P w K mg base (L2.CX P w) 4 f fd [("self" : Str), ("size" : Str), ("replies" : Str), ("cost" : Str), ("rules" : Str), ("aim" : Str), ("rows" : Str)] (spI K "Task" Fs_Task m_Task___init__) :=
  fn_init (αs := Int × Int × Ty_Affine × (Sq Ty_Affine) × Ty_Affine × (Sq Ty_Affine) × Unit) (C := "Task") (nsF := Fs_Task) (n := 1) Fd sc_Task___init__ rfl rfl (fun cdv A outer s F H1 H E x hr tk =>
    (fk_B (fun F1 H1 => (fn_expr (fe_cal D__check tk hr (fa_cons fe_str (fa_cons (fe_chainLe fe_int (fe_var 1) (fe_ccon T.rd_Task T.cc_Task_SIZE T.g_Task)) fa_nil)))))
    (fk_B (fun F1 H1 => (fn_expr (fe_cal D__check tk hr (fa_cons fe_str (fa_cons (fe_chainLe fe_int (fe_var 2) (fe_ccon T.rd_Task T.cc_Task_REPLIES T.g_Task)) fa_nil)))))
    (fk_B (fun F1 H1 => (fn_set 7 rfl (fe_add (fe_var 1) (fe_var 2)) sc_Task___init__.nd))
    (fk_B (fun F1 H1 => (fn_expr (fe_cal D__check tk hr (fa_cons fe_str (fa_cons (fe_eq (fe_fld 3 (fe_var 3) T.cl_Affine T.na_Affine_size) (fe_var 7)) fa_nil)))))
    (fk_B (fun F1 H1 => (fn_expr (fe_cal D__check tk hr (fa_cons fe_str (fa_cons (fe_and (fe_le (fe_len (fe_var 4) (T.f_len)) (fe_ccon T.rd_Task T.cc_Task_RULES T.g_Task)) (fe_one (fe_cal D__all_fit tk hr (fa_cons (fe_var 4) (fa_cons (fe_var 7) fa_nil))))) fa_nil)))))
    (fk_B (fun F1 H1 => (fn_expr (fe_cal D__check tk hr (fa_cons fe_str (fa_cons (fe_eq (fe_fld 3 (fe_var 5) T.cl_Affine T.na_Affine_size) (fe_var 7)) fa_nil)))))
    (fk_B (fun F1 H1 => (fn_expr (fe_cal D__check tk hr (fa_cons fe_str (fa_cons (fe_and (fe_chainLe fe_int (fe_len (fe_var 6) (T.f_len)) (fe_ccon T.rd_Task T.cc_Task_ROWS T.g_Task)) (fe_one (fe_cal D__all_fit tk hr (fa_cons (fe_var 6) (fa_cons (fe_var 7) fa_nil))))) fa_nil)))))
    (fk_fld (fun F1 H1 => (fe_var 1))
    (fk_fld (fun F1 H1 => (fe_var 2))
    (fk_fld (fun F1 H1 => (fe_var 3))
    (fk_fld (fun F1 H1 => (fe_tupQ (fe_var 4) (T.f_tuple)))
    (fk_fld (fun F1 H1 => (fe_var 5))
    (fk_fld (fun F1 H1 => (fe_tupQ (fe_var 6) (T.f_tuple)))
    fk_nil T.cl_Task T.na_Task_rows) T.cl_Task T.na_Task_aim) T.cl_Task T.na_Task_rules) T.cl_Task T.na_Task_cost) T.cl_Task T.na_Task_replies) T.cl_Task T.na_Task_size))))))))) (fun z => by simp only [bind_ok']; rfl)
abbrev N_Task___eq__ : List Str := [("self" : Str), ("other" : Str)]
theorem sc_Task___eq__ : FnScope N_Task___eq__ [("self" : Str), ("other" : Str)] (defScope mt_Task___eq__) := ⟨rfl, rfl, rfl, by decide +kernel, rfl, by decide +kernel, by decide +kernel⟩
theorem d_Task___eq__ {f : Addr} {fd : FuncData} (Fd : FnM K "__eq__" "Task.__eq__" mt_Task___eq__ [] f fd) (T : T0 K mg) (D_Affine___eq__ : Dm P w K mg base "Affine" "__eq__" [("self" : Str), ("other" : Str)] 1 (spF K (rtF Bool) m_Affine___eq__)) : FnOk P w K mg base (L2.CX P w) 3 f fd [("self" : Str), ("other" : Str)] (spF K (rtF Bool) m_Task___eq__) :=
  fn_def (αs := Ty_Task × Ty_Task × Unit) (G' := nl) (n := 0) Fd sc_Task___eq__ rfl rfl (fun cdv A outer s F H E hr tk =>
    (fss_one (fs_ret (fe_and (fe_isiC (ok := fun K => Isi K "Task") (ty := fun K => .ref (He.ga K "Task")) true (fe_var 1) T.isi_Task T.ki_Task_Task T.g_Task (T.f_isinstance)) (fe_and (fe_eq (fe_fld 0 (fe_var 0) T.cl_Task T.na_Task_size) (fe_fld 0 (fe_var 1) T.cl_Task T.na_Task_size)) (fe_and (fe_eq (fe_fld 1 (fe_var 0) T.cl_Task T.na_Task_replies) (fe_fld 1 (fe_var 1) T.cl_Task T.na_Task_replies)) (fe_and (fe_eqOO D_Affine___eq__ tk hr (fe_fld 2 (fe_var 0) T.cl_Task T.na_Task_cost) (fe_fld 2 (fe_var 1) T.cl_Task T.na_Task_cost)) (fe_and (fe_eqTO D_Affine___eq__ refl_Affine___eq__ tk hr (fe_fld 3 (fe_var 0) T.cl_Task T.na_Task_rules) (fe_fld 3 (fe_var 1) T.cl_Task T.na_Task_rules)) (fe_and (fe_eqOO D_Affine___eq__ tk hr (fe_fld 4 (fe_var 0) T.cl_Task T.na_Task_aim) (fe_fld 4 (fe_var 1) T.cl_Task T.na_Task_aim)) (fe_one (fe_eqTO D_Affine___eq__ refl_Affine___eq__ tk hr (fe_fld 5 (fe_var 0) T.cl_Task T.na_Task_rows) (fe_fld 5 (fe_var 1) T.cl_Task T.na_Task_rows)))))))))))) (fun z => by simp only [bind_ok']; rfl)
abbrev N__deed : List Str := [("edit" : Str)]
theorem sc__deed : FnScope N__deed [("edit" : Str)] (defScope (top 13)) := ⟨rfl, rfl, rfl, by decide +kernel, rfl, by decide +kernel, by decide +kernel⟩
theorem d__deed {f : Addr} {fd : FuncData} (Fd : FnP K "_deed" (top 13) f fd) (T : T0 K mg) (D_UnknownName___init__ : Xf P w K mg base "UnknownName" "name" 1 m_UnknownName___init__) : FnOk P w K mg base (L2.CX P w) 3 f fd [("edit" : Str)] (spF K (rtF Str) m__deed) :=
  fn_def (αs := (Tu (PyData ⊕ Ty_Affine)) × Unit) (G' := nl) (n := 0) Fd sc__deed rfl rfl (fun cdv A outer s F H E hr tk =>
    (fss_cons (fs_if (ft_ninU (fe_asD (α := Str) (fe_unL (fe_ixU (fe_var 0) fe_int))) (fe_gtupS T.g_DEEDS T.tp_DEEDS)) (fss_one (fs_raix D_UnknownName___init__ tk hr (fe_asD (α := Str) (fe_unL (fe_ixU (fe_var 0) fe_int))))) fss_nil)
    (fss_one (fs_ret (fe_asD (α := Str) (fe_unL (fe_ixU (fe_var 0) fe_int))))))) (fun z => by simp only [bind_ok']; rfl)
abbrev N__changed : List Str := [("parts" : Str), ("deed" : Str), ("at" : Str), ("value" : Str), ("last" : Str), ("later" : Str)]
theorem sc__changed : FnScope N__changed [("parts" : Str), ("deed" : Str), ("at" : Str), ("value" : Str)] (defScope (top 14)) := ⟨rfl, rfl, rfl, by decide +kernel, rfl, by decide +kernel, by decide +kernel⟩
theorem d__changed {f : Addr} {fd : FuncData} (Fd : FnP K "_changed" (top 14) f fd) (T : T0 K mg) (D_BadShape___init__ : Xf P w K mg base "BadShape" "part" 1 m_BadShape___init__) : FnOk P w K mg base (L2.CX P w) 3 f fd [("parts" : Str), ("deed" : Str), ("at" : Str), ("value" : Str)] (spF K (rtO Ty_Affine) m__changed) :=
  fn_def (αs := (Tu Ty_Affine) × Str × Int × (Option Ty_Affine) × Unit) (G' := nl) (n := 2) Fd sc__changed rfl rfl (fun cdv A outer s F H E hr tk =>
    (fss_cons (fs_B (fn_set 4 rfl (fe_if (ft_eq (fe_var 1) fe_str) (fe_len (fe_var 0) (T.f_len)) (fe_sub (fe_len (fe_var 0) (T.f_len)) fe_int)) sc__changed.nd))
    (fss_cons (fs_if (ft_not (ft_chainLe fe_int (fe_var 2) (fe_var 4))) (fss_one (fs_raix D_BadShape___init__ tk hr fe_str)) fss_nil)
    (fss_cons (fs_B (fn_set 5 rfl (fe_if (ft_eq (fe_var 1) fe_str) (fe_slU (fe_var 0) (fp_some (fe_var 2)) fp_none) (fe_slU (fe_var 0) (fp_some (fe_add (fe_var 2) fe_int)) fp_none)) sc__changed.nd))
    (fss_cons (fs_if (ft_eq (fe_var 1) fe_str) (fss_one (fs_retO (fo_cat (fo_listT (fe_slU (fe_var 0) fp_none (fp_some (fe_var 2))) (T.f_list)) (fo_listT (fe_var 5) (T.f_list))))) fss_nil)
    (fss_one (fs_retO (fo_cat (fo_cat (fo_listT (fe_slU (fe_var 0) fp_none (fp_some (fe_var 2))) (T.f_list)) (fo_lst (fh_cons (fe_some (fe_var 3)) fh_nil))) (fo_listT (fe_var 5) (T.f_list)))))))))) (fun z => by simp only [bind_ok']; rfl)
abbrev N__value : List Str := [("edit" : Str), ("at" : Str)]
theorem sc__value : FnScope N__value [("edit" : Str), ("at" : Str)] (defScope (top 15)) := ⟨rfl, rfl, rfl, by decide +kernel, rfl, by decide +kernel, by decide +kernel⟩
theorem d__value {f : Addr} {fd : FuncData} (Fd : FnP K "_value" (top 15) f fd) (T : T0 K mg)  : FnOk P w K mg base (L2.CX P w) 1 f fd [("edit" : Str), ("at" : Str)] (spF K (rtF (Option Ty_Affine)) m__value) :=
  fn_def (αs := (Tu (PyData ⊕ Ty_Affine)) × Int × Unit) (G' := nl) (n := 0) Fd sc__value rfl rfl (fun cdv A outer s F H E hr tk =>
    (fss_one (fs_ret (fe_if (ft_eq (fe_asD (α := Str) (fe_unL (fe_ixU (fe_var 0) fe_int))) fe_str) (fe_nopt (α := Ty_Affine) fe_none) (fe_opt (fe_unR (fe_ixU (fe_var 0) (fe_var 1)))))))) (fun z => by simp only [bind_ok']; rfl)
abbrev N_edited_task : List Str := [("task" : Str), ("edit" : Str), ("deed" : Str), ("cost" : Str), ("rules" : Str), ("aim" : Str), ("rows" : Str)]
theorem sc_edited_task : FnScope N_edited_task [("task" : Str), ("edit" : Str)] (defScope (top 16)) := ⟨rfl, rfl, rfl, by decide +kernel, rfl, by decide +kernel, by decide +kernel⟩
theorem d_edited_task {f : Addr} {fd : FuncData} (Fd : FnP K "edited_task" (top 16) f fd) (T : T0 K mg) (D__deed : Dk P w K mg base "_deed" [("edit" : Str)] 3 (spF K (rtF Str) m__deed)) (D__value : Dk P w K mg base "_value" [("edit" : Str), ("at" : Str)] 1 (spF K (rtF (Option Ty_Affine)) m__value)) (D__changed : Dk P w K mg base "_changed" [("parts" : Str), ("deed" : Str), ("at" : Str), ("value" : Str)] 3 (spF K (rtO Ty_Affine) m__changed)) (D_UnknownName___init__ : Xf P w K mg base "UnknownName" "name" 1 m_UnknownName___init__) (D_Task___init__ : Di P w K mg base "Task" [("self" : Str), ("size" : Str), ("replies" : Str), ("cost" : Str), ("rules" : Str), ("aim" : Str), ("rows" : Str)] [] 4 (spI K "Task" Fs_Task m_Task___init__)) : FnOk P w K mg base (L2.CX P w) 6 f fd [("task" : Str), ("edit" : Str)] (spF K (rtF Ty_Task) m_edited_task) :=
  fn_def (αs := Ty_Task × (Tu (PyData ⊕ Ty_Affine)) × Unit) (G' := nl) (n := 5) Fd sc_edited_task rfl rfl (fun cdv A outer s F H E hr tk =>
    (fss_cons (fs_B (fn_set 2 rfl (fe_cal D__deed tk hr (fa_cons (fe_var 1) fa_nil)) sc_edited_task.nd))
    (fss_cons (fs_B (fn_asg (fe_tup4 (fe_fld 2 (fe_var 0) T.cl_Task T.na_Task_cost) (fe_fld 3 (fe_var 0) T.cl_Task T.na_Task_rules) (fe_fld 4 (fe_var 0) T.cl_Task T.na_Task_aim) (fe_fld 5 (fe_var 0) T.cl_Task T.na_Task_rows)) (fg_four 3 4 5 6 ⟨rfl, rfl, rfl, rfl⟩ sc_edited_task.nd)))
    (fss_cons (fs_if (ft_eq (fe_asD (α := Str) (fe_unL (fe_ixU (fe_var 1) fe_int))) fe_str) (fss_cons (fs_B (fn_set 4 rfl (fe_fz (fo_cal D__changed tk hr (fa_cons (fe_var 4) (fa_cons (fe_var 2) (fa_cons (fe_asI (fe_unL (fe_ixU (fe_var 1) fe_int))) (fa_cons (fe_cal D__value tk hr (fa_cons (fe_var 1) (fa_cons fe_int fa_nil))) fa_nil)))))) sc_edited_task.nd))
    (fss_nilS (G' := (va Ty_Task (va (Tu (PyData ⊕ Ty_Affine)) (va Str (va Ty_Affine (va (Sq Ty_Affine) (va Ty_Affine (va (Sq Ty_Affine) nl)))))))))) (fss_cons (fs_if (ft_eq (fe_asD (α := Str) (fe_unL (fe_ixU (fe_var 1) fe_int))) fe_str) (fss_cons (fs_B (fn_set 6 rfl (fe_fz (fo_cal D__changed tk hr (fa_cons (fe_var 6) (fa_cons (fe_var 2) (fa_cons (fe_asI (fe_unL (fe_ixU (fe_var 1) fe_int))) (fa_cons (fe_cal D__value tk hr (fa_cons (fe_var 1) (fa_cons fe_int fa_nil))) fa_nil)))))) sc_edited_task.nd))
    (fss_nilS (G' := (va Ty_Task (va (Tu (PyData ⊕ Ty_Affine)) (va Str (va Ty_Affine (va (Tu Ty_Affine) (va Ty_Affine (va (Sq Ty_Affine) nl)))))))))) (fss_cons (fs_if (ft_w (fw_and (ft_eq (fe_asD (α := Str) (fe_unL (fe_ixU (fe_var 1) fe_int))) fe_str) (fw_and1 (ft_eq (fe_var 2) fe_str)))) (fss_cons (fs_B (fn_set 3 rfl (fe_unR (fe_ixU (fe_var 1) fe_int)) sc_edited_task.nd))
    fss_nil) (fss_cons (fs_if (ft_w (fw_and (ft_eq (fe_asD (α := Str) (fe_unL (fe_ixU (fe_var 1) fe_int))) fe_str) (fw_and1 (ft_eq (fe_var 2) fe_str)))) (fss_cons (fs_B (fn_set 5 rfl (fe_unR (fe_ixU (fe_var 1) fe_int)) sc_edited_task.nd))
    fss_nil) (fss_one (fs_raix D_UnknownName___init__ tk hr (fe_asD (α := Str) (fe_unL (fe_ixU (fe_var 1) fe_int))))))
    fss_nil))
    (fss_nilS (G' := (va Ty_Task (va (Tu (PyData ⊕ Ty_Affine)) (va Str (va Ty_Affine (va (Tu Ty_Affine) (va Ty_Affine (va (Sq Ty_Affine) nl)))))))))))
    (fss_nilS (G' := (va Ty_Task (va (Tu (PyData ⊕ Ty_Affine)) (va Str (va Ty_Affine (va (Sq Ty_Affine) (va Ty_Affine (va (Sq Ty_Affine) nl)))))))))))
    (fss_one (fs_ret (fe_make D_Task___init__ tk hr (fa_cons (fe_fld 0 (fe_var 0) T.cl_Task T.na_Task_size) (fa_cons (fe_fld 1 (fe_var 0) T.cl_Task T.na_Task_replies) (fa_cons (fe_var 3) (fa_cons (fe_var 4) (fa_cons (fe_var 5) (fa_cons (fe_var 6) fa_nil))))))))))))) (fun z => by simp only [bind_ok']; rfl)
abbrev N__law_draws : List Str := [("script" : Str), ("count" : Str), ("found" : Str), ("cell" : Str), ("rest" : Str), ("k" : Str), ("seed" : Str)]
theorem sc__law_draws : FnScope N__law_draws [("script" : Str), ("count" : Str)] (defScope (top 24)) := ⟨rfl, rfl, rfl, by decide +kernel, rfl, by decide +kernel, by decide +kernel⟩
theorem d__law_draws {f : Addr} {fd : FuncData} (Fd : FnP K "_law_draws" (top 24) f fd) (T : T0 K mg)  : FnOk P w K mg base (L2.CX P w) 1 f fd [("script" : Str), ("count" : Str)] (spF K (rtO Int) m__law_draws) :=
  fn_def (αs := (List Int) × Int × Unit) (G' := nl) (n := 5) Fd sc__law_draws rfl rfl (fun cdv A outer s F H E hr tk =>
    (fss_cons (fs_B (fn_setO 2 rfl (fo_nil (α := Int)) sc__law_draws.nd))
    (fss_cons (fs_n (fn_for (passes_of rfl) (fi_list (fe_var 0)) (fg_name 3 rfl sc__law_draws.nd) (fns_B (fn_set 4 rfl (fe_var 3) sc__law_draws.nd) (fns_cons (fn_if (ft_ge (fe_var 4) (fe_pow fe_int fe_int)) (fns_cons (fn_for (passes_of rfl) (fi_range1 fe_int (T.f_range)) (fg_name 5 rfl sc__law_draws.nd) (fns_cons (fn_if (ft_br (ft_w (fw_and (ft_gt (fe_var 4) fe_int) (fw_and1 (ft_lt (fe_len (fe_var 2) (T.f_len)) (fe_var 1)))))) (fns_B2 (fn_append 2 (fe_mod (fe_intI (fe_var 4) (T.f_int)) fe_int)) (fns_B (fn_set 4 rfl (fe_fdv (fe_var 4) fe_int) sc__law_draws.nd) fns_nil)) fns_nil) (fns_nilS (G' := (va (List Int) (va Int (ow Int (va Int (va Int (un (un nl))))))))))) fns_nil) (fns_cons (fn_if (ft_br (ft_lt (fe_len (fe_var 2) (T.f_len)) (fe_var 1))) (fns_B2 (fn_append 2 (fe_mod (fe_mod (fe_intI (fe_add (fe_mul (fe_mod (fe_intI (fe_add (fe_mul (fe_var 4) fe_int) fe_int) (T.f_int)) fe_int) fe_int) fe_int) (T.f_int)) fe_int) fe_int)) fns_nil) fns_nil) fns_nil)) (fns_nilS (G' := (va (List Int) (va Int (ow Int (un (un (un (un nl)))))))))))))
    (fss_cons (fs_B (fn_set 6 rfl (fe_add fe_int (fe_len (fe_var 0) (T.f_len))) sc__law_draws.nd))
    (fss_cons (fs_n (fn_for (passes_of rfl) (fi_list (fe_var 0)) (fg_name 3 rfl sc__law_draws.nd) (fns_B (fn_set 6 rfl (fe_mod (fe_intI (fe_add (fe_mul (fe_var 6) fe_int) (fe_var 3)) (T.f_int)) fe_int) sc__law_draws.nd) (fns_nilS (G' := (va (List Int) (va Int (ow Int (un (un (un (va Int nl))))))))))))
    (fss_cons (fs_n (fn_for (passes_of rfl) (fi_range1 (fe_var 1) (T.f_range)) (fg_name 5 rfl sc__law_draws.nd) (fns_cons (fn_if (ft_br (ft_lt (fe_len (fe_var 2) (T.f_len)) (fe_var 1))) (fns_B (fn_set 6 rfl (fe_mod (fe_intI (fe_add (fe_mul (fe_var 6) fe_int) fe_int) (T.f_int)) fe_int) sc__law_draws.nd) (fns_B2 (fn_append 2 (fe_mod (fe_fdv (fe_var 6) fe_int) fe_int)) fns_nil)) fns_nil) (fns_nilS (G' := (va (List Int) (va Int (ow Int (un (un (un (va Int nl))))))))))))
    (fss_one (fs_retV 2)))))))) (fun z => by simp only [bind_ok']; rfl)
abbrev N__law_gcd : List Str := [("one" : Str), ("two" : Str), ("k" : Str), ("rest" : Str)]
theorem sc__law_gcd : FnScope N__law_gcd [("one" : Str), ("two" : Str)] (defScope (top 25)) := ⟨rfl, rfl, rfl, by decide +kernel, rfl, by decide +kernel, by decide +kernel⟩
theorem d__law_gcd {f : Addr} {fd : FuncData} (Fd : FnP K "_law_gcd" (top 25) f fd) (T : T0 K mg)  : FnOk P w K mg base (L2.CX P w) 1 f fd [("one" : Str), ("two" : Str)] (spF K (rtF Int) m__law_gcd) :=
  fn_def (αs := Int × Int × Unit) (G' := nl) (n := 2) Fd sc__law_gcd rfl rfl (fun cdv A outer s F H E hr tk =>
    (fss_cons (fs_B (fn_set 0 rfl (fe_abs (fe_var 0) (T.f_abs)) sc__law_gcd.nd))
    (fss_cons (fs_B (fn_set 1 rfl (fe_abs (fe_var 1) (T.f_abs)) sc__law_gcd.nd))
    (fss_cons (fs_forK (rt := id) (passes_of rfl) (fi_range1 (fe_add (fe_mul fe_int (fe_bits (fe_var 1))) fe_int) (T.f_range)) (fg_name 2 rfl sc__law_gcd.nd) (fss_cons (fs_if (ft_eq (fe_var 1) fe_int) (fss_one (fs_retL (fe_var 0))) fss_nil)
    (fss_cons (fs_B (fn_set 3 rfl (fe_mod (fe_intI (fe_var 0) (T.f_int)) (fe_var 1)) sc__law_gcd.nd))
    (fss_cons (fs_B (fn_set 0 rfl (fe_var 1) sc__law_gcd.nd))
    (fss_cons (fs_B (fn_set 1 rfl (fe_var 3) sc__law_gcd.nd))
    (fss_nilS (G' := (va Int (va Int (un (un nl)))))))))))
    (fss_one (fs_ret (fe_var 0))))))) (fun z => by simp only [bind_ok']; rfl)
abbrev N__law_values : List Str := [("draws" : Str), ("at" : Str), ("width" : Str), ("found" : Str), ("k" : Str), ("common" : Str), ("value" : Str)]
theorem sc__law_values : FnScope N__law_values [("draws" : Str), ("at" : Str), ("width" : Str)] (defScope (top 26)) := ⟨rfl, rfl, rfl, by decide +kernel, rfl, by decide +kernel, by decide +kernel⟩
theorem d__law_values {f : Addr} {fd : FuncData} (Fd : FnP K "_law_values" (top 26) f fd) (T : T0 K mg) (D__law_gcd : Dk P w K mg base "_law_gcd" [("one" : Str), ("two" : Str)] 1 (spF K (rtF Int) m__law_gcd)) : FnOk P w K mg base (L2.CX P w) 2 f fd [("draws" : Str), ("at" : Str), ("width" : Str)] (spF K (rtO Int) m__law_values) :=
  fn_def (αs := (List Int) × Int × Int × Unit) (G' := nl) (n := 4) Fd sc__law_values rfl rfl (fun cdv A outer s F H E hr tk =>
    (fss_cons (fs_B (fn_setO 3 rfl (fo_lst (fh_cons (fe_sub (fe_mod (fe_ixL (fe_var 0) (fe_mod (fe_var 1) (fe_len (fe_var 0) (T.f_len)))) fe_int) fe_int) fh_nil)) sc__law_values.nd))
    (fss_cons (fs_n (fn_for (passes_of rfl) (fi_range1 (fe_var 2) (T.f_range)) (fg_name 4 rfl sc__law_values.nd) (fns_B2 (fn_append 3 (fe_sub (fe_mod (fe_add (fe_fdv (fe_ixL (fe_var 0) (fe_mod (fe_add (fe_var 1) (fe_var 4)) (fe_len (fe_var 0) (T.f_len)))) fe_int) (fe_mul fe_int (fe_var 4))) fe_int) fe_int)) (fns_nilS (G' := (va (List Int) (va Int (va Int (ow Int (un (un (un nl))))))))))))
    (fss_cons (fs_B2 (fn_append 3 (fe_add fe_int (fe_mod (fe_fdv (fe_ixL (fe_var 0) (fe_mod (fe_var 1) (fe_len (fe_var 0) (T.f_len)))) fe_int) fe_int))))
    (fss_lend (fss_cons (fs_B (fn_set 5 rfl fe_int sc__law_values.nd))
    (fss_cons (fs_n (fn_for (passes_of rfl) (fi_list (fe_var 3)) (fg_name 6 rfl sc__law_values.nd) (fns_B (fn_set 5 rfl (fe_cal D__law_gcd tk hr (fa_cons (fe_var 5) (fa_cons (fe_var 6) fa_nil))) sc__law_values.nd) (fns_nilS (G' := (va (List Int) (va Int (va Int (va (List Int) (un (va Int (un nl))))))))))))
    (fss_one (fs_retO (fo_lc (vs := [6]) (own := [(("value" : Str), 6)]) rfl (blkOk_by (N := N__law_values) (sc := defScope (top 26)) (by decide +kernel)) sc__law_values.nd (fi_list (fe_var 3)) (fgb_name 6 sc__law_values.nd) fts_nil (fun s H C cl fp => (fe_fdv (fe_var 6) (fe_var 5))))))))))))) (fun z => by simp only [bind_ok']; rfl)
abbrev N__law_function : List Str := [("values" : Str)]
theorem sc__law_function : FnScope N__law_function [("values" : Str)] (defScope (top 27)) := ⟨rfl, rfl, rfl, by decide +kernel, rfl, by decide +kernel, by decide +kernel⟩
theorem d__law_function {f : Addr} {fd : FuncData} (Fd : FnP K "_law_function" (top 27) f fd) (T : T0 K mg) (D_Affine___init___l : Di P w K mg base "Affine" [("self" : Str), ("coefs" : Str), ("constant" : Str), ("bottom" : Str)] [] 2 (spI K "Affine" Fs_Affine m_Affine___init___l)) : FnOk P w K mg base (L2.CX P w) 4 f fd [("values" : Str)] (spF K (rtF Ty_Affine) m__law_function) :=
  fn_def (αs := (List Int) × Unit) (G' := nl) (n := 0) Fd sc__law_function rfl rfl (fun cdv A outer s F H E hr tk =>
    (fss_one (fs_ret (fe_make D_Affine___init___l tk hr (fa_cons (fe_slL (fe_var 0) (fp_some fe_int) (fp_some (fe_neg fe_int))) (fa_cons (fe_ixL (fe_var 0) fe_int) (fa_cons (fe_ixL (fe_var 0) (fe_neg fe_int)) fa_nil))))))) (fun z => by simp only [bind_ok']; rfl)
abbrev N__law_read : List Str := [("told" : Str)]
theorem sc__law_read : FnScope N__law_read [("told" : Str)] (defScope (top 28)) := ⟨rfl, rfl, rfl, by decide +kernel, rfl, by decide +kernel, by decide +kernel⟩
theorem d__law_read {f : Addr} {fd : FuncData} (Fd : FnP K "_law_read" (top 28) f fd) (T : T0 K mg)  : FnOk P w K mg base (L2.CX P w) 1 f fd [("told" : Str)] (spF K (rtO Int) m__law_read) :=
  fn_def (αs := Ty_Affine × Unit) (G' := nl) (n := 0) Fd sc__law_read rfl rfl (fun cdv A outer s F H E hr tk =>
    (fss_one (fs_retO (fo_cat (fo_cat (fo_lst (fh_cons (fe_fld 1 (fe_var 0) T.cl_Affine T.na_Affine_constant) fh_nil)) (fo_listT (fe_fld 0 (fe_var 0) T.cl_Affine T.na_Affine_coefs) (T.f_list))) (fo_lst (fh_cons (fe_fld 2 (fe_var 0) T.cl_Affine T.na_Affine_bottom) fh_nil)))))) (fun z => by simp only [bind_ok']; rfl)
abbrev N__law_same : List Str := [("task" : Str), ("model" : Str), ("rules" : Str), ("rows" : Str), ("other" : Str), ("values" : Str), ("rule" : Str), ("row" : Str)]
theorem sc__law_same : FnScope N__law_same [("task" : Str), ("model" : Str)] (defScope (top 29)) := ⟨rfl, rfl, rfl, by decide +kernel, rfl, by decide +kernel, by decide +kernel⟩
theorem d__law_same {f : Addr} {fd : FuncData} (Fd : FnP K "_law_same" (top 29) f fd) (T : T0 K mg) (D__law_read : Dk P w K mg base "_law_read" [("told" : Str)] 1 (spF K (rtO Int) m__law_read)) (D__law_function : Dk P w K mg base "_law_function" [("values" : Str)] 4 (spF K (rtF Ty_Affine) m__law_function)) (D_Task___init__ : Di P w K mg base "Task" [("self" : Str), ("size" : Str), ("replies" : Str), ("cost" : Str), ("rules" : Str), ("aim" : Str), ("rows" : Str)] [] 4 (spI K "Task" Fs_Task m_Task___init__)) (D_Task___eq__ : Dm P w K mg base "Task" "__eq__" [("self" : Str), ("other" : Str)] 3 (spF K (rtF Bool) m_Task___eq__)) : FnOk P w K mg base (L2.CX P w) 6 f fd [("task" : Str), ("model" : Str)] (spF K (rtF Bool) m__law_same) :=
  fn_def (αs := (Ty_Task ⊕ (Option (Str × Str))) × (List PyData) × Unit) (G' := nl) (n := 6) Fd sc__law_same rfl rfl (fun cdv A outer s F H E hr tk =>
    (fss_cons (fs_if (ft_w (fw_or (ft_not (ft_val (fe_isOk (isOk_sum (isOk_ob (b := true) T.isi_Task T.ki_Task_Task) (isOk_opt (b := false) T.ki_NoneType_Task (isOk_ty (t := "tuple") (fun _ => rfl) (b := false) T.ki_tuple_Task))) (fe_var 0) (.own _) (pe_clsR T.g_Task) (T.f_isinstance)))) (fw_or (ft_ne (fe_fld 0 (fe_unL (fe_var 0)) T.cl_Task T.na_Task_size) (fe_asI (fe_ixL (fe_var 1) fe_int))) (fw_or1 (ft_ne (fe_fld 1 (fe_unL (fe_var 0)) T.cl_Task T.na_Task_replies) (fe_asI (fe_ixL (fe_var 1) fe_int))))))) (fss_one (fs_ret fe_bl)) fss_nil)
    (fss_cons (fs_if (ft_w (fw_or (ft_not (ft_val (fe_isi (U := "tuple") (fe_fld 3 (fe_unL (fe_var 0)) T.cl_Task T.na_Task_rules) (T.f_isinstance) T.f_tuple))) (fw_or1 (ft_not (ft_val (fe_isi (U := "tuple") (fe_fld 5 (fe_unL (fe_var 0)) T.cl_Task T.na_Task_rows) (T.f_isinstance) T.f_tuple)))))) (fss_one (fs_ret fe_bl)) fss_nil)
    (fss_cons (fs_if (ft_w (fw_or (ft_ned hr (fe_fz (fo_cal D__law_read tk hr (fa_cons (fe_fld 2 (fe_unL (fe_var 0)) T.cl_Task T.na_Task_cost) fa_nil))) (fe_asD (α := (List Int)) (fe_ixL (fe_var 1) fe_int))) (fw_or1 (ft_ned hr (fe_fz (fo_cal D__law_read tk hr (fa_cons (fe_fld 4 (fe_unL (fe_var 0)) T.cl_Task T.na_Task_aim) fa_nil))) (fe_asD (α := (List Int)) (fe_ixL (fe_var 1) fe_int)))))) (fss_one (fs_ret fe_bl)) fss_nil)
    (fss_cons (fs_if (ft_w (fw_or (ft_ned hr (fe_fz (fo_lc (vs := [6]) (own := [(("rule" : Str), 6)]) rfl (blkOk_by (N := N__law_same) (sc := defScope (top 29)) (by decide +kernel)) sc__law_same.nd (fi_tup (fe_fld 3 (fe_unL (fe_var 0)) T.cl_Task T.na_Task_rules)) (fgb_name 6 sc__law_same.nd) fts_nil (fun s H C cl fp => (fe_fz (fo_cal D__law_read takesF hr (fa_cons (fe_var 6) fa_nil)))))) (fe_asD (α := (List (List Int))) (fe_ixL (fe_var 1) fe_int))) (fw_or1 (ft_ned hr (fe_fz (fo_lc (vs := [7]) (own := [(("row" : Str), 7)]) rfl (blkOk_by (N := N__law_same) (sc := defScope (top 29)) (by decide +kernel)) sc__law_same.nd (fi_tup (fe_fld 5 (fe_unL (fe_var 0)) T.cl_Task T.na_Task_rows)) (fgb_name 7 sc__law_same.nd) fts_nil (fun s H C cl fp => (fe_fz (fo_cal D__law_read takesF hr (fa_cons (fe_var 7) fa_nil)))))) (fe_asD (α := (List (List Int))) (fe_ixL (fe_var 1) fe_int)))))) (fss_one (fs_ret fe_bl)) fss_nil)
    (fss_cons (fs_B (fn_setLcF (vs := [5]) (own := [(("values" : Str), 5)]) 2 rfl rfl (blkOk_by (N := N__law_same) (sc := defScope (top 29)) (by decide +kernel)) sc__law_same.nd (fi_list (fe_asD (α := (List (List Int))) (fe_ixL (fe_var 1) fe_int))) (fgb_name 5 sc__law_same.nd) fts_nil (fun s H C cl fp => (fe_cal D__law_function takesF hr (fa_cons (fe_var 5) fa_nil)))))
    (fss_cons (fs_B (fn_setLcF (vs := [5]) (own := [(("values" : Str), 5)]) 3 rfl rfl (blkOk_by (N := N__law_same) (sc := defScope (top 29)) (by decide +kernel)) sc__law_same.nd (fi_list (fe_asD (α := (List (List Int))) (fe_ixL (fe_var 1) fe_int))) (fgb_name 5 sc__law_same.nd) fts_nil (fun s H C cl fp => (fe_cal D__law_function takesF hr (fa_cons (fe_var 5) fa_nil)))))
    (fss_cons (fs_B (fn_set 4 rfl (fe_make D_Task___init__ tk hr (fa_cons (fe_asI (fe_ixL (fe_var 1) fe_int)) (fa_cons (fe_asI (fe_ixL (fe_var 1) fe_int)) (fa_cons (fe_cal D__law_function tk hr (fa_cons (fe_asD (α := (List Int)) (fe_ixL (fe_var 1) fe_int)) fa_nil)) (fa_cons (fe_lq (fe_var 2)) (fa_cons (fe_cal D__law_function tk hr (fa_cons (fe_asD (α := (List Int)) (fe_ixL (fe_var 1) fe_int)) fa_nil)) (fa_cons (fe_lq (fe_var 3)) fa_nil))))))) sc__law_same.nd))
    (fss_one (fs_ret (fe_and (fe_eqOO D_Task___eq__ tk hr (fe_unL (fe_var 0)) (fe_var 4)) (fe_one (fe_not (fe_neOO D_Task___eq__ T.ne_Task tk hr (fe_unL (fe_var 0)) (fe_var 4))))))))))))))) (fun z => by simp only [bind_ok']; rfl)
abbrev N__law_due : List Str := [("model" : Str), ("deed" : Str), ("part" : Str), ("at" : Str), ("values" : Str), ("width" : Str), ("spot" : Str), ("lines" : Str), ("last" : Str), ("line" : Str)]
theorem sc__law_due : FnScope N__law_due [("model" : Str), ("deed" : Str), ("part" : Str), ("at" : Str), ("values" : Str)] (defScope (top 30)) := ⟨rfl, rfl, rfl, by decide +kernel, rfl, by decide +kernel, by decide +kernel⟩
theorem d__law_due {f : Addr} {fd : FuncData} (Fd : FnP K "_law_due" (top 30) f fd) (T : T0 K mg)  : FnOk P w K mg base (L2.CX P w) 1 f fd [("model" : Str), ("deed" : Str), ("part" : Str), ("at" : Str), ("values" : Str)] (spF K (rtF ((Str × Str) ⊕ (List PyData))) m__law_due) :=
  fn_def (αs := (List PyData) × Str × Str × Int × (List Int) × Unit) (G' := nl) (n := 5) Fd sc__law_due rfl rfl (fun cdv A outer s F H E hr tk =>
    (fss_cons (fs_if (ft_ninD hr (fe_var 1) (fe_fz (fo_lst (fh_cons fe_str (fh_cons fe_str (fh_cons fe_str fh_nil)))))) (fss_one (fs_ret (fe_inl (β := (List PyData)) (fe_tup2 fe_str (fe_var 1))))) fss_nil)
    (fss_cons (fs_if (ft_w (fw_or (ft_ninD hr (fe_var 2) (fe_fz (fo_lst (fh_cons fe_str (fh_cons fe_str (fh_cons fe_str (fh_cons fe_str fh_nil))))))) (fw_or1 (ft_w (fw_and (ft_inD hr (fe_var 2) (fe_fz (fo_lst (fh_cons fe_str (fh_cons fe_str fh_nil))))) (fw_and1 (ft_ne (fe_var 1) fe_str))))))) (fss_one (fs_ret (fe_inl (β := (List PyData)) (fe_tup2 fe_str (fe_var 2))))) fss_nil)
    (fss_cons (fs_B (fn_set 5 rfl (fe_add (fe_add (fe_asI (fe_ixL (fe_var 0) fe_int)) (fe_asI (fe_ixL (fe_var 0) fe_int))) fe_int) sc__law_due.nd))
    (fss_cons (fs_if (ft_w (fw_or (ft_eq (fe_var 2) fe_str) (fw_or1 (ft_eq (fe_var 2) fe_str)))) (fss_cons (fs_if (ft_ne (fe_len (fe_var 4) (T.f_len)) (fe_var 5)) (fss_one (fs_ret (fe_inl (β := (List PyData)) (fe_tup2 fe_str (fe_var 2))))) fss_nil)
    (fss_cons (fs_if (ft_eq (fe_var 2) fe_str) (fss_one (fs_ret (fe_inr (α := (Str × Str)) (fe_fz (fo_catF (fe_fz (fo_catF (fe_slL (fe_var 0) fp_none (fp_some fe_int)) (fe_fz (fo_lst (fh_cons (fe_dat (fe_var 4)) fh_nil))))) (fe_slL (fe_var 0) (fp_some fe_int) fp_none)))))) fss_nil)
    (fss_one (fs_ret (fe_inr (α := (Str × Str)) (fe_fz (fo_catF (fe_fz (fo_catF (fe_slL (fe_var 0) fp_none (fp_some fe_int)) (fe_fz (fo_lst (fh_cons (fe_dat (fe_var 4)) fh_nil))))) (fe_slL (fe_var 0) (fp_some fe_int) fp_none)))))))) fss_nil)
    (fss_cons (fs_B (fn_set 6 rfl (fe_if (ft_eq (fe_var 2) fe_str) fe_int fe_int) sc__law_due.nd))
    (fss_cons (fs_B (fn_setO 7 rfl (fo_list (fe_asD (α := (List (List Int))) (fe_ixL (fe_var 0) (fe_var 6))) (T.f_list)) sc__law_due.nd))
    (fss_cons (fs_B (fn_set 8 rfl (fe_br (fe_if (ft_eq (fe_var 1) fe_str) (fe_len (fe_var 7) (T.f_len)) (fe_sub (fe_len (fe_var 7) (T.f_len)) fe_int))) sc__law_due.nd))
    (fss_cons (fs_if (ft_w (fw_or (ft_lt (fe_var 3) fe_int) (fw_or1 (ft_gt (fe_var 3) (fe_var 8))))) (fss_one (fs_ret (fe_inl (β := (List PyData)) (fe_tup2 fe_str fe_str)))) fss_nil)
    (fss_cons (fs_n (fn_if (ft_eq (fe_var 1) fe_str) (fns_B3 (fn_setix 7 (fe_var 4) (fe_var 3) (hps := (pg_sub (pe_var (i := 7) rfl (Or.inl rfl)) (fe_var 3) set_list))) fns_nil) (fns_cons (fn_if (ft_eq (fe_var 1) fe_str) (fns_B3 (fn_insert 7 (fe_var 3) (fe_var 4)) fns_nil) (fns_B2 (fn_pop 7 (fe_var 3)) fns_nil)) fns_nil)))
    (fss_lend (fss_cons (fs_if (ft_w (fw_or (ft_gt (fe_len (fe_var 7) (T.f_len)) fe_int) (fw_or1 (ft_w (fw_and (ft_eq (fe_var 2) fe_str) (fw_and1 (ft_lt (fe_len (fe_var 7) (T.f_len)) fe_int))))))) (fss_one (fs_ret (fe_inl (β := (List PyData)) (fe_tup2 fe_str (fe_var 2))))) fss_nil)
    (fss_cons (fs_if (ft_gt (fe_len (fe_fz (fo_lc (vs := [9]) (own := [(("line" : Str), 9)]) rfl (blkOk_by (N := N__law_due) (sc := defScope (top 30)) (by decide +kernel)) sc__law_due.nd (fi_list (fe_var 7)) (fgb_name 9 sc__law_due.nd) (fts_one fun s H C cl fp => (ft_ne (fe_len (fe_var 9) (T.f_len)) (fe_var 5))) (fun s H C cl fp => (fe_var 9)))) (T.f_len)) fe_int) (fss_one (fs_ret (fe_inl (β := (List PyData)) (fe_tup2 fe_str (fe_var 2))))) fss_nil)
    (fss_one (fs_ret (fe_inr (α := (Str × Str)) (fe_fz (fo_catF (fe_fz (fo_catF (fe_slL (fe_var 0) fp_none (fp_some (fe_var 6))) (fe_fz (fo_lst (fh_cons (fe_dat (fe_var 7)) fh_nil))))) (fe_slL (fe_var 0) (fp_some (fe_add (fe_var 6) fe_int)) fp_none))))))))))))))))))) (fun z => by simp only [bind_ok']; rfl)
abbrev N__law_edit : List Str := [("deed" : Str), ("part" : Str), ("at" : Str), ("values" : Str)]
theorem sc__law_edit : FnScope N__law_edit [("deed" : Str), ("part" : Str), ("at" : Str), ("values" : Str)] (defScope (top 31)) := ⟨rfl, rfl, rfl, by decide +kernel, rfl, by decide +kernel, by decide +kernel⟩
theorem d__law_edit {f : Addr} {fd : FuncData} (Fd : FnP K "_law_edit" (top 31) f fd) (T : T0 K mg) (D__law_function : Dk P w K mg base "_law_function" [("values" : Str)] 4 (spF K (rtF Ty_Affine) m__law_function)) : FnOk P w K mg base (L2.CX P w) 5 f fd [("deed" : Str), ("part" : Str), ("at" : Str), ("values" : Str)] (spF K (rtF (Tu (PyData ⊕ Ty_Affine))) m__law_edit) :=
  fn_def (αs := Str × Str × Int × (List Int) × Unit) (G' := nl) (n := 0) Fd sc__law_edit rfl rfl (fun cdv A outer s F H E hr tk =>
    (fss_cons (fs_if (ft_w (fw_or (ft_eq (fe_var 1) fe_str) (fw_or1 (ft_eq (fe_var 1) fe_str)))) (fss_one (fs_ret (fe_tupU (fh_cons (fe_inl (β := Ty_Affine) (fe_dat (fe_var 0))) (fh_cons (fe_inl (β := Ty_Affine) (fe_dat (fe_var 1))) (fh_cons (fe_inr (α := PyData) (fe_cal D__law_function tk hr (fa_cons (fe_var 3) fa_nil))) fh_nil)))))) fss_nil)
    (fss_cons (fs_if (ft_eq (fe_var 0) fe_str) (fss_one (fs_ret (fe_tupU (fh_cons (fe_inl (β := Ty_Affine) (fe_dat (fe_var 0))) (fh_cons (fe_inl (β := Ty_Affine) (fe_dat (fe_var 1))) (fh_cons (fe_inl (β := Ty_Affine) (fe_dat (fe_var 2))) fh_nil)))))) fss_nil)
    (fss_one (fs_ret (fe_tupU (fh_cons (fe_inl (β := Ty_Affine) (fe_dat (fe_var 0))) (fh_cons (fe_inl (β := Ty_Affine) (fe_dat (fe_var 1))) (fh_cons (fe_inl (β := Ty_Affine) (fe_dat (fe_var 2))) (fh_cons (fe_inr (α := PyData) (fe_cal D__law_function tk hr (fa_cons (fe_var 3) fa_nil))) fh_nil)))))))))) (fun z => by simp only [bind_ok']; rfl)
abbrev N__law_told : List Str := [("task" : Str), ("edit" : Str), ("e" : Str)]
theorem sc__law_told : FnScope N__law_told [("task" : Str), ("edit" : Str)] (defScope (top 32)) := ⟨rfl, rfl, rfl, by decide +kernel, rfl, by decide +kernel, by decide +kernel⟩
theorem d__law_told {f : Addr} {fd : FuncData} (Fd : FnP K "_law_told" (top 32) f fd) (T : T0 K mg) (D_edited_task : Dk P w K mg base "edited_task" [("task" : Str), ("edit" : Str)] 6 (spF K (rtF Ty_Task) m_edited_task)) : FnOk P w K mg base (L2.CX P w) 7 f fd [("task" : Str), ("edit" : Str)] (spF K (rtF (Ty_Task ⊕ (Option (Str × Str)))) m__law_told) :=
  fn_def (αs := Ty_Task × (Tu (PyData ⊕ Ty_Affine)) × Unit) (G' := nl) (n := 1) Fd sc__law_told rfl rfl (fun cdv A outer s F H E hr tk =>
    (fss_cons (fs_tryF (i := 2) (vs := []) tk sc__law_told.nd (fun W pn xe g0 tk po => (fss_one (fs_retT (fe_inl (β := (Option (Str × Str))) (fe_cal D_edited_task tk hr (fa_cons (fe_var 0) (fa_cons (fe_var 1) fa_nil))))))) (hd_cons (kf := catchL "UnknownName" [("BadShape" : Str)]) ⟨rfl, by decide, .inl T.g_UnknownName⟩ (catchL_ok T.m_UnknownName_UnknownName ⟨T.mf_BadShape_UnknownName, trivial⟩) (fun a oe d cc pn g0 hcc hz hv => have hcc := catchL_eq hcc; (fss_cons (fs_if (ft_w (fw_and (ft_val (fe_isD 2 true (hcc ▸ T.e_UnknownName) hz hv (hcc ▸ T.k_UnknownName_LeaderError) (by intro z hz; exact hz) (pe_clsR T.g_LeaderError) (T.f_isinstance))) (fw_and1 (ft_not (ft_val (fe_isD 2 false (hcc ▸ T.e_UnknownName) hz hv (hcc ▸ T.k_UnknownName_BadShape) (by intro z hz; exact hz) (pe_clsR T.g_BadShape) (T.f_isinstance))))))) (fss_one (fs_retT (fe_inr (α := Ty_Task) (fe_opt (fe_tup2 fe_str (fe_efldS 2 (hcc ▸ T.xc_UnknownName) (hcc ▸ T.nf_UnknownName_name) hz hv)))))) fss_nil)
    (fss_nilS (G' := (va Ty_Task (va (Tu (PyData ⊕ Ty_Affine)) (un nl))))))) (hd_cons (kf := catchL "BadShape" [("UnknownName" : Str)]) ⟨rfl, by decide, .inl T.g_BadShape⟩ (catchL_ok T.m_BadShape_BadShape ⟨T.mf_UnknownName_BadShape, trivial⟩) (fun a oe d cc pn g0 hcc hz hv => have hcc := catchL_eq hcc; (fss_cons (fs_if (ft_w (fw_and (ft_val (fe_isD 2 true (hcc ▸ T.e_BadShape) hz hv (hcc ▸ T.k_BadShape_LeaderError) (by intro z hz; exact hz) (pe_clsR T.g_LeaderError) (T.f_isinstance))) (fw_and1 (ft_not (ft_val (fe_isD 2 false (hcc ▸ T.e_BadShape) hz hv (hcc ▸ T.k_BadShape_UnknownName) (by intro z hz; exact hz) (pe_clsR T.g_UnknownName) (T.f_isinstance))))))) (fss_one (fs_retT (fe_inr (α := Ty_Task) (fe_opt (fe_tup2 fe_str (fe_efldS 2 (hcc ▸ T.xc_BadShape) (hcc ▸ T.nf_BadShape_part) hz hv)))))) fss_nil)
    (fss_nilS (G' := (va Ty_Task (va (Tu (PyData ⊕ Ty_Affine)) (un nl))))))) .nil)))
    (fss_one (fs_ret (fe_inr (α := Ty_Task) (fe_nopt (α := (Str × Str)) fe_none)))))) (fun z => by simp only [bind_ok']; rfl)
abbrev N_law : List Str := [("script" : Str), ("draws" : Str), ("size" : Str), ("replies" : Str), ("width" : Str), ("rules" : Str), ("rows" : Str), ("model" : Str), ("task" : Str), ("turn" : Str), ("cell" : Str), ("deed" : Str), ("part" : Str), ("last" : Str), ("at" : Str), ("values" : Str), ("due" : Str), ("told" : Str), ("k" : Str)]
theorem sc_law : FnScope N_law [("script" : Str)] (defScope (top 33)) := ⟨rfl, rfl, rfl, by decide +kernel, rfl, by decide +kernel, by decide +kernel⟩
theorem d_law {f : Addr} {fd : FuncData} (Fd : FnP K "law" (top 33) f fd) (T : T0 K mg) (D__law_draws : Dk P w K mg base "_law_draws" [("script" : Str), ("count" : Str)] 1 (spF K (rtO Int) m__law_draws)) (D__law_values : Dk P w K mg base "_law_values" [("draws" : Str), ("at" : Str), ("width" : Str)] 2 (spF K (rtO Int) m__law_values)) (D__law_function : Dk P w K mg base "_law_function" [("values" : Str)] 4 (spF K (rtF Ty_Affine) m__law_function)) (D_Task___init__ : Di P w K mg base "Task" [("self" : Str), ("size" : Str), ("replies" : Str), ("cost" : Str), ("rules" : Str), ("aim" : Str), ("rows" : Str)] [] 4 (spI K "Task" Fs_Task m_Task___init__)) (D__law_same : Dk P w K mg base "_law_same" [("task" : Str), ("model" : Str)] 6 (spF K (rtF Bool) m__law_same)) (D__law_due : Dk P w K mg base "_law_due" [("model" : Str), ("deed" : Str), ("part" : Str), ("at" : Str), ("values" : Str)] 1 (spF K (rtF ((Str × Str) ⊕ (List PyData))) m__law_due)) (D__law_edit : Dk P w K mg base "_law_edit" [("deed" : Str), ("part" : Str), ("at" : Str), ("values" : Str)] 5 (spF K (rtF (Tu (PyData ⊕ Ty_Affine))) m__law_edit)) (D__law_told : Dk P w K mg base "_law_told" [("task" : Str), ("edit" : Str)] 7 (spF K (rtF (Ty_Task ⊕ (Option (Str × Str)))) m__law_told)) (D_Task___eq__ : Dm P w K mg base "Task" "__eq__" [("self" : Str), ("other" : Str)] 3 (spF K (rtF Bool) m_Task___eq__)) : FnOk P w K mg base (L2.CX P w) 8 f fd [("script" : Str)] (spF K (rtF Bool) m_law) :=
  fn_def (αs := (List Int) × Unit) (G' := nl) (n := 18) Fd sc_law rfl rfl (fun cdv A outer s F H E hr tk =>
    (fss_cons (fs_B (fn_set 1 rfl (fe_fz (fo_cal D__law_draws tk hr (fa_cons (fe_var 0) (fa_cons fe_int fa_nil)))) sc_law.nd))
    (fss_cons (fs_B (fn_set 2 rfl (fe_add fe_int (fe_mod (fe_ixL (fe_var 1) fe_int) fe_int)) sc_law.nd))
    (fss_cons (fs_B (fn_set 3 rfl (fe_add fe_int (fe_mod (fe_fdv (fe_ixL (fe_var 1) fe_int) fe_int) fe_int)) sc_law.nd))
    (fss_cons (fs_B (fn_set 4 rfl (fe_add (fe_var 2) (fe_var 3)) sc_law.nd))
    (fss_cons (fs_B (fn_setLcF (vs := [18]) (own := [(("k" : Str), 18)]) 5 rfl rfl (blkOk_by (N := N_law) (sc := defScope (top 33)) (by decide +kernel)) sc_law.nd (fi_range1 (fe_mod (fe_ixL (fe_var 1) fe_int) fe_int) (T.f_range)) (fgb_name 18 sc_law.nd) fts_nil (fun s H C cl fp => (fe_fz (fo_cal D__law_values takesF hr (fa_cons (fe_var 1) (fa_cons (fe_add fe_int (fe_mul fe_int (fe_var 18))) (fa_cons (fe_var 4) fa_nil))))))))
    (fss_cons (fs_B (fn_setLcF (vs := [18]) (own := [(("k" : Str), 18)]) 6 rfl rfl (blkOk_by (N := N_law) (sc := defScope (top 33)) (by decide +kernel)) sc_law.nd (fi_range1 (fe_add fe_int (fe_mod (fe_ixL (fe_var 1) fe_int) fe_int)) (T.f_range)) (fgb_name 18 sc_law.nd) fts_nil (fun s H C cl fp => (fe_fz (fo_cal D__law_values takesF hr (fa_cons (fe_var 1) (fa_cons (fe_add fe_int (fe_mul fe_int (fe_var 18))) (fa_cons (fe_var 4) fa_nil))))))))
    (fss_cons (fs_B (fn_set 7 rfl (fe_fz (fo_lst (fh_cons (fe_dat (fe_var 2)) (fh_cons (fe_dat (fe_var 3)) (fh_cons (fe_dat (fe_fz (fo_cal D__law_values tk hr (fa_cons (fe_var 1) (fa_cons fe_int (fa_cons (fe_var 4) fa_nil)))))) (fh_cons (fe_dat (fe_var 5)) (fh_cons (fe_dat (fe_fz (fo_cal D__law_values tk hr (fa_cons (fe_var 1) (fa_cons fe_int (fa_cons (fe_var 4) fa_nil)))))) (fh_cons (fe_dat (fe_var 6)) fh_nil)))))))) sc_law.nd))
    (fss_cons (fs_B (fn_set 8 rfl (fe_make D_Task___init__ tk hr (fa_cons (fe_var 2) (fa_cons (fe_var 3) (fa_cons (fe_cal D__law_function tk hr (fa_cons (fe_asD (α := (List Int)) (fe_ixL (fe_var 7) fe_int)) fa_nil)) (fa_cons (fe_lq (fe_fz (fo_lc (vs := [15]) (own := [(("values" : Str), 15)]) rfl (blkOk_by (N := N_law) (sc := defScope (top 33)) (by decide +kernel)) sc_law.nd (fi_list (fe_var 5)) (fgb_name 15 sc_law.nd) fts_nil (fun s H C cl fp => (fe_cal D__law_function takesF hr (fa_cons (fe_var 15) fa_nil)))))) (fa_cons (fe_cal D__law_function tk hr (fa_cons (fe_asD (α := (List Int)) (fe_ixL (fe_var 7) fe_int)) fa_nil)) (fa_cons (fe_lq (fe_fz (fo_lc (vs := [15]) (own := [(("values" : Str), 15)]) rfl (blkOk_by (N := N_law) (sc := defScope (top 33)) (by decide +kernel)) sc_law.nd (fi_list (fe_var 6)) (fgb_name 15 sc_law.nd) fts_nil (fun s H C cl fp => (fe_cal D__law_function takesF hr (fa_cons (fe_var 15) fa_nil)))))) fa_nil))))))) sc_law.nd))
    (fss_cons (fs_if (ft_not (ft_val (fe_cal D__law_same tk hr (fa_cons (fe_inl (β := (Option (Str × Str))) (fe_var 8)) (fa_cons (fe_var 7) fa_nil))))) (fss_one (fs_ret fe_bl)) fss_nil)
    (fss_cons (fs_forK (rt := id) (passes_of rfl) (fi_range1 fe_int (T.f_range)) (fg_name 9 rfl sc_law.nd) (fss_cons (fs_B (fn_set 10 rfl (fe_ixL (fe_var 1) (fe_add fe_int (fe_mul fe_int (fe_var 9)))) sc_law.nd))
    (fss_cons (fs_B (fn_set 11 rfl (fe_ixL (fe_fz (fo_lst (fh_cons fe_str (fh_cons fe_str (fh_cons fe_str (fh_cons fe_str (fh_cons fe_str (fh_cons fe_str (fh_cons fe_str (fh_cons fe_str fh_nil)))))))))) (fe_mod (fe_var 10) fe_int)) sc_law.nd))
    (fss_cons (fs_B (fn_set 12 rfl (fe_ixL (fe_fz (fo_lst (fh_cons fe_str (fh_cons fe_str (fh_cons fe_str (fh_cons fe_str (fh_cons fe_str (fh_cons fe_str (fh_cons fe_str (fh_cons fe_str fh_nil)))))))))) (fe_mod (fe_ixL (fe_var 1) (fe_add fe_int (fe_mul fe_int (fe_var 9)))) fe_int)) sc_law.nd))
    (fss_cons (fs_B (fn_set 13 rfl (fe_len (fe_asSq (fe_ixL (fe_var 7) fe_int)) (T.f_len)) sc_law.nd))
    (fss_cons (fs_n (fn_if (ft_eq (fe_var 12) fe_str) (fns_B (fn_set 13 rfl (fe_len (fe_asSq (fe_ixL (fe_var 7) fe_int)) (T.f_len)) sc_law.nd) fns_nil) fns_nil))
    (fss_cons (fs_B (fn_set 14 rfl (fe_sub (fe_mod (fe_ixL (fe_var 1) (fe_add fe_int (fe_mul fe_int (fe_var 9)))) (fe_add (fe_var 13) fe_int)) fe_int) sc_law.nd))
    (fss_cons (fs_B (fn_set 15 rfl (fe_fz (fo_cal D__law_values tk hr (fa_cons (fe_var 1) (fa_cons (fe_add fe_int (fe_mul fe_int (fe_var 9))) (fa_cons (fe_add (fe_var 4) (fe_intB (fe_eq (fe_mod (fe_ixL (fe_var 1) (fe_add fe_int (fe_mul fe_int (fe_var 9)))) fe_int) fe_int) (T.f_int))) fa_nil))))) sc_law.nd))
    (fss_cons (fs_B (fn_set 16 rfl (fe_cal D__law_due tk hr (fa_cons (fe_var 7) (fa_cons (fe_var 11) (fa_cons (fe_var 12) (fa_cons (fe_var 14) (fa_cons (fe_var 15) fa_nil)))))) sc_law.nd))
    (fss_cons (fs_B (fn_set 17 rfl (fe_cal D__law_told tk hr (fa_cons (fe_var 8) (fa_cons (fe_cal D__law_edit tk hr (fa_cons (fe_var 11) (fa_cons (fe_var 12) (fa_cons (fe_var 14) (fa_cons (fe_var 15) fa_nil))))) fa_nil))) sc_law.nd))
    (fss_cons (fs_if (ft_not (ft_val (fe_cal D__law_same tk hr (fa_cons (fe_inl (β := (Option (Str × Str))) (fe_var 8)) (fa_cons (fe_var 7) fa_nil))))) (fss_one (fs_retL fe_bl)) fss_nil)
    (fss_cons (fs_if (ft_val (fe_isOk (isOk_sum (isOk_ty (t := "tuple") (fun _ => rfl) (b := true) (kit_ty (by decide))) (isOk_ty (t := "list") (fun _ => rfl) (b := false) (kit_ty (by decide)))) (fe_var 16) (.ty "tuple") (pe_clsT (U := "tuple") T.f_tuple) (T.f_isinstance))) (fss_cons (fs_if (ft_w (fw_or (ft_not (ft_val (fe_isOk (isOk_sum (isOk_ob (b := false) T.isi_Task T.kb_Task_tuple) (isOk_opt (b := false) (kit_ty (by decide)) (isOk_ty (t := "tuple") (fun _ => rfl) (b := true) (kit_ty (by decide))))) (fe_var 17) (.ty "tuple") (pe_clsT (U := "tuple") T.f_tuple) (T.f_isinstance)))) (fw_or1 (ft_ned hr (fe_some (fe_unR (fe_var 17))) (fe_unL (fe_var 16)))))) (fss_one (fs_retL fe_bl)) fss_nil)
    fss_nil) (fss_cons (fs_if (ft_w (fw_or (ft_not (ft_val (fe_cal D__law_same tk hr (fa_cons (fe_var 17) (fa_cons (fe_unR (fe_var 16)) fa_nil))))) (fw_or (ft_ne (fe_eqOO D_Task___eq__ tk hr (fe_var 8) (fe_unL (fe_var 17))) (fe_eqd hr (fe_var 7) (fe_unR (fe_var 16)))) (fw_or1 (ft_ne (fe_neOO D_Task___eq__ T.ne_Task tk hr (fe_unL (fe_var 17)) (fe_var 8)) (fe_ned hr (fe_var 7) (fe_unR (fe_var 16)))))))) (fss_one (fs_retL fe_bl)) fss_nil)
    (fss_cons (fs_B (fn_set 8 rfl (fe_unL (fe_var 17)) sc_law.nd))
    (fss_cons (fs_B (fn_set 7 rfl (fe_unR (fe_var 16)) sc_law.nd))
    fss_nil))))
    (fss_nilS (G' := (va (List Int) (va (List Int) (va Int (va Int (va Int (va (List (List Int)) (va (List (List Int)) (va (List PyData) (va Ty_Task (un (un (un (un (un (un (un (un (un (un nl)))))))))))))))))))))))))))))))))
    (fss_one (fs_ret fe_bl))))))))))))) (fun z => by simp only [bind_ok']; rfl)
end
end LW

/-! CD: the draws. -/
namespace LW
open PySem L2 FL
theorem fm_range {a : Int} {m : Int} (h : 0 < m) : 0 ≤ a.fmod m ∧ a.fmod m < m := ⟨Int.fmod_nonneg_of_pos _ h, Int.fmod_lt_of_pos _ h⟩
def Dr (l : List Int) : Prop := ∀ x ∈ l, 0 ≤ x ∧ x < 1000
theorem Dr.snoc {l : List Int} {a : Int} (h : Dr l) (h2 : 0 ≤ a ∧ a < 1000) : Dr (l ++ [a]) := fun x m => by
  rcases List.mem_append.mp m with m | m
  · exact h x m
  · rw [List.mem_singleton.mp m]; exact h2
theorem hlen {α : Type} [Rp α] (l : List α) : HasLen.len l = l.length := rfl
theorem draws_ok {ns : List Int} {c : Int} (hn : ns.length ≤ 63) (h0 : 0 ≤ c) (h1 : c ≤ 1000) : Ok (m__law_draws (ns, c, ())) fun l => (l.length : Int) = c ∧ Dr l := by
  unfold m__law_draws
  rw [ok_bind]
  refine ok_fold (fun g => g.1 = ns ∧ g.2.1 = c ∧ (g.2.2.1.length : Int) ≤ c ∧ Dr g.2.2.1) ⟨by first | rfl | trivial, by first | rfl | trivial, by simpa using h0, fun x m => by cases m⟩ ?_ ?_
  · rintro ⟨a1, a2, a3, _⟩ a _ ⟨b1, b2, b3, b4⟩
    simp only at b1 b2 b3 b4
    subst b1 b2
    simp only [ok_bind, ok_ok, ok_ite, hlen]
    rw [ok_pow (by decide)]
    refine ⟨fun _ => ?_, fun _ => ⟨fun hl => ?_, fun _ => ⟨by first | rfl | trivial, by first | rfl | trivial, b3, b4⟩⟩⟩
    · rw [ok_rng (by decide)]
      refine ok_fold (fun g => g.1 = a1 ∧ g.2.1 = a2 ∧ (g.2.2.1.length : Int) ≤ a2 ∧ Dr g.2.2.1) ⟨by first | rfl | trivial, by first | rfl | trivial, b3, b4⟩ ?_ fun g h => h
      rintro ⟨c1, c2, c3, c4, c5, _⟩ k _ ⟨d1, d2, d3, d4⟩
      simp only at d1 d2 d3 d4
      subst d1 d2
      simp only [ok_bind, ok_ok, ok_ite, hlen]

      refine ⟨fun _ => ⟨fun hl => ?_, fun _ => ⟨by first | rfl | trivial, by first | rfl | trivial, d3, d4⟩⟩, fun _ => ⟨(fun z => absurd z Bool.false_ne_true), fun _ => ⟨by first | rfl | trivial, by first | rfl | trivial, d3, d4⟩⟩⟩
      have hl := of_decide_eq_true hl
      rw [ok_mod (by decide), ok_app (by omega), ok_fdv (by decide) (by decide)]
      exact ⟨by first | rfl | trivial, by first | rfl | trivial, by simp only [len_app]; omega, d4.snoc (fm_range (by decide))⟩
    · have hl := of_decide_eq_true hl
      rw [ok_mulr (by decide), ok_mod (by decide), ok_mulr (by decide), ok_mod (by decide), ok_mod (by decide), ok_app (by omega)]
      exact ⟨by first | rfl | trivial, by first | rfl | trivial, by simp only [len_app]; omega, b4.snoc (fm_range (by decide))⟩
  · rintro ⟨a1, a2, a3, _⟩ ⟨b1, b2, b3, b4⟩
    simp only at b1 b2 b3 b4
    subst b1 b2
    simp only []
    rw [ok_bind]
    refine ok_fold (fun g => g.1 = a1 ∧ g.2.1 = a2 ∧ g.2.2.1 = a3) ⟨rfl, rfl, rfl⟩ ?_ ?_
    · rintro ⟨c1, c2, c3, c4, _⟩ a _ ⟨d1, d2, d3⟩
      simp only at d1 d2 d3
      subst d1 d2 d3
      simp only [ok_bind, ok_ok]
      rw [ok_mulr (by decide), ok_mod (by decide)]
      exact ⟨by trivial, by trivial, by trivial⟩
    · rintro ⟨c1, c2, c3, c4, _⟩ ⟨d1, d2, d3⟩
      simp only at d1 d2 d3
      subst d1 d2 d3
      simp only [ok_bind, ok_ok]
      rw [ok_rng (by omega)]
      refine ok_foldI (fun i g => g.1 = c1 ∧ g.2.1 = c2 ∧ (g.2.2.1.length : Int) ≤ c2 ∧ ((i : Int) ≤ c2 → (i : Int) ≤ g.2.2.1.length) ∧ Dr g.2.2.1) ⟨by first | rfl | trivial, by first | rfl | trivial, b3, fun _ => by simp, b4⟩ ?_ ?_
      · rintro i ⟨e1, e2, e3, e4, _⟩ k hk ⟨f1, f2, f3, f4, f5⟩
        simp only at f1 f2 f3 f4 f5
        subst f1 f2
        simp only [ok_bind, ok_ok, ok_ite, hlen]
        refine ⟨fun hl => ?_, fun hl => ⟨by first | rfl | trivial, by first | rfl | trivial, f3, fun z => ?_, f5⟩⟩
        · have hl := of_decide_eq_true hl
          rw [ok_mulr (by decide), ok_mod (by decide), ok_fdv (by decide) (by decide), ok_mod (by decide), ok_app (by omega)]
          exact ⟨by first | rfl | trivial, by first | rfl | trivial, by simp only [len_app]; omega, fun z => by simp only [len_app]; omega, f5.snoc (fm_range (by decide))⟩
        · have hl := of_decide_eq_false hl
          omega
      · rintro ⟨e1, e2, e3, e4, _⟩ ⟨f1, f2, f3, f4, f5⟩
        simp only at f1 f2 f3 f4 f5
        subst f1 f2
        rw [rangeL_len] at f4
        exact ⟨by have := f4 (by omega); show ((e3.length : Int)) = _; omega, f5⟩
/-- the draw at a place -/
def dv (l : List Int) (i : Int) : Int := l.getD i.toNat 0
theorem dv_range {l : List Int} (h : Dr l) (i : Int) : 0 ≤ dv l i ∧ dv l i < 1000 := by
  unfold dv
  rw [List.getD_eq_getElem?_getD]
  cases e : l[i.toNat]? with
  | none => exact ⟨Int.le_refl 0, by decide⟩
  | some x => exact h x (List.mem_of_getElem? e)
theorem getX_dv {l : List Int} {i : Int} (h0 : 0 ≤ i) (h1 : i < (l.length : Int)) : getX l i = .ok (dv l i) := by
  have e : l[i.toNat]? = some l[i.toNat] := List.getElem?_eq_getElem (by omega)
  rw [getX_b h0 e]
  unfold dv
  rw [List.getD_eq_getElem?_getD, e]
  rfl
theorem mod_range {a m : Int} (h : 0 < m) : 0 ≤ a.fmod m ∧ a.fmod m < m := fm_range h
end LW

/-! CG: the law's gcd. -/
namespace LW
open PySem L2 FL
theorem gcd_loop {f : (Int × (Int × Unit)) → Int → Xc (Lp (Int × (Int × Unit)) Int)} (hf : ∀ x y k, f (x, (y, ())) k = if decide (y = 0) = true then Xc.ok (Lp.rt x) else Xc.bind (modX x y) fun t => Xc.ok (Lp.ct (y, (t, ())))) :
    ∀ (n : Nat) (l : List Int) (x y : Nat), 2 * n + 2 ≤ l.length → y < 2 ^ n → forX f l ((x : Int), ((y : Int), ())) = .ok (.inr ((Nat.gcd x y : Nat) : Int)) := by
  have step0 : ∀ (a : Int) (l : List Int) (x : Nat), forX f (a :: l) ((x : Int), ((0 : Int), ())) = .ok (.inr (x : Int)) := fun a l x => by
    rw [forX_cons, hf]
    simp [bind_ok]
  have step1 : ∀ (a : Int) (l : List Int) (x y : Nat), y ≠ 0 → forX f (a :: l) ((x : Int), ((y : Int), ())) = forX f l ((y : Int), (((x % y : Nat) : Int), ())) := fun a l x y h => by
    rw [forX_cons, hf]
    have h2 : (y : Int) ≠ 0 := by omega
    rw [if_neg (by simpa using h), modX_b h2]
    simp only [bind_ok]
    rw [Int.fmod_eq_emod_of_nonneg _ (by omega)]
    rfl
  intro n
  induction n with
  | zero =>
    intro l x y hl hy
    have : y = 0 := by simpa using hy
    subst this
    cases l with
    | nil => simp at hl
    | cons a l => simpa using step0 a l x
  | succ n ih =>
    intro l x y hl hy
    match l, hl with
    | a :: b :: l, hl =>
      by_cases h : y = 0
      · subst h; simpa using step0 a (b :: l) x
      · rw [step1 _ _ _ _ h]
        by_cases h2 : x % y = 0
        · rw [h2]
          have := step0 b l y
          rw [show ((0 : Nat) : Int) = 0 from rfl, this]
          rw [Nat.gcd_comm, Nat.gcd_rec, h2, Nat.gcd_zero_left]
        · rw [step1 _ _ _ _ h2]
          have hr : x % y < y := Nat.mod_lt _ (by omega)
          have hs : 2 * (y % (x % y)) < 2 ^ (n + 1) := by
            have h3 : y % (x % y) < x % y := Nat.mod_lt _ (by omega)
            have h4 : y % (x % y) ≤ y - (x % y) := by
              have e := Nat.div_add_mod y (x % y)
              have : 1 ≤ y / (x % y) := Nat.div_pos (by omega) (by omega)
              have : (x % y) * 1 ≤ (x % y) * (y / (x % y)) := Nat.mul_le_mul_left _ this
              omega
            omega
          rw [ih l (x % y) (y % (x % y)) (by simp at hl; omega) (by rw [Nat.pow_succ] at hs; omega)]
          congr 3
          rw [Nat.gcd_comm x y, Nat.gcd_rec y x, Nat.gcd_rec (x % y) y, Nat.gcd_comm]
theorem absI_eq (i : Int) : absI i = (i.natAbs : Int) := by
  unfold absI
  split <;> omega
theorem bits_lt (n : Nat) : n < 2 ^ Builtin.Int.intBits (n : Int) := by
  unfold Builtin.Int.intBits
  by_cases h : n = 0
  · subst h; decide
  · have : ((n : Int) == 0) = false := by simpa using h
    rw [this]
    simp only [Bool.false_eq_true, if_false]
    exact Nat.lt_log2_self
theorem bits_le {n b : Nat} (h : n < 2 ^ b) : Builtin.Int.intBits (n : Int) ≤ b := by
  unfold Builtin.Int.intBits
  by_cases h0 : n = 0
  · subst h0; simp
  · have : ((n : Int) == 0) = false := by simpa using h0
    rw [this]
    simp only [Bool.false_eq_true, if_false]
    have := (Nat.log2_lt h0).2 h
    exact this
theorem gcd_ok' {a b : Int} (h1 : Builtin.Int.intBits (b.natAbs : Int) ≤ 9000) : m__law_gcd (a, b, ()) = .ok (gcdI a b) := by
  have e1 : mulX (2 : Int) ((Builtin.Int.intBits (absI b) : Nat) : Int) = .ok (2 * ((Builtin.Int.intBits (b.natAbs : Int) : Nat) : Int)) := by rw [absI_eq]; exact mulX_l (by decide)
  have e2 : rngX 0 (2 * ((Builtin.Int.intBits (b.natAbs : Int) : Nat) : Int) + 2) = .ok (rangeL 0 (2 * ((Builtin.Int.intBits (b.natAbs : Int) : Nat) : Int) + 2)) := rngX_b (by decide) (by omega) (by decide) (by omega)
  have e3 := gcd_loop (f := fun (g408 : (Int × (Int × Unit))) a411 => (if (decide (g408.2.1 = (0 : Int))) = true then (Xc.ok (Lp.rt g408.1)) else (Xc.bind (modX g408.1 g408.2.1) fun t413 => (Xc.ok (Lp.ct (g408.2.1, (t413, ()))))))) (fun x y k => Eq.refl _) (Builtin.Int.intBits (b.natAbs : Int)) (rangeL 0 (2 * ((Builtin.Int.intBits (b.natAbs : Int) : Nat) : Int) + 2)) a.natAbs b.natAbs (by rw [rangeL_len]; omega) (bits_lt _)
  unfold m__law_gcd
  show (Xc.bind (Xc.bind (Xc.bind (mulX (2 : Int) ((Builtin.Int.intBits (absI b) : Nat) : Int)) _) _) _) = _
  rw [e1, bind_ok, bind_ok, e2, bind_ok]
  show forK (forX _ _ (absI a, (absI b, ()))) id _ = _
  rw [absI_eq, absI_eq, e3, forK_inr, gcdI]
  exact Eq.refl _
theorem gcd_ok {a b : Int} (hb : b.natAbs < 2 ^ 9000) : m__law_gcd (a, b, ()) = .ok (gcdI a b) := gcd_ok' (bits_le hb)
end LW

/-! P49A: functions of good rows: made, read, compared. -/
namespace LW
open PySem L2 FL
theorem gcdI_nat (n : Nat) (a : Int) : gcdI (n : Int) a = ((Nat.gcd n a.natAbs : Nat) : Int) := by
  unfold gcdI
  rw [Int.natAbs_natCast]
theorem fold_gcd {χ : Type} {f : (χ × (Int × (Int × Unit))) → Int → Xc (χ × (Int × (Int × Unit)))} {x : χ} {s : Int} : ∀ (l : List Int) (n : Nat), (∀ c a, a ∈ l → f (x, (s, (c, ()))) a = .ok (x, (s, (gcdI c a, ())))) →
    foldX f l (x, (s, ((n : Int), ()))) = .ok (x, (s, (((l.foldl (fun g a => Nat.gcd g a.natAbs) n : Nat) : Int), ())))
  | [], n, _ => rfl
  | a :: l, n, hf => by
    show (f _ a).bind _ = _
    rw [hf _ _ (by simp), bind_ok', gcdI_nat]
    exact fold_gcd l _ fun c a m => hf c a (by simp [m])
theorem common_l (l : List Int) (s : Int) : m_common_divisor_l (l, (s, ())) = .ok ((gcdL l s : Nat) : Int) := by
  unfold m_common_divisor_l
  dsimp only
  rw [absI_eq, fold_gcd (χ := List Int) l s.natAbs (fun c a _ => Eq.refl _), bind_ok']
  rfl
/-- the function of a row: constant, coefficients, bottom -/
def fA (c : Int) (l : List Int) (b : Int) : Ty_Affine := ⟨(tu l, (c, (b, ((l.length : Int), ()))))⟩
def mkA (row : List Int) : Ty_Affine := fA (row.getD 0 0) ((row.drop 1).dropLast) (row.getD (row.length - 1) 0)
theorem mkA_app (c b : Int) (l : List Int) : mkA (c :: (l ++ [b])) = fA c l b := by
  unfold mkA
  have e1 : (c :: (l ++ [b])).getD ((c :: (l ++ [b])).length - 1) 0 = b := by
    simp [List.getD]
  rw [e1]
  simp
/-- a good row of w coefficients -/
def GW (w : Nat) (row : List Int) : Prop := ∃ c l b, row = c :: (l ++ [b]) ∧ l.length = w ∧ 1 ≤ b ∧ gcdL l (gcdI c b) = 1
theorem GW.len {w : Nat} {row : List Int} (h : GW w row) : row.length = w + 2 := by
  obtain ⟨c, l, b, rfl, e, _⟩ := h
  simp [e]
theorem fdv1 (x : Int) : fdvX x 1 = .ok x := by
  have b1 : Bd 1 (1 : Int) := ⟨by decide⟩
  rw [fdvX_bd (n := 1) (by decide) (by decide), Int.fdiv_one]
theorem init_ok {c b : Int} {l : List Int} (hb : 1 ≤ b) (hg : gcdL l (gcdI c b) = 1) : m_Affine___init___l (l, (c, (b, ()))) = .ok (fA c l b).v := by
  unfold m_Affine___init___l
  dsimp only
  rw [if_neg (by simp; omega), bind_ok', common_l, bind_ok', hg, if_neg (by simp; omega), bind_ok']
  have e : compX (fun _ => Xc.ok true) (fun a => fdvX a ((1 : Nat) : Int)) l = .ok l := by
    show compX (fun _ => Xc.ok true) (fun a => fdvX a 1) l = .ok l
    rw [compX_map (h := fun a => a) fun a _ => ⟨rfl, fdv1 a⟩, List.map_id']
  dsimp only
  rw [e, bind_ok', bind_ok']
  have e1 := fdv1 c
  have e2 := fdv1 b
  show (fdvX c 1).bind _ = _
  rw [e1, bind_ok']
  show (fdvX b 1).bind _ = _
  rw [e2, bind_ok']
  rfl
theorem getX_0 {α : Type} {a : α} {l : List α} : getX (a :: l) 0 = .ok a := getX_b (by decide) rfl
theorem function_ok {w : Nat} {row : List Int} (h : GW w row) : m__law_function (row, ()) = .ok (mkA row) := by
  obtain ⟨c, l, b, rfl, el, h1, h2⟩ := h
  rw [mkA_app]
  unfold m__law_function
  dsimp only
  have e1 : getX (c :: (l ++ [b])) (-1) = .ok b := by
    show getX ((c :: l) ++ [b]) (-1) = _
    exact getX_last
  have e2 : cutL (c :: (l ++ [b])) (some 1) (some (-1)) = l := by
    rw [cutL_tail _ (by decide)]
    show ((c :: l) ++ [b]).dropLast.drop 1 = l
    rw [List.dropLast_concat]
    rfl
  rw [getX_0, bind_ok', e1, bind_ok', bind_ok', bind_ok', e2, bind_ok', init_ok h1 h2, bind_ok']
theorem read_ok {w : Nat} {row : List Int} (h : GW w row) (hw : w ≤ 100) : m__law_read (mkA row, ()) = .ok row := by
  obtain ⟨c, l, b, rfl, el, h1, h2⟩ := h
  rw [mkA_app]
  unfold m__law_read fA
  dsimp only
  rw [szX_b (by simp), bind_ok', show Tu.l (tu l) = l from rfl, catL_ok (by simp; omega), bind_ok', szX_b (by simp), bind_ok', catL_ok (by simp; omega)]
  simp
theorem eqA {w v : Nat} {r r' : List Int} (h : GW w r) (h' : GW v r') : m_Affine___eq__ (mkA r, (mkA r', ())) = .ok (decide (r = r')) := by
  obtain ⟨c, l, b, rfl, el, _⟩ := h
  obtain ⟨c', l', b', rfl, el', _⟩ := h'
  rw [mkA_app, mkA_app]
  unfold m_Affine___eq__ fA
  dsimp only
  rw [if_pos rfl, eqdX_ok (by decide) (tu l) (tu l'), bind_ok']
  have e0 : (c :: (l ++ [b]) = c' :: (l' ++ [b'])) ↔ (l = l' ∧ c = c' ∧ b = b') := by
    constructor
    · intro h
      rw [List.cons.injEq] at h
      have h2 := List.append_inj' h.2 rfl
      exact ⟨h2.1, h.1, by simpa using h2.2⟩
    · rintro ⟨a, b, c⟩
      rw [a, b, c]
  by_cases q1 : l = l'
  · rw [decide_eq_true (show tu l = tu l' from q1), if_pos rfl]
    by_cases q2 : c = c'
    · rw [decide_eq_true q2, if_pos rfl]
      exact congrArg Xc.ok (decide_eq_decide.mpr (by rw [e0]; simp [q1, q2]))
    · rw [decide_eq_false q2, if_neg Bool.false_ne_true]
      exact congrArg Xc.ok (by symm; rw [decide_eq_false_iff_not, e0]; simp [q2])
  · rw [decide_eq_false (show ¬ tu l = tu l' from q1), if_neg Bool.false_ne_true]
    exact congrArg Xc.ok (by symm; rw [decide_eq_false_iff_not, e0]; simp [q1])
theorem eqL : ∀ {rs rs' : List (List Int)}, (∀ r ∈ rs, ∃ w, GW w r) → (∀ r ∈ rs', ∃ w, GW w r) → eqLX (fun a b => m_Affine___eq__ (a, (b, ()))) (rs.map mkA) (rs'.map mkA) = .ok (decide (rs = rs'))
  | [], [], _, _ => rfl
  | [], _ :: _, _, _ => rfl
  | _ :: _, [], _, _ => rfl
  | r :: rs, r' :: rs', h, h' => by
    obtain ⟨w, g⟩ := h r (by simp)
    obtain ⟨w', g'⟩ := h' r' (by simp)
    have ih := eqL (rs := rs) (rs' := rs') (fun x m => h x (by simp [m])) (fun x m => h' x (by simp [m]))
    show Xc.bind (m_Affine___eq__ (mkA r, (mkA r', ()))) _ = _
    rw [eqA g g', bind_ok']
    by_cases q : r = r'
    · rw [decide_eq_true q, if_pos rfl]
      show eqLX _ (rs.map mkA) (rs'.map mkA) = _
      rw [ih]
      exact congrArg Xc.ok (decide_eq_decide.mpr (by simp [q]))
    · rw [decide_eq_false q, if_neg Bool.false_ne_true]
      exact congrArg Xc.ok (by symm; rw [decide_eq_false_iff_not]; simp [q])
end LW

/-! P49B: the law's values. -/
namespace LW
open PySem L2 FL
theorem fold_app {γ α β : Type} {f : γ → α → Xc γ} (E : List β → γ) {h : α → β} : ∀ {l : List α} {acc : List β}, acc.length + l.length ≤ 1000 → (∀ acc a, a ∈ l → acc.length ≤ 1000 → f (E acc) a = .ok (E (acc ++ [h a]))) → foldX f l (E acc) = .ok (E (acc ++ l.map h))
  | [], acc, _, _ => by rw [List.map_nil, List.append_nil]; rfl
  | a :: l, acc, hl, hf => by
    show (f (E acc) a).bind _ = _
    rw [hf acc a (by simp) (by omega), bind_ok']
    have := fold_app E (l := l) (acc := acc ++ [h a]) (by simp at hl ⊢; omega) fun acc b m => hf acc b (by simp [m])
    rw [this]
    simp
theorem low_gw {x z : Int} {ys : List Int} (hz : 1 ≤ z) : GW ys.length ((x :: (ys ++ [z])).map fun t => t.fdiv ((gcdL (x :: ys) z : Nat) : Int)) := by
  obtain ⟨c, xs, y, hc, e1, e2, hy, hg, ep⟩ := pt_split (l := x :: ys) (b := z) (by omega)
  have es : sgd (x :: ys) z = ((gcdL (x :: ys) z : Nat) : Int) := by
    unfold sgd
    rw [if_neg (by omega)]
  unfold pt at ep
  rw [es] at ep
  have ep1 : (x :: ys).map (fun t => t.fdiv ((gcdL (x :: ys) z : Nat) : Int)) = xs := congrArg Prod.fst ep
  have ep2 : z.fdiv ((gcdL (x :: ys) z : Nat) : Int) = y := congrArg Prod.snd ep
  cases xs with
  | nil => cases ep1
  | cons c0 l0 =>
    rw [List.map_cons, List.cons.injEq] at ep1
    refine ⟨c0, l0, y, ?_, ?_, hy, ?_⟩
    · rw [List.map_cons, List.map_append, List.map_cons, List.map_nil, ep2, ep1.1, ep1.2]
    · rw [← ep1.2, List.length_map]
    · rw [← hg]
      refine gcdL_eq_of fun d => ?_
      have e3 : (gcdI c0 y).natAbs = Nat.gcd c0.natAbs y.natAbs := by unfold gcdI; simp
      rw [e3, Nat.dvd_gcd_iff]
      constructor
      · rintro ⟨⟨h1, h2⟩, h3⟩
        exact ⟨h2, fun a m => by
          rcases List.mem_cons.mp m with m | m
          · rw [m]; exact h1
          · exact h3 a m⟩
      · rintro ⟨h1, h2⟩
        exact ⟨⟨h2 c0 (by simp), h1⟩, fun a m => h2 a (by simp [m])⟩
theorem gcd_row {x z : Int} {ys : List Int} : (x :: (ys ++ [z])).foldl (fun g a => Nat.gcd g a.natAbs) 0 = gcdL (x :: ys) z := by
  show gcdL (x :: (ys ++ [z])) 0 = _
  refine gcdL_eq_of fun d => ?_
  constructor
  · rintro ⟨_, h2⟩
    exact ⟨h2 z (by simp), fun a m => h2 a (by
      rcases List.mem_cons.mp m with m | m
      · simp [m]
      · simp [m])⟩
  · rintro ⟨h1, h2⟩
    exact ⟨by simp, fun a m => by
      simp only [List.mem_cons, List.mem_append, List.not_mem_nil, or_false] at m
      rcases m with m | m | m
      · rw [m]; exact h2 x (by simp)
      · exact h2 a (by simp [m])
      · rw [m]; exact h1⟩
theorem lt_2_9000 {a : Int} (h : a.natAbs ≤ 100) : a.natAbs < 2 ^ 9000 := by
  have : (100 : Nat) < 2 ^ 9000 := by
    calc (100 : Nat) < 2 ^ 7 := by decide
      _ ≤ 2 ^ 9000 := Nat.pow_le_pow_right (by decide) (by decide)
  omega
/-- rows that the law draws -/
theorem values_ok {dr : List Int} {at_ : Int} {w : Nat} (hd : Dr dr) (hl : dr.length = 60) (h0 : 0 ≤ at_) (h1 : at_ ≤ 1000) (hw : w ≤ 10) : Ok (m__law_values (dr, (at_, ((w : Int), ())))) fun row => GW w row := by
  have dl : ∀ i : Int, 0 ≤ i → getX dr (i.fmod 60) = .ok (dv dr (i.fmod 60)) := fun i hi => by
    have r := mod_range (a := i) (m := 60) (by decide)
    exact getX_dv r.1 (by rw [hl]; exact r.2)
  have h60 : ((HasLen.len dr : Nat) : Int) = 60 := by rw [hlen, hl]; rfl
  have bm : ∀ {x : Int} {n : Nat}, (-(2 ^ n : Nat) : Int) < x → x < (2 ^ n : Nat) → Bd n x := fun {x n} a b => ⟨by omega⟩
  unfold m__law_values
  dsimp only
  have e0 : ((HasLen.len dr : Nat) : Int) = 60 := h60
  rw [e0, modX_b (by decide), bind_ok', dl _ h0, bind_ok', modX_b (by decide), bind_ok', bind_ok', bind_ok', szX_b (by simp), bind_ok', rngX_b (by decide) (by omega) (by decide) (by omega), bind_ok']
  have r0 := mod_range (a := dv dr (at_.fmod 60)) (m := 19) (by decide)
  generalize hx : (dv dr (at_.fmod 60)).fmod 19 - 9 = x
  have bx : x.natAbs ≤ 100 := by omega
  have b3 : Bd 2 (3 : Int) := ⟨by decide⟩
  have b5 : Bd 3 (5 : Int) := ⟨by decide⟩
  have b19 : Bd 5 (19 : Int) := ⟨by decide⟩
  have f1 := fold_app (γ := List Int × (Int × (Int × (List Int × Unit)))) (f := (fun (g626 : ((List Int) × (Int × (Int × (List Int × Unit))))) a627 =>
            ((((((modX (g626.2.1 + a627) ((HasLen.len g626.1 : Nat) : Int)).bind fun t628 => getX g626.1 t628).bind fun t629 => fdvX t629 3).bind fun t630 => (mulX 5 a627).bind fun t631 => Xc.ok (t630 + t631)).bind fun t632 => modX t632 19).bind
                  fun t633 => Xc.ok (t633 - 9)).bind fun t635 => (appX g626.2.2.2.1 t635).bind fun t636 => Xc.ok (g626.1, (g626.2.1, (g626.2.2.1, (t636, ())))))) (fun acc => (dr, (at_, ((w : Int), (acc, ()))))) (h := fun a => ((dv dr ((at_ + a).fmod 60)).fdiv 3 + 5 * a).fmod 19 - 9) (l := rangeL 0 (w : Int)) (acc := [x])
    (by rw [rangeL_len]; simp; omega) (fun acc a m hl => by
      have ma := rangeL_mem m
      have ba : Bd 4 a := ⟨by omega⟩
      dsimp only
      rw [e0, modX_b (by decide), bind_ok', dl _ (by omega), bind_ok', fdvX_bd (n := 2) (by decide) (by decide), bind_ok', mulX_bd (by decide), bind_ok', bind_ok', modX_b (by decide), bind_ok', bind_ok', appX_b (by omega), bind_ok'])
  generalize hys : (rangeL 0 (w : Int)).map (fun a => ((dv dr ((at_ + a).fmod 60)).fdiv 3 + 5 * a).fmod 19 - 9) = ys at f1
  have ly : ys.length = w := by rw [← hys, List.length_map, rangeL_len]; omega
  have by_ : ∀ a ∈ ys, a.natAbs ≤ 100 := fun a m => by
    rw [← hys] at m
    obtain ⟨k, _, rfl⟩ := List.mem_map.mp m
    have := mod_range (a := (dv dr ((at_ + k).fmod 60)).fdiv 3 + 5 * k) (m := 19) (by decide)
    omega
  have rz := mod_range (a := (dv dr (at_.fmod 60)).fdiv 19) (m := 3) (by decide)
  generalize hz : 1 + ((dv dr (at_.fmod 60)).fdiv 19).fmod 3 = z
  have z1 : 1 ≤ z := by omega
  have bz : z.natAbs ≤ 100 := by omega
  have brow : ∀ a ∈ x :: (ys ++ [z]), a.natAbs ≤ 100 := fun a m => by
    simp only [List.mem_cons, List.mem_append, List.not_mem_nil, or_false] at m
    rcases m with m | m | m
    · rw [m]; exact bx
    · exact by_ a m
    · rw [m]; exact bz
  have fold : ∀ (l row : List Int) (g : Nat), (∀ a ∈ l, a.natAbs ≤ 100) → foldX (fun (g649 : ((List Int) × (Int × (Int × ((List Int) × (Int × Unit)))))) a650 => (Xc.bind (m__law_gcd (g649.2.2.2.2.1, (a650, ()))) fun t651 => (Xc.ok (g649.1, (g649.2.1, (g649.2.2.1, (g649.2.2.2.1, (t651, ())))))))) l (dr, (at_, ((w : Int), (row, ((g : Int), ()))))) = .ok (dr, (at_, ((w : Int), (row, (((l.foldl (fun g a => Nat.gcd g a.natAbs) g : Nat) : Int), ()))))) := by
    intro l
    induction l with
    | nil => intro row g _; rfl
    | cons a l ih =>
      intro row g hm
      show (Xc.bind _ _).bind _ = _
      dsimp only
      rw [gcd_ok (lt_2_9000 (hm a (by simp))), bind_ok', bind_ok', gcdI_nat]
      exact ih _ _ fun b m => hm b (by simp [m])
  have hg0 : (gcdL (x :: ys) z : Nat) ≤ z.natAbs ∧ 0 < gcdL (x :: ys) z := gcdL_le (by omega)
  have bg : Bd 7 ((gcdL (x :: ys) z : Nat) : Int) := ⟨by show _ < 128; omega⟩
  refine Ok.of (a := (x :: (ys ++ [z])).map fun t => t.fdiv ((gcdL (x :: ys) z : Nat) : Int)) ?_ (by rw [← ly]; exact low_gw z1)
  refine (congrArg (fun t => Xc.bind t _) f1).trans ?_
  rw [bind_ok']
  dsimp only
  rw [e0, modX_b (by decide), bind_ok', dl _ h0, bind_ok', fdvX_bd (n := 5) (by decide) (by decide), bind_ok', modX_b (by decide), bind_ok', bind_ok', hz, appX_b (by simp; omega), bind_ok']
  have f2 := fold (x :: (ys ++ [z])) (x :: (ys ++ [z])) 0 brow
  refine (congrArg (fun t => Xc.bind t _) f2).trans ?_
  rw [bind_ok', gcd_row]
  dsimp only
  exact compX_map fun a _ => ⟨rfl, fdvX_bd (n := 7) (by decide) (by omega)⟩
end LW

/-! P49C: the states of a task: its model, the task, both compared, made. -/
namespace LW
open PySem L2 FL
structure S49 where
  s : Nat
  p : Nat
  cost : List Int
  rules : List (List Int)
  aim : List Int
  rows : List (List Int)
deriving DecidableEq
def S49.mod (t : S49) : List PyData := [.int t.s, .int t.p, ToD.d t.cost, ToD.d t.rules, ToD.d t.aim, ToD.d t.rows]
def S49.tk (t : S49) : Ty_Task := ⟨((t.s : Int), ((t.p : Int), (mkA t.cost, (tu (t.rules.map mkA), (mkA t.aim, (tu (t.rows.map mkA), ()))))))⟩
structure G49 (t : S49) : Prop where
  s1 : 1 ≤ t.s ∧ t.s ≤ 3
  p1 : 1 ≤ t.p ∧ t.p ≤ 3
  cost : GW (t.s + t.p) t.cost
  rules : ∀ r ∈ t.rules, GW (t.s + t.p) r
  aim : GW (t.s + t.p) t.aim
  rows : ∀ r ∈ t.rows, GW (t.s + t.p) r
  rl : t.rules.length ≤ 4
  r1 : 1 ≤ t.rows.length ∧ t.rows.length ≤ 4
theorem nerX_ok (b : Bool) : nerX (.ok b) = .ok b := rfl
theorem mkT_eq {a b : S49} (ga : G49 a) (gb : G49 b) : m_Task___eq__ (a.tk, (b.tk, ())) = .ok (decide (a = b)) := by
  have e0 : a = b ↔ a.s = b.s ∧ a.p = b.p ∧ a.cost = b.cost ∧ a.rules = b.rules ∧ a.aim = b.aim ∧ a.rows = b.rows := by
    constructor
    · intro h; subst h; exact ⟨rfl, rfl, rfl, rfl, rfl, rfl⟩
    · intro ⟨h1, h2, h3, h4, h5, h6⟩
      cases a; cases b
      simp only at h1 h2 h3 h4 h5 h6
      subst h1 h2 h3 h4 h5 h6
      rfl
  have no : ∀ {P : Prop} [Decidable P], ¬ P → (a = b → P) → (Xc.ok false : Xc Bool) = .ok (decide (a = b)) := fun h i => congrArg Xc.ok (by symm; rw [decide_eq_false_iff_not]; exact fun e => h (i e))
  unfold m_Task___eq__ S49.tk
  dsimp only
  rw [if_pos rfl]
  by_cases h1 : a.s = b.s
  · rw [if_pos (decide_eq_true (by rw [h1]))]
    by_cases h2 : a.p = b.p
    · rw [if_pos (decide_eq_true (by rw [h2])), eqA ga.cost gb.cost, bind_ok']
      by_cases h3 : a.cost = b.cost
      · rw [decide_eq_true h3, if_pos rfl]
        show Xc.bind (nerX (eqLX _ (a.rules.map mkA) (b.rules.map mkA))) _ = _
        rw [eqL (fun r m => ⟨_, ga.rules r m⟩) (fun r m => ⟨_, gb.rules r m⟩), nerX_ok, bind_ok']
        by_cases h4 : a.rules = b.rules
        · rw [decide_eq_true h4, if_pos rfl, eqA ga.aim gb.aim, bind_ok']
          by_cases h5 : a.aim = b.aim
          · rw [decide_eq_true h5, if_pos rfl]
            show nerX (eqLX _ (a.rows.map mkA) (b.rows.map mkA)) = _
            rw [eqL (fun r m => ⟨_, ga.rows r m⟩) (fun r m => ⟨_, gb.rows r m⟩), nerX_ok]
            exact congrArg Xc.ok (decide_eq_decide.mpr (by rw [e0]; simp [h1, h2, h3, h4, h5]))
          · rw [decide_eq_false h5, if_neg Bool.false_ne_true]; exact no h5 fun e => by rw [e]
        · rw [decide_eq_false h4, if_neg Bool.false_ne_true]; exact no h4 fun e => by rw [e]
      · rw [decide_eq_false h3, if_neg Bool.false_ne_true]; exact no h3 fun e => by rw [e]
    · rw [if_neg (by simp; omega)]; exact no h2 fun e => by rw [e]
  · rw [if_neg (by simp; omega)]; exact no h1 fun e => by rw [e]
/-! making a task -/
def fit (w : Nat) (r : List Int) : Bool := decide ((mkA r).v.2.2.2.1 = (w : Int))
theorem size_gw {w : Nat} {r : List Int} (h : GW w r) : (mkA r).v.2.2.2.1 = (w : Int) := by
  obtain ⟨c, l, b, rfl, e, _⟩ := h
  rw [mkA_app]
  show (l.length : Int) = _
  rw [e]
theorem fit_gw {w v : Nat} {r : List Int} (h : GW v r) : fit w r = decide (v = w) := by
  unfold fit
  rw [size_gw h]
  exact decide_eq_decide.mpr (by omega)
theorem fit_all_gw {w : Nat} {rs : List (List Int)} (h : ∀ r ∈ rs, GW w r) : rs.all (fit w) = true := by
  rw [List.all_eq_true]
  exact fun r m => by rw [fit_gw (h r m)]; simp
theorem all_fit_ok {rs : List (List Int)} {w : Nat} : m__all_fit (sq (rs.map mkA), ((w : Int), ())) = .ok (rs.all (fit w)) := by
  unfold m__all_fit
  dsimp only
  have e : compX (fun _ => Xc.ok true) (fun a18 : Ty_Affine => Xc.ok (decide (a18.v.2.2.2.1 = (w : Int)))) (rs.map mkA) = .ok ((rs.map mkA).map fun a => decide (a.v.2.2.2.1 = (w : Int))) := compX_map fun a _ => ⟨rfl, rfl⟩
  refine (congrArg (fun t => Xc.bind t _) e).trans ?_
  rw [bind_ok', List.map_map]
  refine congrArg Xc.ok ?_
  rw [List.all_map]
  rfl
def erS (x : Str) {α : Type} : Xc α := .er "BadShape" [("part", V.str x)]
theorem raX_ok {τ : Type} {m : Xc Str} {t x : Str} {fs : List (Str × V)} (h : m = .ok t) : (raX m x fs : Xc τ) = .er x fs := by rw [h]; rfl
theorem shape_tx {x : Str} (h : x.length ≤ 100) : ∃ t, m_BadShape___init__ x = .ok t := ⟨_, by
  unfold m_BadShape___init__ catS
  exact if_pos (by rw [sizeLine_eq]; have : Str.length ("wrong size of " : Str) = 14 := by decide
                   omega)⟩
theorem name_tx {x : Str} (h : x.length ≤ 100) : ∃ t, m_UnknownName___init__ x = .ok t := ⟨_, by
  unfold m_UnknownName___init__ catS
  exact if_pos (by rw [sizeLine_eq]; have : Str.length ("unknown name " : Str) = 13 := by decide
                   omega)⟩
theorem check_ok {x : Str} {b : Bool} (h : x.length ≤ 100) : m__check (x, (b, ())) = if b = true then .ok () else erS x := by
  unfold m__check
  dsimp only
  obtain ⟨t, e⟩ := shape_tx h
  cases b with
  | true => rfl
  | false => rw [raX_ok e]; rfl
theorem check_t (x : Str) : m__check (x, (true, ())) = .ok () := rfl
theorem check_f {x : Str} (h : x.length ≤ 100) : m__check (x, (false, ())) = erS x := by rw [check_ok h]; rfl
theorem hlenSq {α : Type} [Rp α] (l : List α) : HasLen.len (sq l) = l.length := rfl
theorem hlenTu {α : Type} [Rp α] (l : List α) : HasLen.len (tu l) = l.length := rfl
theorem er_bind {α β : Type} (x : Str) (k : α → Xc β) : (erS x : Xc α).bind k = erS x := rfl
theorem init_T {t : S49} (hs : 1 ≤ t.s ∧ t.s ≤ 3) (hp : 1 ≤ t.p ∧ t.p ≤ 3) :
    (m_Task___init__ ((t.s : Int), ((t.p : Int), (mkA t.cost, (sq (t.rules.map mkA), (mkA t.aim, (sq (t.rows.map mkA), ()))))))).bind (fun z => Xc.ok (⟨z⟩ : Ty_Task)) =
      if fit (t.s + t.p) t.cost = true then (if (decide (t.rules.length ≤ 4) && t.rules.all (fit (t.s + t.p))) = true then (if fit (t.s + t.p) t.aim = true then (if (decide (1 ≤ t.rows.length ∧ t.rows.length ≤ 4) && t.rows.all (fit (t.s + t.p))) = true then .ok t.tk else erS "rows") else erS "aim") else erS "rules") else erS "cost" := by
  have ew : (t.s : Int) + (t.p : Int) = ((t.s + t.p : Nat) : Int) := by omega
  have cut : ∀ {b c : Bool} {m : Xc Bool}, m = .ok c → (if b = true then m else Xc.ok false) = .ok (b && c) := fun {b c m} h => by cases b <;> simp [h]
  unfold m_Task___init__
  dsimp only
  have hru : (if decide (((HasLen.len (sq (t.rules.map mkA)) : Nat) : Int) ≤ 4) = true then m__all_fit (sq (t.rules.map mkA), (((t.s + t.p : Nat) : Int), ())) else Xc.ok false) = .ok (decide (t.rules.length ≤ 4) && t.rules.all (fit (t.s + t.p))) := by
    rw [cut all_fit_ok, hlenSq, List.length_map]
    congr 2
    exact decide_eq_decide.mpr (by omega)
  have hro : (Xc.bind (if 1 ≤ ((HasLen.len (sq (t.rows.map mkA)) : Nat) : Int) then Xc.ok (decide (((HasLen.len (sq (t.rows.map mkA)) : Nat) : Int) ≤ 4)) else Xc.ok false) fun t34 => if t34 = true then m__all_fit (sq (t.rows.map mkA), (((t.s + t.p : Nat) : Int), ())) else Xc.ok false) = .ok (decide (1 ≤ t.rows.length ∧ t.rows.length ≤ 4) && t.rows.all (fit (t.s + t.p))) := by
    rw [hlenSq, List.length_map]
    by_cases h : 1 ≤ t.rows.length
    · rw [if_pos (by omega), bind_ok', cut all_fit_ok]
      congr 2
      exact decide_eq_decide.mpr (by omega)
    · rw [if_neg (by omega), bind_ok', if_neg Bool.false_ne_true, decide_eq_false (by omega)]
      rfl
  have hc : decide ((mkA t.cost).v.2.2.2.1 = ((t.s + t.p : Nat) : Int)) = fit (t.s + t.p) t.cost := rfl
  have ha : decide ((mkA t.aim).v.2.2.2.1 = ((t.s + t.p : Nat) : Int)) = fit (t.s + t.p) t.aim := rfl
  rw [ew, if_pos (by omega), decide_eq_true (by omega), bind_ok', bind_ok', bind_ok', check_t, bind_ok', if_pos (by omega), decide_eq_true (by omega), bind_ok', bind_ok', bind_ok', check_t, bind_ok', hc, ha]
  cases fit (t.s + t.p) t.cost with
  | false => rw [check_f (by decide), er_bind, er_bind, if_neg Bool.false_ne_true]
  | true =>
    rw [check_t, bind_ok', if_pos rfl, hru, bind_ok', bind_ok', bind_ok']
    cases (decide (t.rules.length ≤ 4) && t.rules.all (fit (t.s + t.p))) with
    | false => rw [check_f (by decide), er_bind, er_bind, if_neg Bool.false_ne_true]
    | true =>
      rw [check_t, bind_ok', if_pos rfl]
      cases fit (t.s + t.p) t.aim with
      | false => rw [check_f (by decide), er_bind, er_bind, if_neg Bool.false_ne_true]
      | true =>
        rw [check_t, bind_ok', if_pos rfl, hro, bind_ok', bind_ok', bind_ok']
        cases (decide (1 ≤ t.rows.length ∧ t.rows.length ≤ 4) && t.rows.all (fit (t.s + t.p))) with
        | false => rw [check_f (by decide), er_bind, er_bind, if_neg Bool.false_ne_true]
        | true =>
          rw [check_t, bind_ok', if_pos rfl, bind_ok']
          rfl
end LW

/-! P49D: an edit: what is due, what the program does. -/
namespace LW
open PySem L2 FL
/-- a word that the law may draw -/
structure WS (x : Str) : Prop where
  ok : PyData.canLay0 (.str x) = true
  len : x.length ≤ 40
def lastOf (n : Nat) (deed : Str) : Int := if deed = ("insert" : Str) then (n : Int) else (n : Int) - 1
def chg (rs : List (List Int)) (deed : Str) (at_ : Int) (row : List Int) : List (List Int) := if deed = ("insert" : Str) then rs.take at_.toNat ++ [row] ++ rs.drop at_.toNat else if deed = ("remove" : Str) then rs.take at_.toNat ++ rs.drop (at_.toNat + 1) else rs.take at_.toNat ++ [row] ++ rs.drop (at_.toNat + 1)
abbrev O49 : Type := (Str × Str) ⊕ S49
def rul (t : S49) (rs : List (List Int)) : S49 := { t with rules := rs }
def rws (t : S49) (rs : List (List Int)) : S49 := { t with rows := rs }
def cst (t : S49) (r : List Int) : S49 := { t with cost := r }
def amm (t : S49) (r : List Int) : S49 := { t with aim := r }
def isDeed (deed : Str) : Prop := deed ∈ [("put" : Str), ("insert" : Str), ("remove" : Str)]
instance (deed : Str) : Decidable (isDeed deed) := by unfold isDeed; infer_instance
def shp (x : Str) : O49 := .inl (("shape" : Str), x)
def out (t : S49) (deed part : Str) (at_ : Int) (row : List Int) : O49 :=
  if ¬ isDeed deed then .inl (("name" : Str), deed)
  else if part = ("rules" : Str) then (if 0 ≤ at_ ∧ at_ ≤ lastOf t.rules.length deed then (if (decide ((chg t.rules deed at_ row).length ≤ 4) && (chg t.rules deed at_ row).all (fit (t.s + t.p))) = true then .inr (rul t (chg t.rules deed at_ row)) else shp "rules") else shp "place")
  else if part = ("rows" : Str) then (if 0 ≤ at_ ∧ at_ ≤ lastOf t.rows.length deed then (if (decide (1 ≤ (chg t.rows deed at_ row).length ∧ (chg t.rows deed at_ row).length ≤ 4) && (chg t.rows deed at_ row).all (fit (t.s + t.p))) = true then .inr (rws t (chg t.rows deed at_ row)) else shp "rows") else shp "place")
  else if part = ("cost" : Str) ∧ deed = ("put" : Str) then (if fit (t.s + t.p) row = true then .inr (cst t row) else shp "cost")
  else if part = ("aim" : Str) ∧ deed = ("put" : Str) then (if fit (t.s + t.p) row = true then .inr (amm t row) else shp "aim")
  else .inl (("name" : Str), part)
def ed (deed part : Str) (at_ : Int) (row : List Int) : List (PyData ⊕ Ty_Affine) :=
  if part = ("cost" : Str) ∨ part = ("aim" : Str) then [.inl (.str deed), .inl (.str part), .inr (mkA row)] else if deed = ("remove" : Str) then [.inl (.str deed), .inl (.str part), .inl (.int at_)] else [.inl (.str deed), .inl (.str part), .inl (.int at_), .inr (mkA row)]
theorem fl_str {x : Str} (h : WS x) : Fl 0 (.str x) := ⟨h.ok, Nat.le_refl _⟩
theorem datX_str {x : Str} (h : WS x) : datX x = .ok (.str x) := datX_fl (d := .str x) rfl (fl_str h)
theorem asD_str {x : Str} (h : WS x) : asD Str (.str x) = .ok x := asD_ok (by
  show (if x.length ≤ sizeLine then some x else none) = some x
  exact if_pos (by rw [sizeLine_eq]; have := h.len; omega))
theorem edit_ok {deed part : Str} {at_ : Int} {row : List Int} {w : Nat} (hd : WS deed) (hp : WS part) (g : GW w row) : m__law_edit (deed, (part, (at_, (row, ())))) = .ok (tu (ed deed part at_ row)) := by
  unfold m__law_edit ed
  dsimp only
  have c1 : (if decide (part = ("cost" : Str)) = true then Xc.ok true else Xc.ok (decide (part = ("aim" : Str)))) = .ok (decide (part = ("cost" : Str) ∨ part = ("aim" : Str))) := by
    by_cases h : part = ("cost" : Str)
    · rw [if_pos (decide_eq_true h), decide_eq_true (Or.inl h)]
    · rw [if_neg (by simpa using h)]
      exact congrArg Xc.ok (decide_eq_decide.mpr ⟨Or.inr, fun z => z.resolve_left h⟩)
  rw [c1, bind_ok']
  by_cases h : part = ("cost" : Str) ∨ part = ("aim" : Str)
  · rw [if_pos (decide_eq_true h), if_pos h, datX_str hd, bind_ok', bind_ok', datX_str hp, bind_ok', bind_ok', function_ok g, bind_ok', bind_ok', bind_ok', bind_ok', bind_ok', szX_b (by simp), bind_ok']
  · rw [if_neg (by simpa using h), if_neg h]
    by_cases h2 : deed = ("remove" : Str)
    · rw [if_pos (decide_eq_true h2), if_pos h2, datX_str hd, bind_ok', bind_ok', datX_str hp, bind_ok', bind_ok', datX_ok (by decide) at_, bind_ok', bind_ok', bind_ok', bind_ok', bind_ok', szX_b (by simp), bind_ok']
      rfl
    · rw [if_neg (by simpa using h2), if_neg h2, datX_str hd, bind_ok', bind_ok', datX_str hp, bind_ok', bind_ok', datX_ok (by decide) at_, bind_ok', bind_ok', function_ok g, bind_ok', bind_ok', bind_ok', bind_ok', bind_ok', bind_ok', szX_b (by simp), bind_ok']
      rfl
section
variable {deed part : Str} {at_ : Int} {row : List Int}
theorem ed0 : getX (Tu.l (tu (ed deed part at_ row))) 0 = .ok (.inl (.str deed)) := by
  show getX (ed deed part at_ row) 0 = _
  unfold ed
  split
  · exact getX_b (by decide) rfl
  · split <;> exact getX_b (by decide) rfl
theorem ed1 : getX (Tu.l (tu (ed deed part at_ row))) 1 = .ok (.inl (.str part)) := by
  show getX (ed deed part at_ row) 1 = _
  unfold ed
  split
  · exact getX_b (by decide) rfl
  · split <;> exact getX_b (by decide) rfl
theorem ed2c (h : part = ("cost" : Str) ∨ part = ("aim" : Str)) : getX (Tu.l (tu (ed deed part at_ row))) 2 = .ok (.inr (mkA row)) := by
  show getX (ed deed part at_ row) 2 = _
  unfold ed
  rw [if_pos h]
  exact getX_b (by decide) rfl
theorem ed2 (h : ¬ (part = ("cost" : Str) ∨ part = ("aim" : Str))) : getX (Tu.l (tu (ed deed part at_ row))) 2 = .ok (.inl (.int at_)) := by
  show getX (ed deed part at_ row) 2 = _
  unfold ed
  rw [if_neg h]
  split <;> exact getX_b (by decide) rfl
theorem ed3 (h : ¬ (part = ("cost" : Str) ∨ part = ("aim" : Str))) (h2 : deed ≠ ("remove" : Str)) : getX (Tu.l (tu (ed deed part at_ row))) 3 = .ok (.inr (mkA row)) := by
  show getX (ed deed part at_ row) 3 = _
  unfold ed
  rw [if_neg h, if_neg h2]
  exact getX_b (by decide) rfl
theorem deed_ok (hd : WS deed) : m__deed (tu (ed deed part at_ row), ()) = if isDeed deed then .ok deed else .er "UnknownName" [("name", V.str deed)] := by
  unfold m__deed
  dsimp only
  rw [ed0, bind_ok', unL_inl, bind_ok', asD_str hd, bind_ok', bind_ok', bind_ok']
  by_cases h : isDeed deed
  · rw [if_pos h, if_neg (by
      have : deed ∈ Tu.l (tu [("put" : Str), ("insert" : Str), ("remove" : Str)]) := h
      rw [decide_eq_true this]; decide)]
  · rw [if_neg h, if_pos (by
      have : ¬ deed ∈ Tu.l (tu [("put" : Str), ("insert" : Str), ("remove" : Str)]) := h
      rw [decide_eq_false this]; rfl)]
    obtain ⟨t, e⟩ := name_tx (x := deed) (by have := hd.len; omega)
    exact raX_ok e
theorem value_ok (hd : WS deed) (h : ¬ (part = ("cost" : Str) ∨ part = ("aim" : Str))) : m__value (tu (ed deed part at_ row), ((3 : Int), ())) = .ok (if deed = ("remove" : Str) then none else some (mkA row)) := by
  unfold m__value
  dsimp only
  rw [ed0, bind_ok', unL_inl, bind_ok', asD_str hd, bind_ok', bind_ok']
  by_cases h2 : deed = ("remove" : Str)
  · rw [if_pos (decide_eq_true h2), if_pos h2]
  · rw [if_neg (by simpa using h2), if_neg h2, ed3 h h2, bind_ok', unR_inr, bind_ok']
theorem changed_ok {rs : List (List Int)} (hl : rs.length ≤ 4) : m__changed (tu (rs.map mkA), (deed, (at_, ((if deed = ("remove" : Str) then none else some (mkA row)), ())))) =
    if 0 ≤ at_ ∧ at_ ≤ lastOf rs.length deed then .ok ((chg rs deed at_ row).map mkA) else erS "place" := by
  unfold m__changed
  dsimp only
  rw [hlenTu, List.length_map]
  have c1 : (if decide (deed = ("insert" : Str)) = true then Xc.ok ((rs.length : Nat) : Int) else Xc.ok (((rs.length : Nat) : Int) - 1)) = .ok (lastOf rs.length deed) := by
    unfold lastOf
    by_cases h : deed = ("insert" : Str)
    · rw [if_pos (decide_eq_true h), if_pos h]
    · rw [if_neg (by simpa using h), if_neg h]
  rw [c1, bind_ok']
  have c2 : (if (0 : Int) ≤ at_ then Xc.ok (decide (at_ ≤ lastOf rs.length deed)) else Xc.ok false) = .ok (decide (0 ≤ at_ ∧ at_ ≤ lastOf rs.length deed)) := by
    by_cases h : 0 ≤ at_
    · rw [if_pos h]; exact congrArg Xc.ok (decide_eq_decide.mpr ⟨fun z => ⟨h, z⟩, fun z => z.2⟩)
    · rw [if_neg h, decide_eq_false (by omega)]
  rw [c2, bind_ok', bind_ok']
  by_cases h : 0 ≤ at_ ∧ at_ ≤ lastOf rs.length deed
  · rw [if_neg (by simp [h]), if_pos h]
    have hn : ((at_ + 1 : Int)).toNat = at_.toNat + 1 := by omega
    have hm : ∀ k : Nat, (rs.map mkA).take k = (rs.take k).map mkA := fun k => by rw [List.map_take]
    have hm2 : ∀ k : Nat, (rs.map mkA).drop k = (rs.drop k).map mkA := fun k => by rw [List.map_drop]
    have hle : ∀ k : Nat, (rs.take k).length ≤ 4 := fun k => by rw [List.length_take]; omega
    have hle2 : ∀ k : Nat, (rs.drop k).length ≤ 4 := fun k => by rw [List.length_drop]; omega
    have tl : ∀ l : List Ty_Affine, Tu.l (tu l) = l := fun l => rfl
    unfold chg
    by_cases h1 : deed = ("insert" : Str)
    · have h2 : ¬ deed = ("remove" : Str) := by rw [h1]; decide
      rw [if_pos (decide_eq_true h1), bind_ok', if_neg (by simpa using h2), if_pos h1, if_neg h2]
      show Xc.bind (Xc.bind (Xc.bind (Xc.bind (someX (some (mkA row))) _) _) _) _ = _
      rw [show someX (some (mkA row)) = .ok (mkA row) from rfl, bind_ok', bind_ok', szX_b (by simp), bind_ok', tl, tl, tl, cutL_take _ h.1, cutL_drop _ h.1, hm, hm2, catL_ok (by simp only [List.length_map, List.length_cons, List.length_nil]; have := hle at_.toNat; omega), bind_ok', catL_ok (by simp only [List.length_map, List.length_append, List.length_cons, List.length_nil]; have := hle at_.toNat; have := hle2 at_.toNat; omega)]
      simp
    · rw [if_neg (by simpa using h1), bind_ok', if_neg h1]
      by_cases h2 : deed = ("remove" : Str)
      · rw [if_pos (decide_eq_true h2), if_pos h2, tl, tl, tl, cutL_take _ h.1, cutL_drop _ (by omega), hm, hm2, hn, catL_ok (by simp only [List.length_map]; have := hle at_.toNat; have := hle2 (at_.toNat + 1); omega)]
        simp
      · rw [if_neg (by simpa using h2), if_neg h2, if_neg h2]
        show Xc.bind (Xc.bind (Xc.bind (Xc.bind (someX (some (mkA row))) _) _) _) _ = _
        rw [show someX (some (mkA row)) = .ok (mkA row) from rfl, bind_ok', bind_ok', szX_b (by simp), bind_ok', tl, tl, tl, cutL_take _ h.1, cutL_drop _ (by omega), hm, hm2, hn, catL_ok (by simp only [List.length_map, List.length_cons, List.length_nil]; have := hle at_.toNat; omega), bind_ok', catL_ok (by simp only [List.length_map, List.length_append, List.length_cons, List.length_nil]; have := hle at_.toNat; have := hle2 (at_.toNat + 1); omega)]
        simp
  · rw [if_pos (by rw [decide_eq_false h]; rfl), if_neg h]
    obtain ⟨t, e⟩ := shape_tx (x := "place") (by decide)
    exact raX_ok e
end
end LW

/-! P49E: the edited task. -/
namespace LW
open PySem L2 FL
def res (o : O49) : Xc Ty_Task := match o with
  | .inl kx => if kx.1 = ("name" : Str) then .er "UnknownName" [("name", V.str kx.2)] else erS kx.2
  | .inr t => .ok t.tk
theorem goF_hit {γh γ' τ : Type} {cc : Str} {f : Str × V} {fs : List (Str × V)} {gh : γh} {k : Str → Option Bool} {h : Str → List (Str × V) × γh → (γ' → Xc (Sum γ' τ)) → Xc (Sum γ' τ)} {r : List (Hd γh γ' τ)} (e : k cc = some true) : goF cc (f :: fs) gh ((⟨k, h⟩ : Hd γh γ' τ) :: r) = h cc (f :: fs, gh) fun g' => .ok (.inl g') := by
  unfold goF
  show (match k cc with
    | some true => if (f :: fs).isEmpty = true then Xc.no else h cc (f :: fs, gh) fun g' => .ok (.inl g')
    | some false => goF cc (f :: fs) gh r
    | none => .no) = _
  rw [e]
  rfl
theorem goF_skip {γh γ' τ : Type} {cc : Str} {fs : List (Str × V)} {gh : γh} {k : Str → Option Bool} {h : Str → List (Str × V) × γh → (γ' → Xc (Sum γ' τ)) → Xc (Sum γ' τ)} {r : List (Hd γh γ' τ)} (e : k cc = some false) : goF cc fs gh ((⟨k, h⟩ : Hd γh γ' τ) :: r) = goF cc fs gh r := by
  show (match k cc with
    | some true => if fs.isEmpty = true then Xc.no else h cc (fs, gh) fun g' => .ok (.inl g')
    | some false => goF cc fs gh r
    | none => .no) = _
  rw [e]
theorem res_name (x : Str) : res (Sum.inl (("name" : Str), x)) = .er "UnknownName" [("name", V.str x)] := by
  unfold res
  exact if_pos rfl
theorem res_shape (x : Str) : res (Sum.inl (("shape" : Str), x)) = erS x := by
  unfold res
  exact if_neg (show ¬ ("shape" : Str) = ("name" : Str) by decide)
section
variable {t : S49} (g : G49 t)
def initT (t : S49) : Xc Ty_Task := (m_Task___init__ ((t.s : Int), ((t.p : Int), (mkA t.cost, (sq (t.rules.map mkA), (mkA t.aim, (sq (t.rows.map mkA), ()))))))).bind (fun z => Xc.ok (⟨z⟩ : Ty_Task))
include g
theorem f_cost : fit (t.s + t.p) t.cost = true := by rw [fit_gw g.cost]; simp
theorem f_aim : fit (t.s + t.p) t.aim = true := by rw [fit_gw g.aim]; simp
theorem f_rules : (decide (t.rules.length ≤ 4) && t.rules.all (fit (t.s + t.p))) = true := by rw [decide_eq_true g.rl, fit_all_gw g.rules]; rfl
theorem f_rows : (decide (1 ≤ t.rows.length ∧ t.rows.length ≤ 4) && t.rows.all (fit (t.s + t.p))) = true := by rw [decide_eq_true g.r1, fit_all_gw g.rows]; rfl
theorem init_rul (rs : List (List Int)) : initT (rul t rs) = if (decide (rs.length ≤ 4) && rs.all (fit (t.s + t.p))) = true then .ok (rul t rs).tk else erS "rules" := by
  unfold initT
  refine (init_T (t := rul t rs) g.s1 g.p1).trans ?_
  show (if fit (t.s + t.p) t.cost = true then (if (decide (rs.length ≤ 4) && rs.all (fit (t.s + t.p))) = true then (if fit (t.s + t.p) t.aim = true then (if (decide (1 ≤ t.rows.length ∧ t.rows.length ≤ 4) && t.rows.all (fit (t.s + t.p))) = true then .ok (rul t rs).tk else erS "rows") else erS "aim") else erS "rules") else erS "cost") = _
  rw [if_pos (f_cost g), if_pos (f_aim g), if_pos (f_rows g)]
theorem init_rws (rs : List (List Int)) : initT (rws t rs) = if (decide (1 ≤ rs.length ∧ rs.length ≤ 4) && rs.all (fit (t.s + t.p))) = true then .ok (rws t rs).tk else erS "rows" := by
  unfold initT
  refine (init_T (t := rws t rs) g.s1 g.p1).trans ?_
  show (if fit (t.s + t.p) t.cost = true then (if (decide (t.rules.length ≤ 4) && t.rules.all (fit (t.s + t.p))) = true then (if fit (t.s + t.p) t.aim = true then (if (decide (1 ≤ rs.length ∧ rs.length ≤ 4) && rs.all (fit (t.s + t.p))) = true then .ok (rws t rs).tk else erS "rows") else erS "aim") else erS "rules") else erS "cost") = _
  rw [if_pos (f_cost g), if_pos (f_rules g), if_pos (f_aim g)]
theorem init_cst (r : List Int) : initT (cst t r) = if fit (t.s + t.p) r = true then .ok (cst t r).tk else erS "cost" := by
  unfold initT
  refine (init_T (t := cst t r) g.s1 g.p1).trans ?_
  show (if fit (t.s + t.p) r = true then (if (decide (t.rules.length ≤ 4) && t.rules.all (fit (t.s + t.p))) = true then (if fit (t.s + t.p) t.aim = true then (if (decide (1 ≤ t.rows.length ∧ t.rows.length ≤ 4) && t.rows.all (fit (t.s + t.p))) = true then .ok (cst t r).tk else erS "rows") else erS "aim") else erS "rules") else erS "cost") = _
  rw [if_pos (f_rules g), if_pos (f_aim g), if_pos (f_rows g)]
theorem init_amm (r : List Int) : initT (amm t r) = if fit (t.s + t.p) r = true then .ok (amm t r).tk else erS "aim" := by
  unfold initT
  refine (init_T (t := amm t r) g.s1 g.p1).trans ?_
  show (if fit (t.s + t.p) t.cost = true then (if (decide (t.rules.length ≤ 4) && t.rules.all (fit (t.s + t.p))) = true then (if fit (t.s + t.p) r = true then (if (decide (1 ≤ t.rows.length ∧ t.rows.length ≤ 4) && t.rows.all (fit (t.s + t.p))) = true then .ok (amm t r).tk else erS "rows") else erS "aim") else erS "rules") else erS "cost") = _
  rw [if_pos (f_cost g), if_pos (f_rules g), if_pos (f_rows g)]
theorem edited_ok {deed part : Str} {at_ : Int} {row : List Int} (hd : WS deed) (hp : WS part) : m_edited_task (t.tk, (tu (ed deed part at_ row), ())) = res (out t deed part at_ row) := by
  have p1 : (Xc.bind (Xc.bind (getX (Tu.l (tu (ed deed part at_ row))) (1 : Int)) fun t => unL t) fun t => asD Str t) = .ok part := by rw [ed1, bind_ok', unL_inl, bind_ok', asD_str hp]
  unfold m_edited_task
  rw [deed_ok hd]
  unfold out
  by_cases h0 : isDeed deed
  · rw [if_pos h0, bind_ok', if_neg (by simpa using h0)]
    dsimp only
    rw [p1, bind_ok', bind_ok']
    by_cases h1 : part = ("rules" : Str)
    · have nc : ¬ (part = ("cost" : Str) ∨ part = ("aim" : Str)) := by rw [h1]; decide
      rw [if_pos (decide_eq_true h1), if_pos h1, ed2 nc, bind_ok', unL_inl, bind_ok', asI_ok, bind_ok', value_ok hd nc, bind_ok', bind_ok', bind_ok', bind_ok', bind_ok']
      have ec := changed_ok (rs := t.rules) (deed := deed) (at_ := at_) (row := row) g.rl
      refine (congrArg (fun m => Xc.bind m _) ec).trans ?_
      by_cases h2 : 0 ≤ at_ ∧ at_ ≤ lastOf t.rules.length deed
      · rw [if_pos h2, if_pos h2, bind_ok']
        refine (init_rul g (chg t.rules deed at_ row)).trans ?_
        split <;> rfl
      · rw [if_neg h2, if_neg h2]; rfl
    · rw [if_neg (by simpa using h1), if_neg h1, bind_ok', bind_ok']
      by_cases h3 : part = ("rows" : Str)
      · have nc : ¬ (part = ("cost" : Str) ∨ part = ("aim" : Str)) := by rw [h3]; decide
        rw [if_pos (decide_eq_true h3), if_pos h3, ed2 nc, bind_ok', unL_inl, bind_ok', asI_ok, bind_ok', value_ok hd nc, bind_ok', bind_ok', bind_ok', bind_ok', bind_ok']
        have ec := changed_ok (rs := t.rows) (deed := deed) (at_ := at_) (row := row) g.r1.2
        refine (congrArg (fun m => Xc.bind m _) ec).trans ?_
        by_cases h2 : 0 ≤ at_ ∧ at_ ≤ lastOf t.rows.length deed
        · rw [if_pos h2, if_pos h2, bind_ok']
          refine (init_rws g (chg t.rows deed at_ row)).trans ?_
          split <;> rfl
        · rw [if_neg h2, if_neg h2]; rfl
      · rw [if_neg (by simpa using h3), if_neg h3]
        have cc : ∀ x : Str, (if decide (part = x) = true then Xc.ok (decide (deed = ("put" : Str))) else Xc.ok false) = .ok (decide (part = x ∧ deed = ("put" : Str))) := fun x => by
          by_cases h : part = x
          · rw [if_pos (decide_eq_true h)]; exact congrArg Xc.ok (decide_eq_decide.mpr ⟨fun z => ⟨h, z⟩, fun z => z.2⟩)
          · rw [if_neg (by simpa using h), decide_eq_false (by simp [h])]
        rw [bind_ok', bind_ok', cc, bind_ok']
        by_cases h4 : part = ("cost" : Str) ∧ deed = ("put" : Str)
        · rw [if_pos (decide_eq_true h4), if_pos h4, ed2c (.inl h4.1), bind_ok', unR_inr, bind_ok']
          refine (init_cst g row).trans ?_
          split <;> rfl
        · rw [if_neg (by simpa using h4), if_neg h4, bind_ok', bind_ok', cc, bind_ok']
          by_cases h5 : part = ("aim" : Str) ∧ deed = ("put" : Str)
          · rw [if_pos (decide_eq_true h5), if_pos h5, ed2c (.inr h5.1), bind_ok', unR_inr, bind_ok']
            refine (init_amm g row).trans ?_
            split <;> rfl
          · rw [if_neg (by simpa using h5), if_neg h5, bind_ok']
            obtain ⟨tx, e⟩ := name_tx (x := part) (by have := hp.len; omega)
            exact raX_ok e
  · rw [if_neg h0, if_pos h0]
    rfl
theorem told_ok {deed part : Str} {at_ : Int} {row : List Int} (hd : WS deed) (hp : WS part) : m__law_told (t.tk, (tu (ed deed part at_ row), ())) = .ok (match out t deed part at_ row with
    | .inl kx => Sum.inr (some kx)
    | .inr t' => Sum.inl t'.tk) := by
  have hw : ∀ kx : Str × Str, out t deed part at_ row = .inl kx → WS kx.2 ∧ (kx.1 = ("name" : Str) ∨ kx.1 = ("shape" : Str)) := by
    intro kx h
    have ws : ∀ x : Str, x = ("rules" : Str) ∨ x = ("rows" : Str) ∨ x = ("cost" : Str) ∨ x = ("aim" : Str) ∨ x = ("place" : Str) → WS x := fun x h => by
      rcases h with h | h | h | h | h <;> rw [h] <;> exact ⟨by decide +kernel, by decide⟩
    unfold out shp at h
    repeat' split at h
    all_goals first
      | (cases h; exact ⟨hd, .inl rfl⟩)
      | (cases h; exact ⟨hp, .inl rfl⟩)
      | (cases h; exact ⟨ws _ (by simp), .inr rfl⟩)
      | cases h
  unfold m__law_told
  dsimp only
  rw [edited_ok g hd hp]
  cases ho : out t deed part at_ row with
  | inr t' =>
    unfold res
    rw [bind_ok', bind_ok']
    rfl
  | inl kx =>
    obtain ⟨ws, hk⟩ := hw kx ho
    obtain ⟨k, x⟩ := kx
    have hz : x.length ≤ sizeLine := by rw [sizeLine_eq]; have := ws.len; show x.length ≤ _; exact Nat.le_trans this (by decide)
    have e1 : fldS [(("name" : Str), V.str x)] "name" = .ok x := by
      unfold fldS
      show (if x.length ≤ sizeLine then Xc.ok x else Xc.no) = _
      exact if_pos hz
    have e2 : fldS [(("part" : Str), V.str x)] "part" = .ok x := by
      unfold fldS
      show (if x.length ≤ sizeLine then Xc.ok x else Xc.no) = _
      exact if_pos hz
    rcases hk with hk | hk
    · have hk : k = ("name" : Str) := hk
      subst hk
      rw [res_name]
      show Xc.bind (goF "UnknownName" [("name", V.str x)] _ _) _ = _
      rw [goF_hit (by decide)]
      dsimp only
      rw [if_pos rfl, bind_ok', if_pos (by rfl)]
      show Xc.bind (Xc.bind (Xc.bind (Xc.bind (Xc.bind (fldS [(("name" : Str), V.str x)] "name") _) _) _) _) _ = _
      rw [e1]
      rfl
    · have hk : k = ("shape" : Str) := hk
      subst hk
      rw [res_shape]
      show Xc.bind (goF "BadShape" [("part", V.str x)] _ _) _ = _
      rw [goF_skip (by decide), goF_hit (by decide)]
      dsimp only
      rw [if_pos rfl, bind_ok', if_pos (by rfl)]
      show Xc.bind (Xc.bind (Xc.bind (Xc.bind (Xc.bind (fldS [(("part" : Str), V.str x)] "part") _) _) _) _) _ = _
      rw [e2]
      rfl
end
end LW

/-! P49F: the model read, compared; the same. -/
namespace LW
open PySem L2 FL
theorem of_int (i : Int) : OfD.of (α := Int) (ToD.d i) = some i := rfl
theorem ofAll_map {α : Type} [Rp α] [ToD α] {f : PyData → Option α} : ∀ {l : List α}, (∀ a ∈ l, f (ToD.d a) = some a) → ofAll f (l.map ToD.d) = some l
  | [], _ => rfl
  | a :: l, h => by
    rw [List.map_cons]
    unfold ofAll
    rw [h a (by simp), ofAll_map (l := l) fun b m => h b (by simp [m])]
theorem of_LI {l : List Int} (h : l.length ≤ 1000) : OfD.of (α := List Int) (ToD.d l) = some l := by
  show (if (l.map ToD.d).length ≤ sizeLine ∧ (l.map ToD.d).all SeqAt.shaped = true then ofAll (OfD.of (α := Int)) (l.map ToD.d) else none) = some l
  rw [if_pos ⟨by rw [List.length_map, sizeLine_eq]; omega, shaped_ints l⟩]
  exact ofAll_map fun a _ => rfl
theorem of_LLI {l : List (List Int)} (h : l.length ≤ 1000) (h2 : ∀ r ∈ l, r.length ≤ 1000) : OfD.of (α := List (List Int)) (ToD.d l) = some l := by
  show (if (l.map ToD.d).length ≤ sizeLine ∧ (l.map ToD.d).all SeqAt.shaped = true then ofAll (OfD.of (α := List Int)) (l.map ToD.d) else none) = some l
  rw [if_pos ⟨by rw [List.length_map, sizeLine_eq]; omega, by
    rw [List.all_map, List.all_eq_true]
    exact fun r _ => shaped_of (by decide) r⟩]
  exact ofAll_map fun a m => of_LI (h2 a m)
theorem asD_LI {l : List Int} (h : l.length ≤ 1000) : asD (List Int) (ToD.d l) = .ok l := asD_ok (of_LI h)
theorem asD_LLI {l : List (List Int)} (h : l.length ≤ 1000) (h2 : ∀ r ∈ l, r.length ≤ 1000) : asD (List (List Int)) (ToD.d l) = .ok l := asD_ok (of_LLI h h2)
/-! the model compared -/
theorem fl_mod (t : S49) : Fl 3 (.list t.mod) := Fl.lst fun d m => by
  simp only [S49.mod, List.mem_cons, List.not_mem_nil, or_false] at m
  rcases m with m | m | m | m | m | m <;> rw [m]
  · exact (Fl.int _).mono (by decide)
  · exact (Fl.int _).mono (by decide)
  · exact (Fl.of t.cost).mono (by decide)
  · exact (Fl.of t.rules).mono (by decide)
  · exact (Fl.of t.aim).mono (by decide)
  · exact (Fl.of t.rows).mono (by decide)
theorem mod_d (t : S49) : ToD.d t.mod = .list t.mod := by
  show PyData.list (t.mod.map id) = _
  rw [List.map_id]
theorem mod_eq (a b : S49) : eqdX a.mod b.mod = .ok (decide (a = b)) := by
  have e0 : a = b ↔ a.s = b.s ∧ a.p = b.p ∧ a.cost = b.cost ∧ a.rules = b.rules ∧ a.aim = b.aim ∧ a.rows = b.rows := by
    constructor
    · intro h; subst h; exact ⟨rfl, rfl, rfl, rfl, rfl, rfl⟩
    · intro ⟨h1, h2, h3, h4, h5, h6⟩
      cases a; cases b
      simp only at h1 h2 h3 h4 h5 h6
      subst h1 h2 h3 h4 h5 h6
      rfl
  unfold eqdX
  rw [mod_d, mod_d, if_pos ⟨(fl_mod a).sh, (fl_mod b).sh⟩]
  refine congrArg Xc.ok ?_
  have e1 : PyData.eqv (.list a.mod) (.list b.mod) = true ↔ a = b := by
    show PyData.eqvAll a.mod b.mod = true ↔ _
    unfold S49.mod
    rw [e0]
    simp only [PyData.eqvAll, Bool.and_eq_true, EqD.eq, and_true]
    have i1 : PyData.eqv (.int (a.s : Int)) (.int (b.s : Int)) = true ↔ a.s = b.s := by
      rw [show PyData.eqv (.int (a.s : Int)) (.int (b.s : Int)) = ((a.s : Int) == (b.s : Int)) from rfl, beq_iff_eq]
      omega
    have i2 : PyData.eqv (.int (a.p : Int)) (.int (b.p : Int)) = true ↔ a.p = b.p := by
      rw [show PyData.eqv (.int (a.p : Int)) (.int (b.p : Int)) = ((a.p : Int) == (b.p : Int)) from rfl, beq_iff_eq]
      omega
    rw [i1, i2]
  by_cases q : a = b
  · rw [decide_eq_true q, e1.mpr q]
  · rw [decide_eq_false q]
    cases r : PyData.eqv (.list a.mod) (.list b.mod) with
    | false => rfl
    | true => exact absurd (e1.mp r) q
section
variable {t : S49}
theorem m0 : getX t.mod 0 = .ok (.int t.s) := getX_b (by decide) rfl
theorem m1 : getX t.mod 1 = .ok (.int t.p) := getX_b (by decide) rfl
theorem m2 : getX t.mod 2 = .ok (ToD.d t.cost) := getX_b (by decide) rfl
theorem m3 : getX t.mod 3 = .ok (ToD.d t.rules) := getX_b (by decide) rfl
theorem m4 : getX t.mod 4 = .ok (ToD.d t.aim) := getX_b (by decide) rfl
theorem m5 : getX t.mod 5 = .ok (ToD.d t.rows) := getX_b (by decide) rfl
theorem G49.w6 (g : G49 t) : t.s + t.p ≤ 6 := by have := g.s1; have := g.p1; omega
theorem gw_len {w : Nat} {r : List Int} (g : GW w r) (h : w ≤ 7) : r.length ≤ 1000 := by rw [g.len]; omega
theorem reads_ok {w : Nat} {rs : List (List Int)} (h : ∀ r ∈ rs, GW w r) (hw : w ≤ 7) : compX (fun _ => Xc.ok true) (fun a => m__law_read (a, ())) (rs.map mkA) = .ok rs := by
  have : ∀ {l : List (List Int)}, (∀ r ∈ l, GW w r) → compX (fun _ => Xc.ok true) (fun a => m__law_read (a, ())) (l.map mkA) = .ok l := by
    intro l
    induction l with
    | nil => intro _; rfl
    | cons r l ih =>
      intro h
      rw [List.map_cons]
      have h1 := read_ok (h r (by simp)) (by omega)
      simp only [compX, h1, nx, bind_ok, if_true, ih fun x m => h x (by simp [m])]
  exact this h
theorem funcs_ok {w : Nat} {rs : List (List Int)} (h : ∀ r ∈ rs, GW w r) : compX (fun _ => Xc.ok true) (fun a => m__law_function (a, ())) rs = .ok (rs.map mkA) := compX_map fun a m => ⟨rfl, function_ok (h a m)⟩
theorem init_good (g : G49 t) : initT t = .ok t.tk := by
  unfold initT
  rw [init_T g.s1 g.p1, if_pos (f_cost g), if_pos (f_rules g), if_pos (f_aim g), if_pos (f_rows g)]
theorem same_ok (g : G49 t) : m__law_same (.inl t.tk, (t.mod, ())) = .ok true := by
  have hw := g.w6
  have l1 : ∀ r ∈ t.rules, r.length ≤ 1000 := fun r m => gw_len (g.rules r m) (by omega)
  have l2 : ∀ r ∈ t.rows, r.length ≤ 1000 := fun r m => gw_len (g.rows r m) (by omega)
  have rl := g.rl
  have ro := g.r1
  have hi := init_good g
  unfold initT at hi
  unfold m__law_same
  dsimp only
  have hs : (Sum.elim (fun _ : Ty_Task => true) (optB false (fun _ : Str × Str => false)) (Sum.inl t.tk)) = true := rfl
  rw [hs, if_neg (by decide), unL_inl, bind_ok', bind_ok', m0, bind_ok', asI_ok, bind_ok']
  show Xc.bind (Xc.bind (Xc.ok (!decide ((t.s : Int) = (t.s : Int)))) _) _ = _
  rw [decide_eq_true rfl, bind_ok', if_neg (by decide), bind_ok', bind_ok', m1, bind_ok', asI_ok, bind_ok']
  show Xc.bind (Xc.ok (!decide ((t.p : Int) = (t.p : Int)))) _ = _
  rw [decide_eq_true rfl, bind_ok', if_neg (by decide), bind_ok', bind_ok', bind_ok']
  show Xc.bind (Xc.bind (Xc.bind (isiX "tuple" "tuple") _) _) _ = _
  rw [k_tt, bind_ok', bind_ok', if_neg (by decide), bind_ok', bind_ok', bind_ok']
  show Xc.bind (Xc.bind (isiX "tuple" "tuple") _) _ = _
  rw [k_tt, bind_ok', bind_ok', if_neg (by decide), bind_ok', bind_ok', bind_ok', bind_ok']
  show Xc.bind (Xc.bind (Xc.bind (m__law_read (mkA t.cost, ())) _) _) _ = _
  rw [read_ok g.cost (by omega), bind_ok', m2, bind_ok', asD_LI (gw_len g.cost (by omega)), bind_ok', eqdX_ok (by decide), decide_eq_true rfl, bind_ok', bind_ok', if_neg (by decide), bind_ok', bind_ok', bind_ok']
  show Xc.bind (Xc.bind (m__law_read (mkA t.aim, ())) _) _ = _
  rw [read_ok g.aim (by omega), bind_ok', m4, bind_ok', asD_LI (gw_len g.aim (by omega)), bind_ok', eqdX_ok (by decide), decide_eq_true rfl, bind_ok', bind_ok', if_neg (by decide)]
  show Xc.bind (Xc.bind (Xc.bind (compX (fun _ => Xc.ok true) (fun a => m__law_read (a, ())) (t.rules.map mkA)) _) _) _ = _
  rw [reads_ok g.rules (by omega), bind_ok', m3, bind_ok', asD_LLI (by omega) l1, bind_ok', eqdX_ok (by decide), decide_eq_true rfl, bind_ok', bind_ok', if_neg (by decide), bind_ok', bind_ok']
  show Xc.bind (Xc.bind (compX (fun _ => Xc.ok true) (fun a => m__law_read (a, ())) (t.rows.map mkA)) _) _ = _
  rw [reads_ok g.rows (by omega), bind_ok', m5, bind_ok', asD_LLI (by omega) l2, bind_ok', eqdX_ok (by decide), decide_eq_true rfl, bind_ok', bind_ok', if_neg (by decide), bind_ok', funcs_ok g.rules, bind_ok', bind_ok', funcs_ok g.rows, bind_ok']
  rw [bind_ok', bind_ok', bind_ok', function_ok g.cost, bind_ok', bind_ok', bind_ok', function_ok g.aim, bind_ok', bind_ok', bind_ok', bind_ok', bind_ok', bind_ok']
  rw [hi, bind_ok', bind_ok', mkT_eq g g, decide_eq_true rfl, bind_ok', if_pos rfl, bind_ok', mkT_eq g g, decide_eq_true rfl, nerX_ok, bind_ok', bind_ok']
  rfl
end
end LW

/-! P49G: what is due. -/
namespace LW
open PySem L2 FL
theorem inS {x : Str} {l : List Str} (h : WS x) (hl : (∀ y ∈ l, WS y)) : inDX x l = .ok (decide (x ∈ l)) := by
  unfold inDX
  have h2 : Fl 1 (ToD.d l) := Fl.lst fun d m => by
    obtain ⟨y, my, rfl⟩ := List.mem_map.mp m
    exact fl_str (hl y my)
  rw [if_pos ⟨(show Fl 0 (ToD.d x) from fl_str h).sh, h2.sh⟩]
  refine congrArg Xc.ok ?_
  induction l with
  | nil => rfl
  | cons y l ih =>
    rw [List.map_cons, List.any_cons, ih (fun z m => hl z (by simp [m])) (Fl.lst fun d m => by
      obtain ⟨z, mz, rfl⟩ := List.mem_map.mp m
      exact fl_str (hl z (by simp [mz])))]
    have e : PyData.eqv (ToD.d y) (ToD.d x) = decide (x = y) := by
      by_cases q : x = y
      · rw [decide_eq_true q, (EqD.eq y x).mpr q.symm]
      · rw [decide_eq_false q]
        cases r : PyData.eqv (ToD.d y) (ToD.d x) with
        | false => rfl
        | true => exact absurd ((EqD.eq y x).mp r).symm q
    rw [e]
    simp [List.mem_cons, Bool.decide_or]
theorem ws_known {x : Str} (h : x ∈ [("put" : Str), ("insert" : Str), ("remove" : Str), ("push" : Str), ("puts" : Str), ("rules" : Str), ("rows" : Str), ("cost" : Str), ("aim" : Str), ("row" : Str), ("rules " : Str)]) : WS x := by
  simp only [List.mem_cons, List.not_mem_nil, or_false] at h
  rcases h with h | h | h | h | h | h | h | h | h | h | h <;> rw [h] <;> exact ⟨by decide +kernel, by decide⟩
theorem set_app {α : Type} {l : List α} {k : Nat} {a : α} (h : k < l.length) : l.set k a = l.take k ++ [a] ++ l.drop (k + 1) := by
  rw [List.set_eq_take_append_cons_drop, if_pos h]
  simp
theorem bad_len {w : Nat} {rs : List (List Int)} (h : ∀ r ∈ rs, ∃ v, GW v r) : decide ((0 : Int) < (((rs.filter fun a => !decide (((HasLen.len a : Nat) : Int) = ((w : Int) + 2))).length : Nat) : Int)) = !rs.all (fit w) := by
  have e : ∀ r ∈ rs, (!decide (((HasLen.len r : Nat) : Int) = ((w : Int) + 2))) = !fit w r := fun r m => by
    obtain ⟨v, g⟩ := h r m
    rw [fit_gw g]
    refine congrArg (fun b : Bool => !b) (decide_eq_decide.mpr ?_)
    show ((r.length : Nat) : Int) = _ ↔ _
    rw [g.len]
    omega
  rw [List.filter_congr e]
  cases q : rs.all (fit w) with
  | true =>
    rw [List.all_eq_true] at q
    have : (rs.filter fun a => !fit w a) = [] := by
      rw [List.filter_eq_nil_iff]
      exact fun a m => by rw [q a m]; decide
    rw [this]
    rfl
  | false =>
    rw [List.all_eq_false] at q
    obtain ⟨r, mr, hr⟩ := q
    have hr : fit w r = false := by simpa using hr
    have : r ∈ (rs.filter fun a => !fit w a) := List.mem_filter.mpr ⟨mr, by rw [hr]; rfl⟩
    have := List.length_pos_of_mem this
    rw [decide_eq_true (by omega)]
    rfl
end LW

/-! P49H: what is due, by the law. -/
namespace LW
open PySem L2 FL
section
variable {t : S49} {deed part : Str} {at_ : Int} {row : List Int}
def spt (part : Str) : Int := if part = ("rules" : Str) then 3 else 5
def lst (t : S49) (part : Str) : List (List Int) := if part = ("rules" : Str) then t.rules else t.rows
def upt (t : S49) (part : Str) (rs : List (List Int)) : S49 := if part = ("rules" : Str) then rul t rs else rws t rs
theorem out_list (hd : isDeed deed) (h : part = ("rules" : Str) ∨ part = ("rows" : Str)) : out t deed part at_ row =
    if 0 ≤ at_ ∧ at_ ≤ lastOf (lst t part).length deed then (if (decide ((chg (lst t part) deed at_ row).length ≤ 4 ∧ (part = ("rows" : Str) → 1 ≤ (chg (lst t part) deed at_ row).length)) && (chg (lst t part) deed at_ row).all (fit (t.s + t.p))) = true then .inr (upt t part (chg (lst t part) deed at_ row)) else shp part) else shp "place" := by
  unfold out lst upt
  rw [if_neg (by simpa using hd)]
  rcases h with h | h
  · subst h
    rw [if_pos rfl, if_pos rfl, if_pos rfl]
    have : (("rules" : Str) = ("rows" : Str)) = False := by simp; decide
    simp only [this, false_implies, and_true]
  · subst h
    have nn : ¬ ("rows" : Str) = ("rules" : Str) := by decide
    rw [if_neg nn, if_pos rfl, if_neg nn, if_neg nn]
    have e : decide (1 ≤ (chg t.rows deed at_ row).length ∧ (chg t.rows deed at_ row).length ≤ 4) = decide ((chg t.rows deed at_ row).length ≤ 4 ∧ (("rows" : Str) = ("rows" : Str) → 1 ≤ (chg t.rows deed at_ row).length)) := decide_eq_decide.mpr ⟨fun z => ⟨z.2, fun _ => z.1⟩, fun z => ⟨z.2 rfl, z.1⟩⟩
    rw [e]
theorem chg_gw {w : Nat} {rs : List (List Int)} (h : ∀ r ∈ rs, GW w r) (hr : ∃ v, GW v row) : ∀ r ∈ chg rs deed at_ row, ∃ v, GW v r := by
  intro r m
  unfold chg at m
  have a1 : ∀ k, r ∈ rs.take k → ∃ v, GW v r := fun k q => ⟨w, h r (List.mem_of_mem_take q)⟩
  have a2 : ∀ k, r ∈ rs.drop k → ∃ v, GW v r := fun k q => ⟨w, h r (List.mem_of_mem_drop q)⟩
  have a3 : r = row → ∃ v, GW v r := fun e => by rw [e]; exact hr
  split at m
  · simp only [List.mem_append, List.mem_singleton] at m
    rcases m with (m | m) | m
    · exact a1 _ m
    · exact a3 m
    · exact a2 _ m
  · split at m
    · simp only [List.mem_append] at m
      rcases m with m | m
      · exact a1 _ m
      · exact a2 _ m
    · simp only [List.mem_append, List.mem_singleton] at m
      rcases m with (m | m) | m
      · exact a1 _ m
      · exact a3 m
      · exact a2 _ m
theorem chg_len {rs : List (List Int)} (hl : rs.length ≤ 4) : (chg rs deed at_ row).length ≤ 9 := by
  unfold chg
  split
  · simp only [List.length_append, List.length_take, List.length_drop, List.length_cons, List.length_nil]; omega
  · split <;> simp only [List.length_append, List.length_take, List.length_drop, List.length_cons, List.length_nil] <;> omega
def dueR (o : O49) : (Str × Str) ⊕ List PyData := match o with
  | .inl kx => .inl kx
  | .inr t' => .inr t'.mod
theorem due_ok (g : G49 t) (wp : WS part) (wd : WS deed) {v : Nat} (gr : GW v row) (hv : v ≤ 7) : m__law_due (t.mod, (deed, (part, (at_, (row, ()))))) = .ok (dueR (out t deed part at_ row)) := by
  have hw := g.w6
  unfold m__law_due
  dsimp only
  rw [szX_b (by simp), bind_ok', inS wd (fun y m => ws_known (by simp only [List.mem_cons, List.not_mem_nil, or_false] at m ⊢; rcases m with m | m | m <;> simp [m])), bind_ok', bind_ok']
  by_cases h0 : isDeed deed
  · have h0' : deed ∈ [("put" : Str), ("insert" : Str), ("remove" : Str)] := h0
    rw [decide_eq_true h0', if_neg (by decide), szX_b (by simp), bind_ok', inS wp (fun y m => ws_known (by simp only [List.mem_cons, List.not_mem_nil, or_false] at m ⊢; rcases m with m | m | m | m <;> simp [m])), bind_ok', bind_ok', szX_b (by simp), bind_ok', inS wp (fun y m => ws_known (by simp only [List.mem_cons, List.not_mem_nil, or_false] at m ⊢; rcases m with m | m <;> simp [m])), bind_ok', m0, bind_ok', asI_ok, bind_ok', m1, bind_ok', asI_ok, bind_ok', bind_ok', bind_ok']
    have hlr : ((HasLen.len row : Nat) : Int) = (v : Int) + 2 := by
      show ((row.length : Nat) : Int) = _
      rw [gr.len]; omega
    by_cases hL : part = ("rules" : Str) ∨ part = ("rows" : Str)
    · have n1 : ¬ part = ("cost" : Str) := by rcases hL with h | h <;> rw [h] <;> decide
      have n2 : ¬ part = ("aim" : Str) := by rcases hL with h | h <;> rw [h] <;> decide
      have hin : part ∈ [("rules" : Str), ("rows" : Str), ("cost" : Str), ("aim" : Str)] := by rcases hL with h | h <;> simp [h]
      have hnin : ¬ part ∈ [("cost" : Str), ("aim" : Str)] := by simp [n1, n2]
      rw [decide_eq_true hin, if_neg (by decide), decide_eq_false hnin, if_neg (by decide), bind_ok', if_neg (by decide), if_neg (by simpa using n1), bind_ok', if_neg (by simpa using n2)]
      have hsp : (if decide (part = ("rules" : Str)) = true then Xc.ok (3 : Int) else Xc.ok 5) = .ok (spt part) := by
        unfold spt
        by_cases h : part = ("rules" : Str)
        · rw [if_pos (decide_eq_true h), if_pos h]
        · rw [if_neg (by simpa using h), if_neg h]
      have hgs : getX t.mod (spt part) = .ok (ToD.d (lst t part)) := by
        unfold spt lst
        split
        · exact m3
        · exact m5
      have hl4 : (lst t part).length ≤ 4 := by
        unfold lst
        split
        · exact g.rl
        · exact g.r1.2
      have hgw : ∀ r ∈ lst t part, GW (t.s + t.p) r := by
        unfold lst
        split
        · exact g.rules
        · exact g.rows
      rw [hsp, bind_ok', hgs, bind_ok', asD_LLI (by omega) (fun r m => gw_len (hgw r m) (by omega)), bind_ok', bind_ok', out_list h0 hL]
      have hla : (if decide (deed = ("insert" : Str)) = true then Xc.ok ((HasLen.len (lst t part) : Nat) : Int) else Xc.ok (((HasLen.len (lst t part) : Nat) : Int) - 1)) = .ok (lastOf (lst t part).length deed) := by
        unfold lastOf
        by_cases h : deed = ("insert" : Str)
        · rw [if_pos (decide_eq_true h), if_pos h]; rfl
        · rw [if_neg (by simpa using h), if_neg h]; rfl
      rw [hla, bind_ok']
      have hpl : (if decide (at_ < (0 : Int)) = true then Xc.ok true else Xc.ok (decide (lastOf (lst t part).length deed < at_))) = .ok (!decide (0 ≤ at_ ∧ at_ ≤ lastOf (lst t part).length deed)) := by
        by_cases h : at_ < 0
        · rw [if_pos (decide_eq_true h), decide_eq_false (by omega)]; rfl
        · rw [if_neg (by simpa using h)]
          by_cases h2 : at_ ≤ lastOf (lst t part).length deed
          · rw [decide_eq_false (by omega), decide_eq_true (by omega)]; rfl
          · rw [decide_eq_true (by omega), decide_eq_false (by omega)]; rfl
      rw [hpl, bind_ok']
      by_cases hat : 0 ≤ at_ ∧ at_ ≤ lastOf (lst t part).length deed
      · rw [decide_eq_true hat, if_neg (by decide), if_pos hat]
        generalize hC : chg (lst t part) deed at_ row = C
        have gC : ∀ r ∈ C, ∃ v, GW v r := by rw [← hC]; exact chg_gw hgw ⟨v, gr⟩
        have lC : C.length ≤ 9 := by rw [← hC]; exact chg_len hl4
        have rC : ∀ r ∈ C, r.length ≤ 1000 := by
          intro r m
          rw [← hC] at m
          have e1 : GW (t.s + t.p) r ∨ r = row := by
            have a1 : ∀ k, r ∈ (lst t part).take k → GW (t.s + t.p) r := fun k q => hgw r (List.mem_of_mem_take q)
            have a2 : ∀ k, r ∈ (lst t part).drop k → GW (t.s + t.p) r := fun k q => hgw r (List.mem_of_mem_drop q)
            unfold chg at m
            split at m
            · simp only [List.mem_append, List.mem_singleton] at m
              rcases m with (m | m) | m
              · exact .inl (a1 _ m)
              · exact .inr m
              · exact .inl (a2 _ m)
            · split at m
              · simp only [List.mem_append] at m
                rcases m with m | m
                · exact .inl (a1 _ m)
                · exact .inl (a2 _ m)
              · simp only [List.mem_append, List.mem_singleton] at m
                rcases m with (m | m) | m
                · exact .inl (a1 _ m)
                · exact .inr m
                · exact .inl (a2 _ m)
          rcases e1 with e1 | e1
          · exact gw_len e1 (by omega)
          · rw [e1]; exact gw_len gr hv
        have ew : (t.s : Int) + (t.p : Int) + 2 = ((t.s + t.p : Nat) : Int) + 2 := by omega
        rw [ew]
        refine bind_okI (a := (t.mod, (deed, (part, (at_, (row, (((t.s + t.p : Nat) : Int) + 2, (spt part, (C, (lastOf (lst t part).length deed, ()))))))))) ) ?_ ?_
        · rw [← hC]
          unfold chg
          have hin3 : deed = ("put" : Str) ∨ deed = ("insert" : Str) ∨ deed = ("remove" : Str) := by simpa using h0'
          by_cases d1 : deed = ("put" : Str)
          · have d2 : ¬ deed = ("insert" : Str) := by rw [d1]; decide
            have d3 : ¬ deed = ("remove" : Str) := by rw [d1]; decide
            have hk : at_.toNat < (lst t part).length := by
              have := hat.2
              unfold lastOf at this
              rw [if_neg d2] at this
              have := hat.1
              omega
            rw [if_pos (decide_eq_true d1), setX_b hat.1 (by omega), bind_ok', if_neg d2, if_neg d3, set_app hk]
          · rw [if_neg (by simpa using d1)]
            by_cases d2 : deed = ("insert" : Str)
            · rw [if_pos (decide_eq_true d2), if_pos d2]
              have hi : insX (lst t part) at_ row = .ok ((lst t part).take at_.toNat ++ [row] ++ (lst t part).drop at_.toNat) := by
                unfold insX
                refine if_pos ⟨by rw [sizeLine_eq]; omega, hat.1, ?_⟩
                have := hat.2
                unfold lastOf at this
                rw [if_pos d2] at this
                omega
              rw [hi, bind_ok', bind_ok']
            · have d3 : deed = ("remove" : Str) := by
                rcases hin3 with h | h | h
                · exact absurd h d1
                · exact absurd h d2
                · exact h
              rw [if_neg (by simpa using d2), if_neg d2, if_pos d3]
              have hp : popX (lst t part) at_ = .ok ((lst t part).take at_.toNat ++ (lst t part).drop (at_.toNat + 1)) := by
                unfold popX
                have := hat.2
                unfold lastOf at this
                rw [if_neg d2] at this
                rw [if_pos ⟨hat.1, by omega⟩, List.eraseIdx_eq_take_drop_succ]
              rw [hp, bind_ok', bind_ok']
        · dsimp only
          have hlc : ((HasLen.len C : Nat) : Int) = (C.length : Int) := rfl
          have hcond : (if decide ((4 : Int) < ((HasLen.len C : Nat) : Int)) = true then Xc.ok true else (if decide (part = ("rows" : Str)) = true then Xc.ok (decide (((HasLen.len C : Nat) : Int) < (1 : Int))) else Xc.ok false)) = .ok (!decide (C.length ≤ 4 ∧ (part = ("rows" : Str) → 1 ≤ C.length))) := by
            rw [hlc]
            by_cases h : 4 < C.length
            · rw [if_pos (decide_eq_true (by omega)), decide_eq_false (by omega)]; rfl
            · rw [if_neg (by simp; omega)]
              by_cases h2 : part = ("rows" : Str)
              · rw [if_pos (decide_eq_true h2)]
                by_cases h3 : 1 ≤ C.length
                · rw [decide_eq_false (by omega), decide_eq_true ⟨by omega, fun _ => h3⟩]; rfl
                · rw [decide_eq_true (by omega), decide_eq_false (fun z => h3 (z.2 h2))]; rfl
              · rw [if_neg (by simpa using h2), decide_eq_true ⟨by omega, fun z => absurd z h2⟩]; rfl
          rw [hcond, bind_ok']
          by_cases hc : C.length ≤ 4 ∧ (part = ("rows" : Str) → 1 ≤ C.length)
          · rw [decide_eq_true hc, if_neg (by decide)]
            rw [compX_fil (p := fun a => !decide (((HasLen.len a : Nat) : Int) = (((t.s + t.p : Nat) : Int) + 2))) (fun a _ => rfl), bind_ok', bind_ok', bind_ok', hlen, bad_len gC]
            cases hf : C.all (fit (t.s + t.p)) with
            | false =>
              rw [if_pos (by decide), if_neg (by decide)]
              rfl
            | true =>
              rw [if_neg (by decide), if_pos (by decide), datX_ok (by decide), bind_ok', bind_ok', szX_b (by simp), bind_ok']
              have hs0 : (0 : Int) ≤ spt part ∧ (0 : Int) ≤ spt part + 1 := by unfold spt; split <;> decide
              have hm : t.mod.length = 6 := rfl
              rw [cutL_take _ hs0.1, cutL_drop _ hs0.2, catL_ok (by simp only [List.length_take, hm, List.length_cons, List.length_nil]; omega), bind_ok', catL_ok (by simp only [List.length_append, List.length_take, List.length_drop, hm, List.length_cons, List.length_nil]; omega), bind_ok']
              unfold dueR spt upt
              rcases hL with h | h
              · rw [if_pos h, if_pos h]
                rfl
              · have nn : ¬ part = ("rules" : Str) := by rw [h]; decide
                rw [if_neg nn, if_neg nn]
                rfl
          · rw [decide_eq_false hc, if_pos (by decide), if_neg (by simp)]
            rfl
      · rw [decide_eq_false hat, if_pos (by decide), if_neg hat]
        rfl
    · have n1 : ¬ part = ("rules" : Str) := fun z => hL (.inl z)
      have n2 : ¬ part = ("rows" : Str) := fun z => hL (.inr z)
      have ho : out t deed part at_ row = (if part = ("cost" : Str) ∧ deed = ("put" : Str) then (if fit (t.s + t.p) row = true then .inr (cst t row) else shp "cost") else if part = ("aim" : Str) ∧ deed = ("put" : Str) then (if fit (t.s + t.p) row = true then .inr (amm t row) else shp "aim") else .inl (("name" : Str), part)) := by
        unfold out
        rw [if_neg (by simpa using h0), if_neg n1, if_neg n2]
      rw [ho]
      have ew : (!decide (((HasLen.len row : Nat) : Int) = (t.s : Int) + (t.p : Int) + 2)) = !fit (t.s + t.p) row := by
        rw [fit_gw gr, hlr]
        exact congrArg (fun b : Bool => !b) (decide_eq_decide.mpr (by omega))
      have hm : t.mod.length = 6 := rfl
      by_cases c1 : part = ("cost" : Str) ∨ part = ("aim" : Str)
      · have hin : part ∈ [("rules" : Str), ("rows" : Str), ("cost" : Str), ("aim" : Str)] := by rcases c1 with h | h <;> simp [h]
        have hin2 : part ∈ [("cost" : Str), ("aim" : Str)] := by rcases c1 with h | h <;> simp [h]
        rw [decide_eq_true hin, if_neg (by decide), decide_eq_true hin2, if_pos rfl, bind_ok']
        by_cases d1 : deed = ("put" : Str)
        · rw [decide_eq_true d1, if_neg (by decide)]
          have hb : (if decide (part = ("cost" : Str)) = true then Xc.ok true else Xc.ok (decide (part = ("aim" : Str)))) = .ok true := by
            rcases c1 with h | h
            · rw [if_pos (decide_eq_true h)]
            · have : ¬ part = ("cost" : Str) := by rw [h]; decide
              rw [if_neg (by simpa using this), decide_eq_true h]
          rw [hb, bind_ok', if_pos rfl, ew]
          cases hf : fit (t.s + t.p) row with
          | false =>
            rw [if_pos (by decide)]
            rcases c1 with h | h
            · subst h
              rw [if_pos ⟨rfl, d1⟩, if_neg (by decide)]
              rfl
            · subst h
              rw [if_neg (show ¬ (("aim" : Str) = ("cost" : Str) ∧ deed = ("put" : Str)) from fun z => absurd z.1 (by decide)), if_pos ⟨rfl, d1⟩, if_neg (by decide)]
              rfl
          | true =>
            rw [if_neg (by decide)]
            rcases c1 with h | h
            · subst h
              rw [if_pos (show ("cost" : Str) = ("cost" : Str) ∧ deed = ("put" : Str) from ⟨rfl, d1⟩), if_pos (show true = true from rfl), if_pos (by rfl), datX_ok (by decide), bind_ok', bind_ok', szX_b (by simp), bind_ok']
              rw [cutL_take _ (by decide), cutL_drop _ (by decide), catL_ok (by simp only [List.length_take, hm, List.length_cons, List.length_nil]; omega), bind_ok', catL_ok (by simp only [List.length_append, List.length_take, List.length_drop, hm, List.length_cons, List.length_nil]; omega), bind_ok']
              rfl
            · subst h
              rw [if_neg (show ¬ (("aim" : Str) = ("cost" : Str) ∧ deed = ("put" : Str)) from fun z => absurd z.1 (by decide)), if_pos (show ("aim" : Str) = ("aim" : Str) ∧ deed = ("put" : Str) from ⟨rfl, d1⟩), if_pos (show true = true from rfl), if_neg (show ¬ decide (("aim" : Str) = ("cost" : Str)) = true by decide), datX_ok (by decide), bind_ok', bind_ok', szX_b (by simp), bind_ok']
              rw [cutL_take _ (by decide), cutL_drop _ (by decide), catL_ok (by simp only [List.length_take, hm, List.length_cons, List.length_nil]; omega), bind_ok', catL_ok (by simp only [List.length_append, List.length_take, List.length_drop, hm, List.length_cons, List.length_nil]; omega), bind_ok']
              rfl
        · rw [decide_eq_false d1, if_pos (by decide), if_neg (fun z => d1 z.2), if_neg (fun z => d1 z.2)]
          rfl
      · have nin : ¬ part ∈ [("rules" : Str), ("rows" : Str), ("cost" : Str), ("aim" : Str)] := by
          intro m
          simp only [List.mem_cons, List.not_mem_nil, or_false] at m
          rcases m with m | m | m | m
          · exact n1 m
          · exact n2 m
          · exact c1 (.inl m)
          · exact c1 (.inr m)
        rw [decide_eq_false nin, if_pos (by decide), bind_ok', if_pos rfl, if_neg (fun z => c1 (.inl z.1)), if_neg (fun z => c1 (.inr z.1))]
        rfl
  · have h0' : ¬ deed ∈ [("put" : Str), ("insert" : Str), ("remove" : Str)] := h0
    rw [decide_eq_false h0', if_pos (by decide)]
    unfold out
    rw [if_pos h0]
    rfl
end
end LW

/-! P49I: the law. -/
namespace LW
open PySem L2 FL
theorem comp_get {α β : Type} {f : α → Xc β} (P : β → Prop) : ∀ {l : List α}, (∀ a ∈ l, Ok (f a) P) → ∃ r, compX (fun _ => Xc.ok true) f l = .ok r ∧ r.length = l.length ∧ ∀ b ∈ r, P b
  | [], _ => ⟨[], rfl, rfl, fun b m => by cases m⟩
  | a :: l, h => by
    obtain ⟨b, e, pb⟩ := h a (by simp)
    obtain ⟨r, e2, l2, p2⟩ := comp_get P (l := l) fun c m => h c (by simp [m])
    refine ⟨b :: r, ?_, by rw [List.length_cons, List.length_cons, l2], fun c m => ?_⟩
    · unfold compX
      simp only [nx, bind_ok', if_true, e, e2]
    · rcases List.mem_cons.mp m with m | m
      · rw [m]; exact pb
      · exact p2 c m
theorem forK_ct {γ α ρ τ : Type} {f : γ → α → Xc (Lp γ ρ)} {rt : ρ → τ} {k : γ → Xc τ} {r : Xc τ} {l : List α} {g : γ} (P : γ → Prop) (h : P g) (hs : ∀ g a, a ∈ l → P g → ∃ g', f g a = .ok (.ct g') ∧ P g') (hk : ∀ g, P g → k g = r) : forK (forX f l g) rt k = r := by
  obtain ⟨g', e, h'⟩ := forX_ct (f := f) P h hs
  rw [e, forK_inl]
  exact hk g' h'
theorem eqd_pair {x : Str × Str} (ha : WS x.1) (hb : WS x.2) : eqdX x x = .ok true := by
  have h : Fl 1 (ToD.d x) := Fl.two (fl_str ha) (fl_str hb)
  unfold eqdX
  rw [if_pos ⟨h.sh, h.sh⟩, (EqD.eq x x).mpr rfl]
theorem asSq_LLI {l : List (List Int)} (h : l.length ≤ 1000) : asSq (ToD.d l) = .ok (sq (l.map ToD.d)) := by
  show asSq (PyData.list (l.map ToD.d)) = _
  unfold asSq
  refine if_pos ⟨by rw [List.length_map, sizeLine_eq]; omega, ?_⟩
  rw [List.all_map, List.all_eq_true]
  exact fun r _ => shaped_of (by decide) r
section
variable {t : S49} {deed part : Str} {at_ : Int} {row : List Int}
theorem out_ws (hd : WS deed) (hp : WS part) : ∀ kx : Str × Str, out t deed part at_ row = .inl kx → WS kx.1 ∧ WS kx.2 := by
  intro kx h
  have ws : ∀ x : Str, x = ("rules" : Str) ∨ x = ("rows" : Str) ∨ x = ("cost" : Str) ∨ x = ("aim" : Str) ∨ x = ("place" : Str) ∨ x = ("name" : Str) ∨ x = ("shape" : Str) → WS x := fun x h => by
    rcases h with h | h | h | h | h | h | h <;> rw [h] <;> exact ⟨by decide +kernel, by decide⟩
  unfold out shp at h
  repeat' split at h
  all_goals first
    | (cases h; exact ⟨ws _ (by simp), hd⟩)
    | (cases h; exact ⟨ws _ (by simp), hp⟩)
    | (cases h; exact ⟨ws _ (by simp), ws _ (by simp)⟩)
    | cases h
theorem out_good (g : G49 t) {v : Nat} (gr : GW v row) {t' : S49} (h : out t deed part at_ row = .inr t') : G49 t' ∧ t'.s = t.s ∧ t'.p = t.p := by
  have one : fit (t.s + t.p) row = true → GW (t.s + t.p) row := fun f => by
    rw [fit_gw gr] at f
    have := of_decide_eq_true f
    rw [← this]; exact gr
  have all : ∀ rs : List (List Int), (∀ r ∈ rs, GW (t.s + t.p) r) → (chg rs deed at_ row).all (fit (t.s + t.p)) = true → ∀ r ∈ chg rs deed at_ row, GW (t.s + t.p) r := fun rs h1 h2 r m => by
    obtain ⟨u, gu⟩ := chg_gw (deed := deed) (at_ := at_) h1 ⟨v, gr⟩ r m
    have f := (List.all_eq_true.mp h2) r m
    rw [fit_gw gu] at f
    have := of_decide_eq_true f
    rw [← this]; exact gu
  unfold out shp at h
  split at h
  · cases h
  split at h
  · split at h
    · split at h
      · next c =>
        cases h
        rw [Bool.and_eq_true] at c
        exact ⟨⟨g.s1, g.p1, g.cost, all _ g.rules c.2, g.aim, g.rows, of_decide_eq_true c.1, g.r1⟩, rfl, rfl⟩
      · cases h
    · cases h
  split at h
  · split at h
    · split at h
      · next c =>
        cases h
        rw [Bool.and_eq_true] at c
        exact ⟨⟨g.s1, g.p1, g.cost, g.rules, g.aim, all _ g.rows c.2, g.rl, of_decide_eq_true c.1⟩, rfl, rfl⟩
      · cases h
    · cases h
  split at h
  · split at h
    · next c =>
      cases h
      exact ⟨⟨g.s1, g.p1, one c, g.rules, g.aim, g.rows, g.rl, g.r1⟩, rfl, rfl⟩
    · cases h
  split at h
  · split at h
    · next c =>
      cases h
      exact ⟨⟨g.s1, g.p1, g.cost, g.rules, one c, g.rows, g.rl, g.r1⟩, rfl, rfl⟩
    · cases h
  · cases h
end
theorem law_true : ∀ ns : List Int, ns.length ≤ 63 → m_law (ns, ()) = .ok true := by
  intro ns hn
  obtain ⟨dr, e, hl, hd⟩ := draws_ok (c := 60) hn (by decide) (by decide)
  have hdl : dr.length = 60 := by omega
  have gd : ∀ i : Int, 0 ≤ i → i < 60 → getX dr i = .ok (dv dr i) := fun i h0 h1 => getX_dv h0 (by omega)
  have md : ∀ x m : Int, m ≠ 0 → modX x m = .ok (x.fmod m) := fun x m h => modX_b h
  have ml : ∀ x : Int, mulX 8 x = .ok (8 * x) := fun x => mulX_l (by decide)
  have s0 := mod_range (a := dv dr 0) (m := 3) (by decide)
  have s1 := mod_range (a := (dv dr 0).fdiv 3) (m := 3) (by decide)
  obtain ⟨s, hs⟩ : ∃ s : Nat, 1 + (dv dr 0).fmod 3 = (s : Int) := ⟨(1 + (dv dr 0).fmod 3).toNat, by omega⟩
  obtain ⟨p, hp⟩ : ∃ p : Nat, 1 + ((dv dr 0).fdiv 3).fmod 3 = (p : Int) := ⟨(1 + ((dv dr 0).fdiv 3).fmod 3).toNat, by omega⟩
  have hw : s + p ≤ 6 := by omega
  have ew : (s : Int) + (p : Int) = ((s + p : Nat) : Int) := by omega
  unfold m_law
  refine okB _ e ?_
  refine okB (s : Int) (by rw [← hs, gd _ (by decide) (by decide), bind_ok', md _ _ (by decide), bind_ok']) ?_
  refine okB (p : Int) (by rw [← hp, gd _ (by decide) (by decide), bind_ok', show fdvX (dv dr 0) 3 = .ok ((dv dr 0).fdiv 3) from fdvX_b (by decide) (show (3 : Int).natAbs < 2 ^ 64 by decide) (by decide), bind_ok', md _ _ (by decide), bind_ok']) ?_
  have r1 := mod_range (a := dv dr 1) (m := 5) (by decide)
  have r2 := mod_range (a := dv dr 2) (m := 4) (by decide)
  obtain ⟨rules, er, lr, gr⟩ := comp_get (fun r => GW (s + p) r) (l := rangeL 0 ((dv dr 1).fmod 5)) (f := fun a961 => (Xc.bind (Xc.bind (Xc.bind (Xc.bind (mulX (5 : Int) a961) fun t962 => (Xc.ok ((7 : Int) + t962))) fun t963 => (Xc.ok (t963, (((s : Int) + (p : Int)), ())))) fun t964 => (Xc.ok (dr, t964))) fun t965 => (m__law_values t965))) (fun a m => by
    have ma := rangeL_mem m
    rw [mulX_l (by decide), bind_ok', bind_ok', bind_ok', bind_ok', ew]
    exact values_ok hd hdl (by omega) (by omega) (by omega))
  refine okB rules (by rw [gd _ (by decide) (by decide), bind_ok', md _ _ (by decide), bind_ok', rngX_b (by decide) (by omega) (by decide) (by omega), bind_ok']; exact er) ?_
  obtain ⟨rows, eo, lo, go⟩ := comp_get (fun r => GW (s + p) r) (l := rangeL 0 (1 + (dv dr 2).fmod 4)) (f := fun a971 => (Xc.bind (Xc.bind (Xc.bind (Xc.bind (mulX (7 : Int) a971) fun t972 => (Xc.ok ((31 : Int) + t972))) fun t973 => (Xc.ok (t973, (((s : Int) + (p : Int)), ())))) fun t974 => (Xc.ok (dr, t974))) fun t975 => (m__law_values t975))) (fun a m => by
    have ma := rangeL_mem m
    rw [mulX_l (by decide), bind_ok', bind_ok', bind_ok', bind_ok', ew]
    exact values_ok hd hdl (by omega) (by omega) (by omega))
  refine okB rows (by rw [gd _ (by decide) (by decide), bind_ok', md _ _ (by decide), bind_ok', bind_ok', rngX_b (by decide) (by omega) (by decide) (by omega), bind_ok']; exact eo) ?_
  rw [rangeL_len] at lr lo
  obtain ⟨cost, ec, gc⟩ := values_ok (at_ := 3) (w := s + p) hd hdl (by decide) (by decide) (by omega)
  obtain ⟨aim, ea, ga⟩ := values_ok (at_ := 11) (w := s + p) hd hdl (by decide) (by decide) (by omega)
  obtain ⟨t, ht⟩ : ∃ t : S49, t = ⟨s, p, cost, rules, aim, rows⟩ := ⟨_, rfl⟩
  have g : G49 t := by
    subst ht
    exact ⟨by show 1 ≤ s ∧ s ≤ 3; omega, by show 1 ≤ p ∧ p ≤ 3; omega, gc, gr, ga, go, by show rules.length ≤ 4; omega, by show 1 ≤ rows.length ∧ rows.length ≤ 4; omega⟩
  refine okB t.mod (by
    rw [datX_ok (by decide), bind_ok', datX_ok (by decide), bind_ok', ew, ec, bind_ok', datX_ok (by decide), bind_ok', datX_ok (by decide), bind_ok', ea, bind_ok', datX_ok (by decide), bind_ok', datX_ok (by decide), bind_ok', bind_ok', bind_ok', bind_ok', bind_ok', bind_ok', bind_ok', szX_b (by simp), ht]
    rfl) ?_
  have lcost : cost.length ≤ 1000 := gw_len gc (by omega)
  have laim : aim.length ≤ 1000 := gw_len ga (by omega)
  refine okB t.tk (by
    have h2 : getX t.mod 2 = .ok (ToD.d cost) := by rw [m2, ht]
    have h4 : getX t.mod 4 = .ok (ToD.d aim) := by rw [m4, ht]
    rw [h2, bind_ok', asD_LI lcost, bind_ok', bind_ok', function_ok gc, bind_ok', funcs_ok gr, bind_ok', bind_ok', h4, bind_ok', asD_LI laim, bind_ok', bind_ok', function_ok ga, bind_ok', funcs_ok go, bind_ok', bind_ok', bind_ok', bind_ok', bind_ok', bind_ok', bind_ok', bind_ok']
    have hi := init_good g
    rw [ht] at hi ⊢
    exact hi) ?_
  refine okB false (by rw [same_ok g, bind_ok']; rfl) ?_
  rw [if_neg (by decide), rngX_b (by decide) (by decide) (by decide) (by decide), bind_ok']
  refine forK_ct (P := fun x => ∃ u : S49, G49 u ∧ u.s = s ∧ u.p = p ∧ x = (ns, (dr, ((s : Int), ((p : Int), (((s : Int) + (p : Int)), (rules, (rows, (u.mod, (u.tk, ()))))))))))
    ⟨t, g, by rw [ht], by rw [ht], rfl⟩ (fun x a m hx => ?_) fun g' _ => rfl
  · obtain ⟨u, gu, hus, hup, rfl⟩ := hx
    have ma := rangeL_mem m
    have L1 : ∃ d, getX [("put" : Str), ("insert" : Str), ("remove" : Str), ("insert" : Str), ("remove" : Str), ("put" : Str), ("push" : Str), ("puts" : Str)] ((dv dr (10 + 8 * a)).fmod 8) = .ok d ∧ WS d := by
      have r := mod_range (a := dv dr (10 + 8 * a)) (m := 8) (by decide)
      obtain ⟨d, ed, md, _⟩ := getX_ex (l := [("put" : Str), ("insert" : Str), ("remove" : Str), ("insert" : Str), ("remove" : Str), ("put" : Str), ("push" : Str), ("puts" : Str)]) (i := (dv dr (10 + 8 * a)).fmod 8) r.1 r.2
      refine ⟨d, ed, ws_known ?_⟩
      simp only [List.mem_cons, List.not_mem_nil, or_false] at md ⊢
      rcases md with h | h | h | h | h | h | h | h <;> simp [h]
    have L2 : ∃ d, getX [("rules" : Str), ("rows" : Str), ("rules" : Str), ("rows" : Str), ("cost" : Str), ("aim" : Str), ("row" : Str), ("rules " : Str)] ((dv dr (11 + 8 * a)).fmod 8) = .ok d ∧ WS d := by
      have r := mod_range (a := dv dr (11 + 8 * a)) (m := 8) (by decide)
      obtain ⟨d, ed, md, _⟩ := getX_ex (l := [("rules" : Str), ("rows" : Str), ("rules" : Str), ("rows" : Str), ("cost" : Str), ("aim" : Str), ("row" : Str), ("rules " : Str)]) (i := (dv dr (11 + 8 * a)).fmod 8) r.1 r.2
      refine ⟨d, ed, ws_known ?_⟩
      simp only [List.mem_cons, List.not_mem_nil, or_false] at md ⊢
      rcases md with h | h | h | h | h | h | h | h <;> simp [h]
    obtain ⟨deed, ed, wd⟩ := L1
    obtain ⟨part, ep, wp⟩ := L2
    have l3 : (Xc.bind (Xc.bind (getX u.mod (3 : Int)) fun t1140 => (asSq t1140)) fun t1141 => (Xc.ok ((HasLen.len t1141 : Nat) : Int))) = .ok ((u.rules.length : Nat) : Int) := by
      rw [m3, bind_ok', asSq_LLI (by have := gu.rl; omega), bind_ok', hlenSq, List.length_map]
    have l5 : (Xc.bind (Xc.bind (getX u.mod (5 : Int)) fun t1146 => (asSq t1146)) fun t1147 => (Xc.ok ((HasLen.len t1147 : Nat) : Int))) = .ok ((u.rows.length : Nat) : Int) := by
      rw [m5, bind_ok', asSq_LLI (by have := gu.r1; omega), bind_ok', hlenSq, List.length_map]
    have bu := gu.rl
    have bo := gu.r1
    have rw1 := mod_range (a := dv dr (14 + 8 * a)) (m := 8) (by decide)
    obtain ⟨v, hv, hv7⟩ : ∃ v : Nat, (s : Int) + (p : Int) + (if decide ((dv dr (14 + 8 * a)).fmod 8 = 3) = true then (1 : Int) else 0) = (v : Int) ∧ v ≤ 7 := by
      by_cases q : (dv dr (14 + 8 * a)).fmod 8 = 3
      · exact ⟨s + p + 1, by rw [if_pos (decide_eq_true q)]; omega, by omega⟩
      · exact ⟨s + p, by rw [if_neg (by simpa using q)]; omega, by omega⟩
    obtain ⟨row, erow, grow⟩ := values_ok (at_ := 13 + 8 * a) (w := v) hd hdl (by omega) (by omega) (by omega)
    obtain ⟨last, hlast, hlb⟩ : ∃ last : Int, last = (if part = ("rows" : Str) then ((u.rows.length : Nat) : Int) else ((u.rules.length : Nat) : Int)) ∧ (0 ≤ last ∧ last ≤ 4) := ⟨_, rfl, by split <;> omega⟩
    obtain ⟨at_, hat⟩ : ∃ at_ : Int, at_ = (dv dr (12 + 8 * a)).fmod (last + 3) - 1 := ⟨_, rfl⟩
    obtain ⟨fin, hfin⟩ : ∃ fin : S49, fin = (match out u deed part at_ row with | .inl _ => u | .inr t' => t') := ⟨_, rfl⟩
    have gfin : G49 fin ∧ fin.s = s ∧ fin.p = p := by
      cases ho : out u deed part at_ row with
      | inl kx => rw [ho] at hfin; subst hfin; exact ⟨gu, hus, hup⟩
      | inr t' =>
        rw [ho] at hfin; subst hfin
        have := out_good gu grow ho
        exact ⟨this.1, by rw [this.2.1, hus], by rw [this.2.2, hup]⟩
    refine ⟨(ns, (dr, ((s : Int), ((p : Int), (((s : Int) + (p : Int)), (rules, (rows, (fin.mod, (fin.tk, ()))))))))), ?_, fin, gfin.1, gfin.2.1, gfin.2.2, rfl⟩
    refine okB (dv dr (10 + 8 * a)) (by rw [ml, bind_ok', bind_ok', gd _ (by omega) (by omega)]) ?_
    refine okB deed (by rw [szX_b (by simp), bind_ok', md _ _ (by decide), bind_ok', ed]) ?_
    refine okB part (by rw [szX_b (by simp), bind_ok', ml, bind_ok', bind_ok', gd _ (by omega) (by omega), bind_ok', md _ _ (by decide), bind_ok', ep]) ?_
    refine okB _ l3 ?_
    refine okB (ns, (dr, ((s : Int), ((p : Int), (((s : Int) + (p : Int)), (rules, (rows, (u.mod, (u.tk, (a, ((dv dr (10 + 8 * a)), (deed, (part, (last, ())))))))))))))) (by
      by_cases q : part = ("rows" : Str)
      · rw [if_pos (decide_eq_true q), hlast, if_pos q]
        refine (congrArg (fun m => Xc.bind m _) l5).trans ?_
        rfl
      · rw [if_neg (by simpa using q), hlast, if_neg q]) ?_
    dsimp only
    refine okB at_ (by rw [ml, bind_ok', bind_ok', gd _ (by omega) (by omega), bind_ok', md _ _ (by omega), bind_ok', hat]) ?_
    refine okB row (by
      rw [ml, bind_ok', bind_ok', bind_ok', bind_ok', gd _ (by omega) (by omega), bind_ok', md _ _ (by decide), bind_ok', bind_ok', bind_ok', bind_ok', bind_ok', bind_ok', bind_ok', hv]
      exact erow) ?_
    refine okB _ (due_ok gu wp wd grow hv7) ?_
    refine okB _ (by rw [edit_ok wd wp grow, bind_ok', bind_ok', bind_ok', told_ok gu wd wp]) ?_
    refine okB false (by rw [same_ok gu, bind_ok']; rfl) ?_
    rw [if_neg (by decide)]
    cases ho : out u deed part at_ row with
    | inl kx =>
      rw [ho] at hfin
      dsimp only at hfin
      subst hfin
      obtain ⟨w1, w2⟩ := out_ws wd wp kx ho
      unfold dueR
      dsimp only
      show (if true = true then _ else _) = _
      rw [if_pos rfl]
      have c : (!(Sum.elim (fun _ : Ty_Task => false) (optB false (fun _ : Str × Str => true))) (Sum.inr (some kx))) = false := rfl
      rw [c, if_neg (by decide), unR_inr, bind_ok', someX_ok, bind_ok', unL_inl, bind_ok', eqd_pair w1 w2, bind_ok', bind_ok', if_neg (by decide)]
    | inr t' =>
      rw [ho] at hfin
      dsimp only at hfin
      subst hfin
      have g2 := gfin.1
      unfold dueR
      dsimp only
      show (if false = true then _ else _) = _
      rw [if_neg (by decide), unR_inr, bind_ok', bind_ok', bind_ok', same_ok g2, bind_ok', bind_ok', Bool.not_true, if_neg (by decide), unL_inl, bind_ok', mkT_eq gu g2, bind_ok', bind_ok', mod_eq, bind_ok', decide_eq_true rfl, Bool.not_true, bind_ok', if_neg (by decide), bind_ok', mkT_eq g2 gu, nerX_ok, bind_ok', bind_ok', bind_ok', mod_eq, bind_ok', bind_ok', bind_ok']
      have c : (!decide ((!decide (fin = u)) = (!decide (u = fin)))) = false := by
        rw [show decide (fin = u) = decide (u = fin) from decide_eq_decide.mpr eq_comm]
        simp
      rw [c, if_neg (by decide), bind_ok', bind_ok']
end LW

namespace LW
open PySem L2 FL
def dA (x : Str) (i : Nat) : He5.DefA := ⟨fun K => He.ga K x, x, x, defArgs (top i), defBody (top i), defScope (top i), [], []⟩
def dM (C m qn : Str) (st : Stmt) (dv : List He.Dv) : He5.DefA := ⟨fun K => He.ma K (He.ga K C) m, m, qn, defArgs st, defBody st, defScope st, dv, []⟩
def dS (C m qn : Str) (st : Stmt) : He5.DefA := ⟨fun K => He5.wf K (He.ga K C) "staticmethod" m, m, qn, defArgs st, defBody st, defScope st, [], []⟩
def fnL : List He5.DefA := [dA "common_divisor" 20, dM "Affine" "__init__" "Affine.__init__" mt_Affine___init__ [.int 1], dM "Affine" "__eq__" "Affine.__eq__" mt_Affine___eq__ [], dA "_check" 8, dA "_all_fit" 9, dM "Task" "__init__" "Task.__init__" mt_Task___init__ [], dM "Task" "__eq__" "Task.__eq__" mt_Task___eq__ [], dA "_deed" 13, dA "_changed" 14, dA "_value" 15, dA "edited_task" 16, dA "_law_draws" 24, dA "_law_gcd" 25, dA "_law_values" 26, dA "_law_function" 27, dA "_law_read" 28, dA "_law_same" 29, dA "_law_due" 30, dA "_law_edit" 31, dA "_law_told" 32, dA "law" 33]
def faL : List He.Fa := [.glo "common_divisor", .glo "_check", .glo "_all_fit", .glo "_deed", .glo "_changed", .glo "_value", .glo "edited_task", .glo "_law_draws", .glo "_law_gcd", .glo "_law_values", .glo "_law_function", .glo "_law_read", .glo "_law_same", .glo "_law_due", .glo "_law_edit", .glo "_law_told", .glo "law", .glo "Affine", .cls "Affine", .mkr "Affine", .glo "Task", .cls "Task", .mkr "Task", .noat "Affine" "bottom", .noat "Affine" "coefs", .noat "Affine" "constant", .noat "Affine" "size", .noat "Task" "aim", .noat "Task" "cost", .noat "Task" "replies", .noat "Task" "rows", .noat "Task" "rules", .noat "Task" "size", .meth "Affine" "__eq__", .meth "Task" "__eq__", .free "abs", .free "all", .free "int", .free "isinstance", .free "len", .free "list", .free "range", .free "tuple", .glo "BadNumber", .glo "BadShape", .glo "DEEDS", .glo "LeaderError", .glo "UnknownName", .exc "BadNumber", .exm "BadShape" "BadShape" true, .exm "UnknownName" "UnknownName" true]
abbrev RR : PySem.W.OpenRow := PySem.W.OpenLaw.row PySem.Challenge.rw_leadersets_k49_edits_of_tasks
def exL (K : PySem.W.Frag) : Bool := (He.eqO (PySem.W.nsIn K mainGlobals "gcd") (some (some (.builtin "math.gcd")))) && ((excCB K (He.ga K "BadShape")) && ((excCB K (He.ga K "UnknownName")) && ((decide (PySem.W.kitOne K (.ref (He.ga K "BadShape")) (.ref (He.ga K "LeaderError")) = some true)) && ((decide (PySem.W.kitOne K (.ref (He.ga K "BadShape")) (.ref (He.ga K "UnknownName")) = some false)) && ((decide (PySem.W.kitOne K (.ref (He.ga K "UnknownName")) (.ref (He.ga K "BadShape")) = some false)) && ((decide (PySem.W.kitOne K (.ref (He.ga K "UnknownName")) (.ref (He.ga K "LeaderError")) = some true)) && ((isiB K "Affine") && ((isiB K "Task") && ((decide (PySem.W.kitOne K (.ref (He.ga K "Affine")) (.ref (He.ga K "Affine")) = some true)) && ((decide (PySem.W.kitOne K (.type "NoneType") (.ref (He.ga K "Task")) = some false)) && ((decide (PySem.W.kitOne K (.ref (He.ga K "Task")) (.ref (He.ga K "Task")) = some true)) && ((decide (PySem.W.kitOne K (.type "tuple") (.ref (He.ga K "Task")) = some false)) && ((tupSB K (He.ga K "DEEDS") [("put" : Str), ("insert" : Str), ("remove" : Str)]) && ((neB K (He.ga K "Task")) && ((xfB K (He.ga K "BadShape")) && ((xfB K (He.ga K "UnknownName")) && ((decide (PySem.W.findIn K (.ref (He.ga K "BadShape")) "part" = some none)) && ((decide (PySem.W.findIn K (.ref (He.ga K "UnknownName")) "name" = some none)) && ((decide (PySem.W.exmOne K (.ref (He.ga K "BadShape")) (.ref (He.ga K "UnknownName")) = some false)) && ((decide (PySem.W.exmOne K (.ref (He.ga K "UnknownName")) (.ref (He.ga K "BadShape")) = some false)) && ((decide (PySem.W.kitOne K (.ref (He.ga K "Task")) (.type "tuple") = some false)) && ((supB K RR.prog.main.file "BadShape" "part" "BadShape.__init__") && ((supB K RR.prog.main.file "UnknownName" "name" "UnknownName.__init__") && ((readB K "Task") && ((conB K "Task" "REPLIES" 3) && ((conB K "Task" "ROWS" 4) && ((conB K "Task" "RULES" 4) && ((conB K "Task" "SIZE" 3) && (true)))))))))))))))))))))))))))))
def supL : List SupD := [⟨"BadShape", "part", "BadShape.__init__", defArgs mt_BadShape___init__, defBody mt_BadShape___init__, defScope mt_BadShape___init__⟩, ⟨"UnknownName", "name", "UnknownName.__init__", defArgs mt_UnknownName___init__, defBody mt_UnknownName___init__, defScope mt_UnknownName___init__⟩]
abbrev hkL : PySem.W.Hook := hookS 5 faL fnL supL exL
def obL (s : PySem.W.SharedT) : (He.AlD × Bool) × List FnS := obsS 5 faL fnL supL exL (HandSHeadRun.getT s)
theorem obL_eq (s : PySem.W.SharedT) : obL s = hkL.obs s.abs := obsS_eq (HandSHeadRun.getT_eq s)
def looseL : List PySem.Str := ((["_wall", "__name__", "LeaderError", "BadNumber", "BadShape", "UnknownName", "_check", "_all_fit", "Task", "DEEDS", "_deed", "_changed", "_value", "edited_task", "ratio", "common_divisor", "Affine", "_law_draws", "_law_gcd", "_law_values", "_law_function", "_law_read", "_law_same", "_law_due", "_law_edit", "_law_told"] : List String).map PySem.Str.ofString)
theorem runL (w : World) : HandSHeadRun.RunEqI RR (PySem.W.view RR.prog [0, 33]) hkL obL 9000 looseL w := by
  unfold HandSHeadRun.RunEqI
  kernel_rfl
theorem t0L {K : PySem.W.Frag} {h : Heap} {mg : Str → Option Value} (X : K.In h) (G : h.Ns mainGlobals mg) (c : He5.SaysA faL fnL K) (ce : exL K = true) : T0 K mg where
  f_abs := He.free_ok X G (c.fact 35 (f := .free "abs") rfl)
  f_all := He.free_ok X G (c.fact 36 (f := .free "all") rfl)
  f_int := He.free_ok X G (c.fact 37 (f := .free "int") rfl)
  f_isinstance := He.free_ok X G (c.fact 38 (f := .free "isinstance") rfl)
  f_len := He.free_ok X G (c.fact 39 (f := .free "len") rfl)
  f_list := He.free_ok X G (c.fact 40 (f := .free "list") rfl)
  f_range := He.free_ok X G (c.fact 41 (f := .free "range") rfl)
  f_tuple := He.free_ok X G (c.fact 42 (f := .free "tuple") rfl)
  g_Affine := He.glo_ok X G (c.fact 17 (f := .glo "Affine") rfl)
  g_BadShape := He.glo_ok X G (c.fact 44 (f := .glo "BadShape") rfl)
  g_DEEDS := He.glo_ok X G (c.fact 45 (f := .glo "DEEDS") rfl)
  g_LeaderError := He.glo_ok X G (c.fact 46 (f := .glo "LeaderError") rfl)
  g_Task := He.glo_ok X G (c.fact 20 (f := .glo "Task") rfl)
  g_UnknownName := He.glo_ok X G (c.fact 47 (f := .glo "UnknownName") rfl)
  x_BadNumber := ⟨(He.exc_ok (c.fact 48 (f := .exc "BadNumber") rfl)).1, (He.exc_ok (c.fact 48 (f := .exc "BadNumber") rfl)).2.1, (He.exc_ok (c.fact 48 (f := .exc "BadNumber") rfl)).2.2.1, (He.exc_ok (c.fact 48 (f := .exc "BadNumber") rfl)).2.2.2, He.glo_ok X G (c.fact 43 (f := .glo "BadNumber") rfl)⟩
  cl_Affine := He.cls_ok (c.fact 18 (f := .cls "Affine") rfl)
  cl_Task := He.cls_ok (c.fact 21 (f := .cls "Task") rfl)
  na_Affine_bottom := He.noat_ok (c.fact 23 (f := .noat "Affine" "bottom") rfl)
  na_Affine_coefs := He.noat_ok (c.fact 24 (f := .noat "Affine" "coefs") rfl)
  na_Affine_constant := He.noat_ok (c.fact 25 (f := .noat "Affine" "constant") rfl)
  na_Affine_size := He.noat_ok (c.fact 26 (f := .noat "Affine" "size") rfl)
  na_Task_aim := He.noat_ok (c.fact 27 (f := .noat "Task" "aim") rfl)
  na_Task_cost := He.noat_ok (c.fact 28 (f := .noat "Task" "cost") rfl)
  na_Task_replies := He.noat_ok (c.fact 29 (f := .noat "Task" "replies") rfl)
  na_Task_rows := He.noat_ok (c.fact 30 (f := .noat "Task" "rows") rfl)
  na_Task_rules := He.noat_ok (c.fact 31 (f := .noat "Task" "rules") rfl)
  na_Task_size := He.noat_ok (c.fact 32 (f := .noat "Task" "size") rfl)
  me_Affine___eq__ := He.meth_ok (c.fact 33 (f := .meth "Affine" "__eq__") rfl)
  me_Task___eq__ := He.meth_ok (c.fact 34 (f := .meth "Task" "__eq__") rfl)
  m_BadShape_BadShape := He.exm_ok (c.fact 49 (f := .exm "BadShape" "BadShape" true) rfl)
  m_UnknownName_UnknownName := He.exm_ok (c.fact 50 (f := .exm "UnknownName" "UnknownName" true) rfl)
  gcd := mg_fact X G (He.ba ce).1
  e_BadShape := excCB_ok (He.ba (He.ba ce).2).1
  e_UnknownName := excCB_ok (He.ba (He.ba (He.ba ce).2).2).1
  k_BadShape_LeaderError := of_decide_eq_true (He.ba (He.ba (He.ba (He.ba ce).2).2).2).1
  k_BadShape_UnknownName := of_decide_eq_true (He.ba (He.ba (He.ba (He.ba (He.ba ce).2).2).2).2).1
  k_UnknownName_BadShape := of_decide_eq_true (He.ba (He.ba (He.ba (He.ba (He.ba (He.ba ce).2).2).2).2).2).1
  k_UnknownName_LeaderError := of_decide_eq_true (He.ba (He.ba (He.ba (He.ba (He.ba (He.ba (He.ba ce).2).2).2).2).2).2).1
  isi_Affine := isiB_ok (He.cls_ok (c.fact 18 (f := .cls "Affine") rfl)) (He.ba (He.ba (He.ba (He.ba (He.ba (He.ba (He.ba (He.ba ce).2).2).2).2).2).2).2).1
  isi_Task := isiB_ok (He.cls_ok (c.fact 21 (f := .cls "Task") rfl)) (He.ba (He.ba (He.ba (He.ba (He.ba (He.ba (He.ba (He.ba (He.ba ce).2).2).2).2).2).2).2).2).1
  ki_Affine_Affine := of_decide_eq_true (He.ba (He.ba (He.ba (He.ba (He.ba (He.ba (He.ba (He.ba (He.ba (He.ba ce).2).2).2).2).2).2).2).2).2).1
  ki_NoneType_Task := of_decide_eq_true (He.ba (He.ba (He.ba (He.ba (He.ba (He.ba (He.ba (He.ba (He.ba (He.ba (He.ba ce).2).2).2).2).2).2).2).2).2).2).1
  ki_Task_Task := of_decide_eq_true (He.ba (He.ba (He.ba (He.ba (He.ba (He.ba (He.ba (He.ba (He.ba (He.ba (He.ba (He.ba ce).2).2).2).2).2).2).2).2).2).2).2).1
  ki_tuple_Task := of_decide_eq_true (He.ba (He.ba (He.ba (He.ba (He.ba (He.ba (He.ba (He.ba (He.ba (He.ba (He.ba (He.ba (He.ba ce).2).2).2).2).2).2).2).2).2).2).2).2).1
  tp_DEEDS := (He.ba (He.ba (He.ba (He.ba (He.ba (He.ba (He.ba (He.ba (He.ba (He.ba (He.ba (He.ba (He.ba (He.ba ce).2).2).2).2).2).2).2).2).2).2).2).2).2).1
  ne_Task := neB_ok (He.ba (He.ba (He.ba (He.ba (He.ba (He.ba (He.ba (He.ba (He.ba (He.ba (He.ba (He.ba (He.ba (He.ba (He.ba ce).2).2).2).2).2).2).2).2).2).2).2).2).2).2).1
  xc_BadShape := xfB_ok (He.ba (He.ba (He.ba (He.ba (He.ba (He.ba (He.ba (He.ba (He.ba (He.ba (He.ba (He.ba (He.ba (He.ba (He.ba (He.ba ce).2).2).2).2).2).2).2).2).2).2).2).2).2).2).2).1
  xc_UnknownName := xfB_ok (He.ba (He.ba (He.ba (He.ba (He.ba (He.ba (He.ba (He.ba (He.ba (He.ba (He.ba (He.ba (He.ba (He.ba (He.ba (He.ba (He.ba ce).2).2).2).2).2).2).2).2).2).2).2).2).2).2).2).2).1
  nf_BadShape_part := of_decide_eq_true (He.ba (He.ba (He.ba (He.ba (He.ba (He.ba (He.ba (He.ba (He.ba (He.ba (He.ba (He.ba (He.ba (He.ba (He.ba (He.ba (He.ba (He.ba ce).2).2).2).2).2).2).2).2).2).2).2).2).2).2).2).2).2).1
  nf_UnknownName_name := of_decide_eq_true (He.ba (He.ba (He.ba (He.ba (He.ba (He.ba (He.ba (He.ba (He.ba (He.ba (He.ba (He.ba (He.ba (He.ba (He.ba (He.ba (He.ba (He.ba (He.ba ce).2).2).2).2).2).2).2).2).2).2).2).2).2).2).2).2).2).2).1
  mf_BadShape_UnknownName := of_decide_eq_true (He.ba (He.ba (He.ba (He.ba (He.ba (He.ba (He.ba (He.ba (He.ba (He.ba (He.ba (He.ba (He.ba (He.ba (He.ba (He.ba (He.ba (He.ba (He.ba (He.ba ce).2).2).2).2).2).2).2).2).2).2).2).2).2).2).2).2).2).2).2).1
  mf_UnknownName_BadShape := of_decide_eq_true (He.ba (He.ba (He.ba (He.ba (He.ba (He.ba (He.ba (He.ba (He.ba (He.ba (He.ba (He.ba (He.ba (He.ba (He.ba (He.ba (He.ba (He.ba (He.ba (He.ba (He.ba ce).2).2).2).2).2).2).2).2).2).2).2).2).2).2).2).2).2).2).2).2).1
  kb_Task_tuple := of_decide_eq_true (He.ba (He.ba (He.ba (He.ba (He.ba (He.ba (He.ba (He.ba (He.ba (He.ba (He.ba (He.ba (He.ba (He.ba (He.ba (He.ba (He.ba (He.ba (He.ba (He.ba (He.ba (He.ba ce).2).2).2).2).2).2).2).2).2).2).2).2).2).2).2).2).2).2).2).2).2).1
  rd_Task := readB_ok (He.ba (He.ba (He.ba (He.ba (He.ba (He.ba (He.ba (He.ba (He.ba (He.ba (He.ba (He.ba (He.ba (He.ba (He.ba (He.ba (He.ba (He.ba (He.ba (He.ba (He.ba (He.ba (He.ba (He.ba (He.ba ce).2).2).2).2).2).2).2).2).2).2).2).2).2).2).2).2).2).2).2).2).2).2).2).2).1
  cc_Task_REPLIES := conB_ok (He.ba (He.ba (He.ba (He.ba (He.ba (He.ba (He.ba (He.ba (He.ba (He.ba (He.ba (He.ba (He.ba (He.ba (He.ba (He.ba (He.ba (He.ba (He.ba (He.ba (He.ba (He.ba (He.ba (He.ba (He.ba (He.ba ce).2).2).2).2).2).2).2).2).2).2).2).2).2).2).2).2).2).2).2).2).2).2).2).2).2).1
  cc_Task_ROWS := conB_ok (He.ba (He.ba (He.ba (He.ba (He.ba (He.ba (He.ba (He.ba (He.ba (He.ba (He.ba (He.ba (He.ba (He.ba (He.ba (He.ba (He.ba (He.ba (He.ba (He.ba (He.ba (He.ba (He.ba (He.ba (He.ba (He.ba (He.ba ce).2).2).2).2).2).2).2).2).2).2).2).2).2).2).2).2).2).2).2).2).2).2).2).2).2).2).1
  cc_Task_RULES := conB_ok (He.ba (He.ba (He.ba (He.ba (He.ba (He.ba (He.ba (He.ba (He.ba (He.ba (He.ba (He.ba (He.ba (He.ba (He.ba (He.ba (He.ba (He.ba (He.ba (He.ba (He.ba (He.ba (He.ba (He.ba (He.ba (He.ba (He.ba (He.ba ce).2).2).2).2).2).2).2).2).2).2).2).2).2).2).2).2).2).2).2).2).2).2).2).2).2).2).2).1
  cc_Task_SIZE := conB_ok (He.ba (He.ba (He.ba (He.ba (He.ba (He.ba (He.ba (He.ba (He.ba (He.ba (He.ba (He.ba (He.ba (He.ba (He.ba (He.ba (He.ba (He.ba (He.ba (He.ba (He.ba (He.ba (He.ba (He.ba (He.ba (He.ba (He.ba (He.ba (He.ba ce).2).2).2).2).2).2).2).2).2).2).2).2).2).2).2).2).2).2).2).2).2).2).2).2).2).2).2).2).1
theorem factsL {P : Program} {w : World} {K : PySem.W.Frag} {h : Heap} {mg : Str → Option Value} {f : Addr} (X : K.In h) (G : h.Ns mainGlobals mg) (hfa : mg ("law" : Str) = some (.ref f)) (c : He5.SaysA faL fnL K) (ce : exL K = true) (cs : (supL.map fun d => fnS K (d.at_ K)) = supL.map SupD.val) (hPm : P.main = RR.prog.main) :
    ∃ fd : FuncData, (∀ (s : Shared) (v : Value), BindsTo s fd ⟨[v], []⟩ [(("script" : Str), v)]) ∧ ∀ base : Heap, K.In base → base.Ns mainGlobals mg → FnOk P w K mg base (L2.CX P w) 8 f fd ["script"] (spF K (rtF Bool) m_law) := by
  have T := t0L X G c ce
  obtain ⟨fd, F⟩ := c.def_ 20 (d := dA "law" 33) rfl
  have e := hfa.symm.trans (He.glo_ok X G (c.fact 16 (f := .glo "law") rfl))
  cases e
  have b := FunD.bindsA (ps := ["script"]) F fun _ _ _ _ _ _ us hl => match us, hl with | [_], _ => rfl
  refine ⟨fd, fun s v => b s [v] rfl, fun base _ _ => ?_⟩
  obtain ⟨cda_BadShape___init__, cc_BadShape___init__, _, _, _, _, _, _, _, _, lk_BadShape___init__, hcd_BadShape___init__, SC_BadShape___init__, hno_BadShape___init__, hi_BadShape___init__, ht_BadShape___init__, hs_BadShape___init__⟩ := sup_of (P := P) (d := ⟨"BadShape", "part", "BadShape.__init__", defArgs mt_BadShape___init__, defBody mt_BadShape___init__, defScope mt_BadShape___init__⟩) (SaysS.at_ (fa := faL) (fn := fnL) (ex := exL) ⟨⟨c, ce⟩, cs⟩ 0) (He.ba (He.ba (He.ba (He.ba (He.ba (He.ba (He.ba (He.ba (He.ba (He.ba (He.ba (He.ba (He.ba (He.ba (He.ba (He.ba (He.ba (He.ba (He.ba (He.ba (He.ba (He.ba (He.ba ce).2).2).2).2).2).2).2).2).2).2).2).2).2).2).2).2).2).2).2).2).2).2).1 (by rw [hPm]) (by rw [hPm]; kernel_rfl)
  have D_BadShape___init__ : Xf P w K mg base "BadShape" "part" 1 m_BadShape___init__ := ⟨SC_BadShape___init__.oex, ⟨_, _, _, hi_BadShape___init__, ht_BadShape___init__, fn_supx (fl := "part") (self := "self") (p := "part") (e := supE mt_BadShape___init__) lk_BadShape___init__ hcd_BadShape___init__ ⟨rfl, rfl, rfl, by decide +kernel, by decide +kernel, by decide +kernel, by decide +kernel, rfl, rfl⟩ SC_BadShape___init__ (PySem.W.mg_none_of X G hs_BadShape___init__) rfl rfl hno_BadShape___init__ (fun A outer s H E c => d_BadShape___init__ T A outer s H E c), Binds.all fun us hl => match us, hl with | [_, _], _ => rfl⟩, He.glo_ok X G (c.fact 44 (f := .glo "BadShape") rfl)⟩
  obtain ⟨cda_UnknownName___init__, cc_UnknownName___init__, _, _, _, _, _, _, _, _, lk_UnknownName___init__, hcd_UnknownName___init__, SC_UnknownName___init__, hno_UnknownName___init__, hi_UnknownName___init__, ht_UnknownName___init__, hs_UnknownName___init__⟩ := sup_of (P := P) (d := ⟨"UnknownName", "name", "UnknownName.__init__", defArgs mt_UnknownName___init__, defBody mt_UnknownName___init__, defScope mt_UnknownName___init__⟩) (SaysS.at_ (fa := faL) (fn := fnL) (ex := exL) ⟨⟨c, ce⟩, cs⟩ 1) (He.ba (He.ba (He.ba (He.ba (He.ba (He.ba (He.ba (He.ba (He.ba (He.ba (He.ba (He.ba (He.ba (He.ba (He.ba (He.ba (He.ba (He.ba (He.ba (He.ba (He.ba (He.ba (He.ba (He.ba ce).2).2).2).2).2).2).2).2).2).2).2).2).2).2).2).2).2).2).2).2).2).2).2).1 (by rw [hPm]) (by rw [hPm]; kernel_rfl)
  have D_UnknownName___init__ : Xf P w K mg base "UnknownName" "name" 1 m_UnknownName___init__ := ⟨SC_UnknownName___init__.oex, ⟨_, _, _, hi_UnknownName___init__, ht_UnknownName___init__, fn_supx (fl := "name") (self := "self") (p := "name") (e := supE mt_UnknownName___init__) lk_UnknownName___init__ hcd_UnknownName___init__ ⟨rfl, rfl, rfl, by decide +kernel, by decide +kernel, by decide +kernel, by decide +kernel, rfl, rfl⟩ SC_UnknownName___init__ (PySem.W.mg_none_of X G hs_UnknownName___init__) rfl rfl hno_UnknownName___init__ (fun A outer s H E c => d_UnknownName___init__ T A outer s H E c), Binds.all fun us hl => match us, hl with | [_, _], _ => rfl⟩, He.glo_ok X G (c.fact 47 (f := .glo "UnknownName") rfl)⟩
  obtain ⟨fd_common_divisor_l, F_common_divisor_l⟩ := c.def_ 0 (d := dA "common_divisor" 20) rfl
  have D_common_divisor_l := dk_of F_common_divisor_l (He.glo_ok X G (c.fact 0 (f := .glo "common_divisor") rfl)) (F_common_divisor_l.bindsN fun _ _ _ _ _ _ us hl => match us, hl with | [_, _], _ => rfl) (d_common_divisor_l (P := P) (w := w) (base := base) F_common_divisor_l T)
  obtain ⟨fd_Affine___init___l, F_Affine___init___l⟩ := c.def_ 1 (d := dM "Affine" "__init__" "Affine.__init__" mt_Affine___init__ [.int 1]) rfl
  have D_Affine___init___l := di_of (C := "Affine") (dvs := []) (He.mkr_ok (c.fact 19 (f := .mkr "Affine") rfl)) (He.glo_ok X G (c.fact 17 (f := .glo "Affine") rfl)) (F_Affine___init___l.binds1 4 1 (List.cons_ne_nil _ _) rfl fun _ _ _ _ _ _ _ us its hu hi => match us, hu, its, hi with | [_, _, _, _], _, [_], _ => ⟨_, rfl, rfl⟩) (d_Affine___init___l (P := P) (w := w) (base := base) F_Affine___init___l T D_common_divisor_l)
  have D_Affine___init___l_D1 := di_of (C := "Affine") (dvs := [.int 1]) (He.mkr_ok (c.fact 19 (f := .mkr "Affine") rfl)) (He.glo_ok X G (c.fact 17 (f := .glo "Affine") rfl)) (F_Affine___init___l.binds1 3 0 (List.cons_ne_nil _ _) rfl fun _ _ _ _ _ _ _ us its hu hi => match us, hu, its, hi with | [_, _, _], _, [_], _ => ⟨_, rfl, rfl⟩) (d_Affine___init___l (P := P) (w := w) (base := base) F_Affine___init___l T D_common_divisor_l)
  obtain ⟨fd_Affine___eq__, F_Affine___eq__⟩ := c.def_ 2 (d := dM "Affine" "__eq__" "Affine.__eq__" mt_Affine___eq__ []) rfl
  have D_Affine___eq__ := dm_of (C := "Affine") (m := "__eq__") T.me_Affine___eq__ (F_Affine___eq__.bindsN fun _ _ _ _ _ _ us hl => match us, hl with | [_, _], _ => rfl) (d_Affine___eq__ (P := P) (w := w) (base := base) F_Affine___eq__ T)
  obtain ⟨fd__check, F__check⟩ := c.def_ 3 (d := dA "_check" 8) rfl
  have D__check := dk_of F__check (He.glo_ok X G (c.fact 1 (f := .glo "_check") rfl)) (F__check.bindsN fun _ _ _ _ _ _ us hl => match us, hl with | [_, _], _ => rfl) (d__check (P := P) (w := w) (base := base) F__check T D_BadShape___init__)
  obtain ⟨fd__all_fit, F__all_fit⟩ := c.def_ 4 (d := dA "_all_fit" 9) rfl
  have D__all_fit := dk_of F__all_fit (He.glo_ok X G (c.fact 2 (f := .glo "_all_fit") rfl)) (F__all_fit.bindsN fun _ _ _ _ _ _ us hl => match us, hl with | [_, _], _ => rfl) (d__all_fit (P := P) (w := w) (base := base) F__all_fit T)
  obtain ⟨fd_Task___init__, F_Task___init__⟩ := c.def_ 5 (d := dM "Task" "__init__" "Task.__init__" mt_Task___init__ []) rfl
  have D_Task___init__ := di_of (C := "Task") (dvs := []) (He.mkr_ok (c.fact 22 (f := .mkr "Task") rfl)) (He.glo_ok X G (c.fact 20 (f := .glo "Task") rfl)) ⟨[], .nil, F_Task___init__.bindsN fun _ _ _ _ _ _ us hl => match us, hl with | [_, _, _, _, _, _, _], _ => rfl⟩ (d_Task___init__ (P := P) (w := w) (base := base) F_Task___init__ T D__check D__all_fit)
  obtain ⟨fd_Task___eq__, F_Task___eq__⟩ := c.def_ 6 (d := dM "Task" "__eq__" "Task.__eq__" mt_Task___eq__ []) rfl
  have D_Task___eq__ := dm_of (C := "Task") (m := "__eq__") T.me_Task___eq__ (F_Task___eq__.bindsN fun _ _ _ _ _ _ us hl => match us, hl with | [_, _], _ => rfl) (d_Task___eq__ (P := P) (w := w) (base := base) F_Task___eq__ T D_Affine___eq__)
  obtain ⟨fd__deed, F__deed⟩ := c.def_ 7 (d := dA "_deed" 13) rfl
  have D__deed := dk_of F__deed (He.glo_ok X G (c.fact 3 (f := .glo "_deed") rfl)) (F__deed.bindsN fun _ _ _ _ _ _ us hl => match us, hl with | [_], _ => rfl) (d__deed (P := P) (w := w) (base := base) F__deed T D_UnknownName___init__)
  obtain ⟨fd__changed, F__changed⟩ := c.def_ 8 (d := dA "_changed" 14) rfl
  have D__changed := dk_of F__changed (He.glo_ok X G (c.fact 4 (f := .glo "_changed") rfl)) (F__changed.bindsN fun _ _ _ _ _ _ us hl => match us, hl with | [_, _, _, _], _ => rfl) (d__changed (P := P) (w := w) (base := base) F__changed T D_BadShape___init__)
  obtain ⟨fd__value, F__value⟩ := c.def_ 9 (d := dA "_value" 15) rfl
  have D__value := dk_of F__value (He.glo_ok X G (c.fact 5 (f := .glo "_value") rfl)) (F__value.bindsN fun _ _ _ _ _ _ us hl => match us, hl with | [_, _], _ => rfl) (d__value (P := P) (w := w) (base := base) F__value T)
  obtain ⟨fd_edited_task, F_edited_task⟩ := c.def_ 10 (d := dA "edited_task" 16) rfl
  have D_edited_task := dk_of F_edited_task (He.glo_ok X G (c.fact 6 (f := .glo "edited_task") rfl)) (F_edited_task.bindsN fun _ _ _ _ _ _ us hl => match us, hl with | [_, _], _ => rfl) (d_edited_task (P := P) (w := w) (base := base) F_edited_task T D__deed D__value D__changed D_UnknownName___init__ D_Task___init__)
  obtain ⟨fd__law_draws, F__law_draws⟩ := c.def_ 11 (d := dA "_law_draws" 24) rfl
  have D__law_draws := dk_of F__law_draws (He.glo_ok X G (c.fact 7 (f := .glo "_law_draws") rfl)) (F__law_draws.bindsN fun _ _ _ _ _ _ us hl => match us, hl with | [_, _], _ => rfl) (d__law_draws (P := P) (w := w) (base := base) F__law_draws T)
  obtain ⟨fd__law_gcd, F__law_gcd⟩ := c.def_ 12 (d := dA "_law_gcd" 25) rfl
  have D__law_gcd := dk_of F__law_gcd (He.glo_ok X G (c.fact 8 (f := .glo "_law_gcd") rfl)) (F__law_gcd.bindsN fun _ _ _ _ _ _ us hl => match us, hl with | [_, _], _ => rfl) (d__law_gcd (P := P) (w := w) (base := base) F__law_gcd T)
  obtain ⟨fd__law_values, F__law_values⟩ := c.def_ 13 (d := dA "_law_values" 26) rfl
  have D__law_values := dk_of F__law_values (He.glo_ok X G (c.fact 9 (f := .glo "_law_values") rfl)) (F__law_values.bindsN fun _ _ _ _ _ _ us hl => match us, hl with | [_, _, _], _ => rfl) (d__law_values (P := P) (w := w) (base := base) F__law_values T D__law_gcd)
  obtain ⟨fd__law_function, F__law_function⟩ := c.def_ 14 (d := dA "_law_function" 27) rfl
  have D__law_function := dk_of F__law_function (He.glo_ok X G (c.fact 10 (f := .glo "_law_function") rfl)) (F__law_function.bindsN fun _ _ _ _ _ _ us hl => match us, hl with | [_], _ => rfl) (d__law_function (P := P) (w := w) (base := base) F__law_function T D_Affine___init___l)
  obtain ⟨fd__law_read, F__law_read⟩ := c.def_ 15 (d := dA "_law_read" 28) rfl
  have D__law_read := dk_of F__law_read (He.glo_ok X G (c.fact 11 (f := .glo "_law_read") rfl)) (F__law_read.bindsN fun _ _ _ _ _ _ us hl => match us, hl with | [_], _ => rfl) (d__law_read (P := P) (w := w) (base := base) F__law_read T)
  obtain ⟨fd__law_same, F__law_same⟩ := c.def_ 16 (d := dA "_law_same" 29) rfl
  have D__law_same := dk_of F__law_same (He.glo_ok X G (c.fact 12 (f := .glo "_law_same") rfl)) (F__law_same.bindsN fun _ _ _ _ _ _ us hl => match us, hl with | [_, _], _ => rfl) (d__law_same (P := P) (w := w) (base := base) F__law_same T D__law_read D__law_function D_Task___init__ D_Task___eq__)
  obtain ⟨fd__law_due, F__law_due⟩ := c.def_ 17 (d := dA "_law_due" 30) rfl
  have D__law_due := dk_of F__law_due (He.glo_ok X G (c.fact 13 (f := .glo "_law_due") rfl)) (F__law_due.bindsN fun _ _ _ _ _ _ us hl => match us, hl with | [_, _, _, _, _], _ => rfl) (d__law_due (P := P) (w := w) (base := base) F__law_due T)
  obtain ⟨fd__law_edit, F__law_edit⟩ := c.def_ 18 (d := dA "_law_edit" 31) rfl
  have D__law_edit := dk_of F__law_edit (He.glo_ok X G (c.fact 14 (f := .glo "_law_edit") rfl)) (F__law_edit.bindsN fun _ _ _ _ _ _ us hl => match us, hl with | [_, _, _, _], _ => rfl) (d__law_edit (P := P) (w := w) (base := base) F__law_edit T D__law_function)
  obtain ⟨fd__law_told, F__law_told⟩ := c.def_ 19 (d := dA "_law_told" 32) rfl
  have D__law_told := dk_of F__law_told (He.glo_ok X G (c.fact 15 (f := .glo "_law_told") rfl)) (F__law_told.bindsN fun _ _ _ _ _ _ us hl => match us, hl with | [_, _], _ => rfl) (d__law_told (P := P) (w := w) (base := base) F__law_told T D_edited_task)
  exact d_law F T D__law_draws D__law_values D__law_function D_Task___init__ D__law_same D__law_due D__law_edit D__law_told D_Task___eq__
end LW
open PySem PySem.W PySem.Calls PyProof.Rows
theorem PySem.Challenge.cw_leadersets_k49_edits_of_tasks_holds : PySem.Challenge.rw_leadersets_k49_edits_of_tasks.Holds := by
  w_on; o_law
  refine HandSHeadRun.head_imp (r := OpenLaw.row PySem.Challenge.rw_leadersets_k49_edits_of_tasks) (q := view (OpenLaw.row PySem.Challenge.rw_leadersets_k49_edits_of_tasks).prog [0, 33]) (H := LW.hkL) (ob := LW.obL) (M := 9000) (loose := LW.looseL) (d := HandSHeadRun.topDef (OpenLaw.row PySem.Challenge.rw_leadersets_k49_edits_of_tasks).prog 33) (kwd := []) LW.obL_eq LW.runL (by kernel_rfl) (by kernel_rfl) (by kernel_rfl) (by rfl) (by first | assumption | decide +kernel) (by decide +kernel) ⟨rfl, rfl, rfl, rfl, rfl, by decide +kernel⟩ ?hw ?hc
  case hw => w_witness2
  case hc =>
    refine FL.walk_w (l := PySem.Challenge.rw_leadersets_k49_edits_of_tasks) (n := 63) (k := 8) (x := "script") (m := LW.m_law) rfl (by decide) (by kernel_rfl) ⟨rfl, by decide, by decide⟩ LW.law_true ?F
    intro w mg fa h Y G hmg0
    obtain ⟨K, KX, c⟩ := Y
    have hmg : mg ("law" : PySem.Str) = some (.ref fa) := by
      have e : (HandSHeadRun.topDef (OpenLaw.row PySem.Challenge.rw_leadersets_k49_edits_of_tasks).prog 33).name = ("law" : PySem.Str) := by kernel_rfl
      rw [← e]
      exact hmg0
    obtain ⟨fd, hb, hF⟩ := LW.factsL (P := (PySem.Challenge.rw_leadersets_k49_edits_of_tasks).prog) (w := w) KX G hmg c.a c.more c.sup rfl
    exact ⟨K, fd, KX, hb, hF⟩
