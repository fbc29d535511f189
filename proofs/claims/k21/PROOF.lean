import PyProof.Rows.All
import Wide.All
import OpenK.AllK
import Wide.FinOn
import HandS.ForMost
import HandS.ForExc
import HandS.Gcd
import HandS.IsInst
import HandS.Wide
import HandS.WideBits
import HandS.HeadHook1
import HandS.HeadHook2
import HandS.HeadHook3
import HandS.TupAny
import HandS.RaiseMore
import HandS.Defaults
import HandS.Zip
import HandS.Comp
import HandS.TryOnly
import HandS.ExcIs
import HandS.Conv
import PyProof.StrBlock2
import HandS.Head0
import HandS.Head1
import HandS.Head2
import HandS.Head3
import HandS.HeadEnd
import HandS.HeadHook4
import KE.KMathGC
import HandS.List
import HandS.Deep
import HandS.More
import KE.SortData
import KE.DataMinMax
import HandS.TupMul
import HandS.SlotsOwn
import KE.KOpsOwn
import KE.KCallOwn
import PyProof.PureInt
import HandS.HeadNt
import HandS.Dict
import KE.KDictZip
import PyProof.ListNew
import PyProof.P3Eq
import PySem.Challenge.RW_leadersets_k21_node_plans_told
set_option Elab.async false
set_option linter.all false
set_option maxRecDepth 100000
set_option maxHeartbeats 4000000
/-! FL1: typed readings: mirrors, representations, worlds, environments, expressions. -/
namespace FL
open PySem L2

/-! ### mirrors -/
/-- what a mirror gives: a value; an exception of the class named c with its fields; nothing (beyond what is covered) -/
inductive Xc (α : Type) where
  | ok (a : α)
  | er (c : Str) (fs : List (Str × V))
  | no
def Xc.bind {α β : Type} (m : Xc α) (k : α → Xc β) : Xc β := match m with
  | .ok a => k a
  | .er c fs => .er c fs
  | .no => .no
instance : Monad Xc where
  pure := .ok
  bind := Xc.bind
theorem bind_ok {α β : Type} (a : α) (k : α → Xc β) : Xc.bind (.ok a) k = k a := rfl
theorem bind_er {α β : Type} (c fs) (k : α → Xc β) : Xc.bind (.er c fs) k = .er c fs := rfl
theorem bind_no {α β : Type} (k : α → Xc β) : Xc.bind .no k = .no := rfl
theorem bind_assoc {α β γ : Type} (m : Xc α) (k : α → Xc β) (l : β → Xc γ) : (m.bind k).bind l = m.bind fun a => (k a).bind l := by cases m <;> rfl
theorem bind_pure {α : Type} (m : Xc α) : (m.bind fun a => .ok a) = m := by cases m <;> rfl
theorem mbind {α β : Type} (m : Xc α) (k : α → Xc β) : (m >>= k) = m.bind k := rfl
theorem mpure {α : Type} (a : α) : (pure a : Xc α) = .ok a := rfl
theorem bind_eq_ok {α β : Type} {m : Xc α} {k : α → Xc β} {b : β} : m.bind k = .ok b ↔ ∃ a, m = .ok a ∧ k a = .ok b := by
  cases m with
  | ok a =>
    constructor
    · intro h; exact ⟨a, rfl, h⟩
    · rintro ⟨_, e, h⟩; cases e; exact h
  | er c fs =>
    constructor
    · intro h; cases h
    · rintro ⟨_, e, _⟩; cases e
  | no =>
    constructor
    · intro h; cases h
    · rintro ⟨_, e, _⟩; cases e

/-! ### representations: a Lean value stands at a Python value, in the frozen heap F -/
class Rp (α : Type) where
  is : PySem.W.Frag → Hp → V → α → Prop
  mono : ∀ {K F F' v a}, Same F F' → is K F v a → is K F' v a
theorem Same.seqT {K : PySem.W.Frag} {H H' : Hp} {a : Addr} {xs : List V} (e : Same H H') (h : SqT K H a xs) : SqT K H' a xs := by
  rcases h with (h | ⟨o, h⟩) | h
  · exact .inl (.inl (e _ _ h))
  · exact .inl (.inr ⟨o, e _ _ h⟩)
  · exact .inr h
instance : Rp Int := ⟨fun _ _ v a => v = .int a, fun _ h => h⟩
instance : Rp Bool := ⟨fun _ _ v a => v = .bl a, fun _ h => h⟩
instance : Rp Str := ⟨fun _ _ v a => v = .str a ∧ a.length ≤ sizeLine, fun _ h => h⟩
instance : Rp Unit := ⟨fun _ _ v _ => v = .non, fun _ h => h⟩
instance {α : Type} [Rp α] : Rp (Option α) := ⟨fun K F v a => match a with
  | none => v = .non
  | some a => v ≠ .non ∧ Rp.is K F v a, fun {K F F' v a} s h => by
    cases a with
    | none => exact h
    | some a => exact ⟨h.1, Rp.mono s h.2⟩⟩
/-- all of a list -/
inductive Al {α : Type} [Rp α] (K : PySem.W.Frag) (F : Hp) : List V → List α → Prop where
  | nil : Al K F [] []
  | cons {v vs a as} : Rp.is K F v a → Al K F vs as → Al K F (v :: vs) (a :: as)
section
variable {α β γ : Type} [Rp α] [Rp β] {K : PySem.W.Frag} {F F' : Hp}
theorem Al.mono (s : Same F F') {vs : List V} {as : List α} (h : Al K F vs as) : Al K F' vs as := by
  induction h with
  | nil => exact .nil
  | cons h _ ih => exact .cons (Rp.mono s h) ih
theorem Al.len {vs : List V} {as : List α} (h : Al K F vs as) : vs.length = as.length := by
  induction h with
  | nil => rfl
  | cons _ _ ih => simp [ih]
theorem Al.get {vs : List V} {as : List α} (h : Al K F vs as) : ∀ {i : Nat} {v : V}, vs[i]? = some v → ∃ a, as[i]? = some a ∧ Rp.is K F v a := by
  induction h with
  | nil => intro i v e; simp at e
  | cons h _ ih =>
    intro i v e
    cases i with
    | zero => simp at e; subst e; exact ⟨_, rfl, h⟩
    | succ i => simp at e; obtain ⟨a, e2, r⟩ := ih e; exact ⟨a, by simpa using e2, r⟩
theorem Al.get' {vs : List V} {as : List α} (h : Al K F vs as) : ∀ {i : Nat} {a : α}, as[i]? = some a → ∃ v, vs[i]? = some v ∧ Rp.is K F v a := by
  induction h with
  | nil => intro i v e; simp at e
  | cons h _ ih =>
    intro i v e
    cases i with
    | zero => simp at e; subst e; exact ⟨_, rfl, h⟩
    | succ i => simp at e; obtain ⟨a, e2, r⟩ := ih e; exact ⟨a, by simpa using e2, r⟩
theorem Al.app {vs ws : List V} {as bs : List α} (h : Al K F vs as) (h' : Al K F ws bs) : Al K F (vs ++ ws) (as ++ bs) := by
  induction h with
  | nil => exact h'
  | cons h _ ih => exact .cons h ih
theorem Al.snoc {vs : List V} {as : List α} {v : V} {a : α} (h : Al K F vs as) (h' : Rp.is K F v a) : Al K F (vs ++ [v]) (as ++ [a]) := h.app (.cons h' .nil)
theorem Al.take {vs : List V} {as : List α} (h : Al K F vs as) : ∀ n, Al K F (vs.take n) (as.take n) := by
  induction h with
  | nil => intro n; simp; exact .nil
  | cons h _ ih => intro n; cases n with
    | zero => exact .nil
    | succ n => exact .cons h (ih n)
theorem Al.drop {vs : List V} {as : List α} (h : Al K F vs as) : ∀ n, Al K F (vs.drop n) (as.drop n) := by
  induction h with
  | nil => intro n; simp; exact .nil
  | cons h t ih => intro n; cases n with
    | zero => exact .cons h t
    | succ n => exact ih n
theorem Al.set {vs : List V} {as : List α} {v : V} {a : α} (h : Al K F vs as) (r : Rp.is K F v a) : ∀ n, Al K F (vs.set n v) (as.set n a) := by
  induction h with
  | nil => intro n; exact .nil
  | cons h t ih => intro n; cases n with
    | zero => exact .cons r t
    | succ n => exact .cons h (ih n)
theorem Al.repl {v : V} {a : α} (r : Rp.is K F v a) : ∀ n, Al K F (List.replicate n v) (List.replicate n a)
  | 0 => .nil
  | n + 1 => .cons r (Al.repl r n)
end
/-- a Python list -/
instance {α : Type} [Rp α] : Rp (List α) := ⟨fun K F v l => ∃ p xs, v = .ref p ∧ SqL K F p xs ∧ l.length ≤ sizeLine ∧ Al K F xs l, fun s ⟨p, xs, e, h, z, r⟩ => ⟨p, xs, e, Same.seq s h, z, r.mono s⟩⟩
/-- a Python tuple of any length, its items alike -/
def Tu (α : Type) : Type := List α
def Tu.l {α : Type} (t : Tu α) : List α := t
def tu {α : Type} (l : List α) : Tu α := l
instance {α : Type} [Rp α] : Rp (Tu α) := ⟨fun K F v l => ∃ p xs, v = .ref p ∧ SqT K F p xs ∧ (Tu.l l).length ≤ sizeLine ∧ Al K F xs (Tu.l l), fun s ⟨p, xs, e, h, z, r⟩ => ⟨p, xs, e, Same.seqT s h, z, r.mono s⟩⟩
/-- a pair -/
instance {α β : Type} [Rp α] [Rp β] : Rp (α × β) := ⟨fun K F v a => ∃ p x y, v = .ref p ∧ SqT K F p [x, y] ∧ Rp.is K F x a.1 ∧ Rp.is K F y a.2, fun s ⟨p, x, y, e, h, r1, r2⟩ => ⟨p, x, y, e, Same.seqT s h, Rp.mono s r1, Rp.mono s r2⟩⟩
/-- a tuple of three, of four -/
def T3 (α β γ : Type) : Type := α × β × γ
def T4 (α β γ δ : Type) : Type := α × β × γ × δ
def T3.mk {α β γ : Type} (a : α) (b : β) (c : γ) : T3 α β γ := (a, b, c)
def T4.mk {α β γ δ : Type} (a : α) (b : β) (c : γ) (d : δ) : T4 α β γ δ := (a, b, c, d)
def T3.a {α β γ : Type} (t : T3 α β γ) : α := Prod.fst t
def T3.b {α β γ : Type} (t : T3 α β γ) : β := (Prod.snd t).1
def T3.c {α β γ : Type} (t : T3 α β γ) : γ := (Prod.snd t).2
def T4.a {α β γ δ : Type} (t : T4 α β γ δ) : α := Prod.fst t
def T4.b {α β γ δ : Type} (t : T4 α β γ δ) : β := (Prod.snd t).1
def T4.c {α β γ δ : Type} (t : T4 α β γ δ) : γ := (Prod.snd t).2.1
def T4.d {α β γ δ : Type} (t : T4 α β γ δ) : δ := (Prod.snd t).2.2
instance {α β γ : Type} [Rp α] [Rp β] [Rp γ] : Rp (T3 α β γ) := ⟨fun K F v t => ∃ p x y z, v = .ref p ∧ SqT K F p [x, y, z] ∧ Rp.is K F x t.a ∧ Rp.is K F y t.b ∧ Rp.is K F z t.c,
  fun s ⟨p, x, y, z, e, h, r1, r2, r3⟩ => ⟨p, x, y, z, e, Same.seqT s h, Rp.mono s r1, Rp.mono s r2, Rp.mono s r3⟩⟩
instance {α β γ δ : Type} [Rp α] [Rp β] [Rp γ] [Rp δ] : Rp (T4 α β γ δ) := ⟨fun K F v t => ∃ p x y z u, v = .ref p ∧ SqT K F p [x, y, z, u] ∧ Rp.is K F x t.a ∧ Rp.is K F y t.b ∧ Rp.is K F z t.c ∧ Rp.is K F u t.d,
  fun s ⟨p, x, y, z, u, e, h, r1, r2, r3, r4⟩ => ⟨p, x, y, z, u, e, Same.seqT s h, Rp.mono s r1, Rp.mono s r2, Rp.mono s r3, Rp.mono s r4⟩⟩
mutual
theorem dp_mono {K : PySem.W.Frag} {F F' : Hp} (s : Same F F') : ∀ {v : V} {d : PyData}, Dp K F v d → Dp K F' v d
  | _, _, .non => .non
  | _, _, .bl b => .bl b
  | _, _, .int i => .int i
  | _, _, .str x => .str x
  | _, _, .lst h r => .lst (Same.seq s h) (dpa_mono s r)
  | _, _, .tup h r => .tup (Same.seqT s h) (dpa_mono s r)
theorem dpa_mono {K : PySem.W.Frag} {F F' : Hp} (s : Same F F') : ∀ {vs : List V} {ds : List PyData}, DpAll K F vs ds → DpAll K F' vs ds
  | _, _, .nil => .nil
  | _, _, .cons h r => .cons (dp_mono s h) (dpa_mono s r)
end
/-- data of any kind -/
instance : Rp PyData := ⟨fun K F v d => Dp K F v d ∧ SeqAt.shaped d = true, fun s h => ⟨dp_mono s h.1, h.2⟩⟩

/-! ### worlds: the frozen heap F within the heap H; what comes to it is new -/
structure Wd (F H F' H' : Hp) : Prop where
  f : Same F F'
  h : Same H H'
  s : Same F' H'
  n : ∀ a, F' a ≠ none → F a = none → H a = none
theorem Wd.refl {F H : Hp} (s : Same F H) : Wd F H F H := ⟨Same.refl _, Same.refl _, s, fun _ h e => absurd e h⟩
theorem Wd.trans {F H F1 H1 F2 H2 : Hp} (a : Wd F H F1 H1) (b : Wd F1 H1 F2 H2) : Wd F H F2 H2 :=
  ⟨a.f.trans b.f, a.h.trans b.h, b.s, fun p h e => by
    cases q : F1 p with
    | none => exact a.h.free (b.n p h q)
    | some o => exact a.n p (by rw [q]; exact fun z => nomatch z) e⟩
theorem Wd.s0 {F H F' H' : Hp} (a : Wd F H F' H') (b : Same F H) : Same F H' := a.f.trans a.s
theorem Wd.own {F H F' H' : Hp} (w : Wd F H F' H') {p : Addr} {o : HO} (f : F p = none) (h : H p = some o) : F' p = none := by
  cases y : F' p with
  | none => rfl
  | some u =>
    have q := w.n p (by rw [y]; exact fun z => nomatch z) f
    rw [h] at q
    cases q
theorem same_upd {F H : Hp} {p : Addr} {o : HO} (s : Same F H) : Same (upd F p o) (upd H p o) := fun b u e => by
  by_cases q : b = p
  · subst q; rw [upd_same] at e ⊢; exact e
  · rw [upd_ne q] at e ⊢; exact s b u e
theorem same_new {H : Hp} {p : Addr} {o : HO} (h : H p = none) : Same H (upd H p o) := fun b u e => by
  rw [upd_ne (ne_of_none e h)]; exact e
/-- a new frozen object -/
theorem Wd.new {F H : Hp} {p : Addr} {o : HO} (s : Same F H) (h : H p = none) : Wd F H (upd F p o) (upd H p o) :=
  ⟨same_new (s.free h), same_new h, same_upd s, fun b h' e => by
    by_cases q : b = p
    · subst q; exact h
    · rw [upd_ne q] at h'; exact absurd e h'⟩
/-- a new object that is not frozen -/
theorem Wd.newO {F H : Hp} {p : Addr} {o : HO} (s : Same F H) (h : H p = none) : Wd F H F (upd H p o) :=
  ⟨Same.refl _, same_new h, fun b u e => same_new h b u (s b u e), fun b h' e => absurd e h'⟩

/-! ### environments -/
structure EnvT (γ : Type) where
  rel : PySem.W.Frag → Hp → Hp → Hp → St → γ → Prop
  own : St → List Addr
  mono : ∀ {K H0 F H F' H' σ g}, rel K H0 F H σ g → Wd F H F' H' → rel K H0 F' H' σ g
  mu : ∀ {K H0 F H σ g p o}, rel K H0 F H σ g → p ∉ own σ → rel K H0 F (upd H p o) σ g
  al : ∀ {K H0 F H σ g p}, rel K H0 F H σ g → p ∈ own σ → H0 p = none ∧ F p = none ∧ ∃ xs, H p = some (HO.lst xs)
def nl : EnvT Unit := ⟨fun _ _ _ _ _ _ => True, fun _ => [], fun h _ => h, fun h _ => h, fun _ h => by cases h⟩
/-- a slot with a value -/
def va (α : Type) {γ : Type} [Rp α] (G : EnvT γ) : EnvT (α × γ) where
  rel := fun K H0 F H σ g => ∃ v σ', σ = some v :: σ' ∧ Rp.is K F v g.1 ∧ G.rel K H0 F H σ' g.2
  own := fun σ => G.own σ.tail
  mono := fun ⟨v, σ', e, r, h⟩ w => ⟨v, σ', e, Rp.mono w.f r, G.mono h w⟩
  mu := fun ⟨v, σ', e, r, h⟩ n => ⟨v, σ', e, r, G.mu h (by subst e; exact n)⟩
  al := fun ⟨v, σ', e, r, h⟩ n => G.al h (by subst e; exact n)
/-- a slot that does not matter -/
def un {γ : Type} (G : EnvT γ) : EnvT γ where
  rel := fun K H0 F H σ g => ∃ v σ', σ = v :: σ' ∧ G.rel K H0 F H σ' g
  own := fun σ => G.own σ.tail
  mono := fun ⟨v, σ', e, h⟩ w => ⟨v, σ', e, G.mono h w⟩
  mu := fun ⟨v, σ', e, h⟩ n => ⟨v, σ', e, G.mu h (by subst e; exact n)⟩
  al := fun ⟨v, σ', e, h⟩ n => G.al h (by subst e; exact n)
def adr : St → List Addr
  | some (.ref p) :: _ => [p]
  | _ => []
/-- a slot with a list of one's own -/
def ow (α : Type) {γ : Type} [Rp α] (G : EnvT γ) : EnvT (List α × γ) where
  rel := fun K H0 F H σ g => ∃ p σ' xs, σ = some (.ref p) :: σ' ∧ H0 p = none ∧ F p = none ∧ H p = some (HO.lst xs) ∧ g.1.length ≤ sizeLine ∧ Al K F xs g.1 ∧ p ∉ G.own σ' ∧ G.rel K H0 F H σ' g.2
  own := fun σ => adr σ ++ G.own σ.tail
  mono := fun ⟨p, σ', xs, e, h0, f, h, z, r, n, q⟩ w => ⟨p, σ', xs, e, h0, w.own f h, w.h _ _ h, z, r.mono w.f, n, G.mono q w⟩
  mu := fun {K H0 F H σ g b o} ⟨p, σ', xs, e, h0, f, h, z, r, n, q⟩ m => by
    subst e
    have m2 : b ≠ p ∧ b ∉ G.own σ' := by
      constructor
      · intro q; exact m (by simp [adr, q])
      · intro q; exact m (by simp [q])
    exact ⟨p, σ', xs, rfl, h0, f, by rw [upd_ne (Ne.symm m2.1)]; exact h, z, r, n, G.mu q m2.2⟩
  al := fun {K H0 F H σ g b} ⟨p, σ', xs, e, h0, f, h, z, r, n, q⟩ m => by
    subst e
    rcases List.mem_append.mp m with m | m
    · have e : b = p := by simpa [adr] using m
      subst e
      exact ⟨h0, f, xs, h⟩
    · exact G.al q m

/-- the slot i holds π g -/
class At {γ : Type} (G : EnvT γ) (i : Nat) (α : outParam Type) (r : outParam (Rp α)) (π : outParam (γ → α)) : Prop where
  get : ∀ {K H0 F H σ g}, G.rel K H0 F H σ g → ∃ v, σ[i]? = some (some v) ∧ r.is K F v (π g)
instance {α γ : Type} [r : Rp α] (G : EnvT γ) : At (va α G) 0 α r (fun g => g.1) := ⟨fun ⟨v, σ', e, q, _⟩ => ⟨v, by subst e; rfl, q⟩⟩
instance {α β γ : Type} [Rp β] [r : Rp α] (G : EnvT γ) (i : Nat) (π : γ → α) [a : At G i α r π] : At (va β G) (i + 1) α r (fun g => π g.2) := ⟨fun ⟨v, σ', e, _, q⟩ => by
  obtain ⟨u, e2, q2⟩ := a.get q
  exact ⟨u, by subst e; exact e2, q2⟩⟩
instance {α γ : Type} [r : Rp α] (G : EnvT γ) (i : Nat) (π : γ → α) [a : At G i α r π] : At (un G) (i + 1) α r (fun g => π g) := ⟨fun ⟨v, σ', e, q⟩ => by
  obtain ⟨u, e2, q2⟩ := a.get q
  exact ⟨u, by subst e; exact e2, q2⟩⟩
instance {α β γ : Type} [Rp β] [r : Rp α] (G : EnvT γ) (i : Nat) (π : γ → α) [a : At G i α r π] : At (ow β G) (i + 1) α r (fun g => π g.2) := ⟨fun ⟨p, σ', xs, e, _, _, _, _, _, _, q⟩ => by
  obtain ⟨u, e2, q2⟩ := a.get q
  exact ⟨u, by subst e; exact e2, q2⟩⟩

/-- a store into the slot i -/
class Put {γ : Type} (G : EnvT γ) (i : Nat) (α : Type) [Rp α] {δ : outParam Type} (G' : outParam (EnvT δ)) (ψ : outParam (γ → α → δ)) : Prop where
  put : ∀ {K H0 F H σ g v a}, G.rel K H0 F H σ g → Rp.is K F v a → G'.rel K H0 F H (σ.set i (some v)) (ψ g a)
  own : ∀ {K H0 F H σ g p} {v : V}, G.rel K H0 F H σ g → p ∈ G'.own (σ.set i (some v)) → p ∈ G.own σ
instance {α β γ : Type} [Rp α] [Rp β] (G : EnvT γ) : Put (va β G) 0 α (va α G) (fun g a => (a, g.2)) := ⟨fun ⟨v, σ', e, _, q⟩ r => ⟨_, σ', by subst e; rfl, r, q⟩, fun ⟨v, σ', e, _, q⟩ h => by subst e; exact h⟩
instance {α γ : Type} [Rp α] (G : EnvT γ) : Put (un G) 0 α (va α G) (fun g a => (a, g)) := ⟨fun ⟨v, σ', e, q⟩ r => ⟨_, σ', by subst e; rfl, r, q⟩, fun ⟨v, σ', e, q⟩ h => by subst e; exact h⟩
instance {α β γ : Type} [Rp α] [Rp β] (G : EnvT γ) : Put (ow β G) 0 α (va α G) (fun g a => (a, g.2)) := ⟨fun ⟨p, σ', xs, e, _, _, _, _, _, _, q⟩ r => ⟨_, σ', by subst e; rfl, r, q⟩, fun ⟨p, σ', xs, e, _, _, _, _, _, _, q⟩ h => by subst e; exact List.mem_append_right _ h⟩
instance {α β γ δ : Type} [Rp α] [Rp β] (G : EnvT γ) (i : Nat) (G' : EnvT δ) (ψ : γ → α → δ) [P : Put G i α G' ψ] : Put (va β G) (i + 1) α (va β G') (fun g a => (g.1, ψ g.2 a)) :=
  ⟨fun ⟨v, σ', e, w, q⟩ r => ⟨v, σ'.set i _, by subst e; rfl, w, P.put q r⟩, fun ⟨v, σ', e, w, q⟩ h => by subst e; exact P.own q h⟩
instance {α γ δ : Type} [Rp α] (G : EnvT γ) (i : Nat) (G' : EnvT δ) (ψ : γ → α → δ) [P : Put G i α G' ψ] : Put (un G) (i + 1) α (un G') (fun g a => ψ g a) :=
  ⟨fun ⟨v, σ', e, q⟩ r => ⟨v, σ'.set i _, by subst e; rfl, P.put q r⟩, fun ⟨v, σ', e, q⟩ h => by subst e; exact P.own q h⟩
instance {α β γ δ : Type} [Rp α] [Rp β] (G : EnvT γ) (i : Nat) (G' : EnvT δ) (ψ : γ → α → δ) [P : Put G i α G' ψ] : Put (ow β G) (i + 1) α (ow β G') (fun g a => (g.1, ψ g.2 a)) :=
  ⟨fun ⟨p, σ', xs, e, h0, f, h, z, w, n, q⟩ r => ⟨p, σ'.set i _, xs, by subst e; rfl, h0, f, h, z, w, fun m => n (P.own q m), P.put q r⟩, fun ⟨p, σ', xs, e, _, _, _, _, _, _, q⟩ h => by
    subst e
    rcases List.mem_append.mp h with h | h
    · exact List.mem_append_left _ h
    · exact List.mem_append_right _ (P.own q h)⟩

/-! ### readings of expressions -/
/-- what a body's code stands in: the frozen heap and the heap at the def's entry, the wish of exceptions -/
structure C0 where
  F0 : Hp
  H0 : Hp
  W : WX
/-- an exception is wished -/
def ErP (K : PySem.W.Frag) (F H : Hp) (E : XK) (c : Str) (fs : List (Str × V)) : Prop := match fs with
  | [] => ∀ F' H', Wd F H F' H' → E (.ref (He.ga K c)) none H'
  | fs => ∀ F' H' d, Wd F H F' H' → H' d = none → E (.ref (He.ga K c)) (some d) (upd H' d (.xd fs))
theorem ErP.on {K : PySem.W.Frag} {F H F' H' : Hp} {E : XK} {c : Str} {fs : List (Str × V)} (h : ErP K F H E c fs) (w : Wd F H F' H') : ErP K F' H' E c fs := by
  cases fs with
  | nil => exact fun F2 H2 w2 => h F2 H2 (w.trans w2)
  | cons f fs => exact fun F2 H2 d w2 => h F2 H2 d (w.trans w2)
def Po {α : Type} [Rp α] (K : PySem.W.Frag) (F H : Hp) (Q : VK) (E : XK) (m : Xc α) : Prop := match m with
  | .ok a => ∀ v F' H', Wd F H F' H' → Rp.is K F' v a → Q v H'
  | .er c fs => ErP K F H E c fs
  | .no => False
def PoB (K : PySem.W.Frag) (F H : Hp) (Q : Bool → Hp → Prop) (E : XK) (m : Xc Bool) : Prop := match m with
  | .ok b => ∀ F' H', Wd F H F' H' → Q b H'
  | .er c fs => ErP K F H E c fs
  | .no => False
theorem Po.on {α : Type} [Rp α] {K : PySem.W.Frag} {F H F' H' : Hp} {Q : VK} {E : XK} {m : Xc α} (h : Po K F H Q E m) (w : Wd F H F' H') : Po K F' H' Q E m := by
  cases m with
  | ok a => exact fun v F2 H2 w2 r => h v F2 H2 (w.trans w2) r
  | er c fs => exact ErP.on h w
  | no => exact h
theorem PoB.on {K : PySem.W.Frag} {F H F' H' : Hp} {Q : Bool → Hp → Prop} {E : XK} {m : Xc Bool} (h : PoB K F H Q E m) (w : Wd F H F' H') : PoB K F' H' Q E m := by
  cases m with
  | ok a => exact fun F2 H2 w2 => h F2 H2 (w.trans w2)
  | er c fs => exact ErP.on h w
  | no => exact h
/-- from the mirror's first part on -/
theorem Po.bind {α β : Type} [Rp α] [Rp β] {K : PySem.W.Frag} {F H : Hp} {Q : VK} {E : XK} {m : Xc α} {k : α → Xc β} (h : Po K F H Q E (m.bind k)) : Po K F H (fun v H1 => ∃ a F1, m = .ok a ∧ Wd F H F1 H1 ∧ Rp.is K F1 v a ∧ Po K F1 H1 Q E (k a)) E m := by
  cases m with
  | ok a => exact fun v F1 H1 w r => ⟨a, F1, rfl, w, r, Po.on (show Po K F H Q E (k a) from h) w⟩
  | er c fs => exact h
  | no => exact h
theorem Po.bindB {α : Type} [Rp α] {K : PySem.W.Frag} {F H : Hp} {Q : Bool → Hp → Prop} {E : XK} {m : Xc α} {k : α → Xc Bool} (h : PoB K F H Q E (m.bind k)) : Po K F H (fun v H1 => ∃ a F1, m = .ok a ∧ Wd F H F1 H1 ∧ Rp.is K F1 v a ∧ PoB K F1 H1 Q E (k a)) E m := by
  cases m with
  | ok a => exact fun v F1 H1 w r => ⟨a, F1, rfl, w, r, PoB.on (show PoB K F H Q E (k a) from h) w⟩
  | er c fs => exact h
  | no => exact h
theorem PoB.bind {β : Type} [Rp β] {K : PySem.W.Frag} {F H : Hp} {Q : VK} {E : XK} {m : Xc Bool} {k : Bool → Xc β} (h : Po K F H Q E (m.bind k)) : PoB K F H (fun b H1 => ∃ F1, m = .ok b ∧ Wd F H F1 H1 ∧ Po K F1 H1 Q E (k b)) E m := by
  cases m with
  | ok a => exact fun F1 H1 w => ⟨F1, rfl, w, Po.on (show Po K F H Q E (k a) from h) w⟩
  | er c fs => exact h
  | no => exact h
theorem PoB.bindB {K : PySem.W.Frag} {F H : Hp} {Q : Bool → Hp → Prop} {E : XK} {m : Xc Bool} {k : Bool → Xc Bool} (h : PoB K F H Q E (m.bind k)) : PoB K F H (fun b H1 => ∃ F1, m = .ok b ∧ Wd F H F1 H1 ∧ PoB K F1 H1 Q E (k b)) E m := by
  cases m with
  | ok a => exact fun F1 H1 w => ⟨F1, rfl, w, PoB.on (show PoB K F H Q E (k a) from h) w⟩
  | er c fs => exact h
  | no => exact h
theorem Po.ret {α : Type} [Rp α] {K : PySem.W.Frag} {F H : Hp} {Q : VK} {E : XK} {v : V} {a : α} (h : Po K F H Q E (.ok a)) (s : Same F H) (r : Rp.is K F v a) : Q v H := h v F H (Wd.refl s) r
theorem PoB.ret {K : PySem.W.Frag} {F H : Hp} {Q : Bool → Hp → Prop} {E : XK} {b : Bool} (h : PoB K F H Q E (.ok b)) (s : Same F H) : Q b H := h F H (Wd.refl s)

section
variable {X : Cx} {c : C0} {γ α β ρ : Type} {G : EnvT γ} [Rp α] [Rp β] [Rp ρ]
def tF (K : PySem.W.Frag) (c : C0) (G : EnvT γ) (f : γ → Xc α) : TE := fun σ H Q => ∃ F g, Wd c.F0 c.H0 F H ∧ G.rel K c.H0 F H σ g ∧ Po K F H Q (WE c.W σ) (f g)
def tT (K : PySem.W.Frag) (c : C0) (G : EnvT γ) (f : γ → Xc Bool) : TT := fun σ H Q => ∃ F g, Wd c.F0 c.H0 F H ∧ G.rel K c.H0 F H σ g ∧ PoB K F H Q (WE c.W σ) (f g)
/-- the expression e computes f of what the slots hold -/
def FE (X : Cx) (c : C0) (G : EnvT γ) (e : Expr) (f : γ → Xc α) : Prop := PE X e (tF X.K c G f)
def FT (X : Cx) (c : C0) (G : EnvT γ) (e : Expr) (f : γ → Xc Bool) : Prop := PT X e (tT X.K c G f)
theorem PE.imp {e : Expr} {t t' : TE} (h : PE X e t) (i : ∀ σ H Q, t' σ H Q → t σ H Q) : PE X e t' := ⟨fun pins s σ H Q I q => h.run pins s σ H Q I (i σ H Q q)⟩
theorem PT.imp {e : Expr} {t t' : TT} (h : PT X e t) (i : ∀ σ H Q, t' σ H Q → t σ H Q) : PT X e t' := ⟨fun pins s σ H Q I q => h.run pins s σ H Q I (i σ H Q q)⟩
theorem FE.cast {e : Expr} {f f' : γ → Xc α} (h : FE X c G e f) (i : ∀ g, f' g = f g) : FE X c G e f' := by
  rw [show f' = f from funext i]; exact h
theorem FT.cast {e : Expr} {f f' : γ → Xc Bool} (h : FT X c G e f) (i : ∀ g, f' g = f g) : FT X c G e f' := by
  rw [show f' = f from funext i]; exact h

/-! names, constants -/
theorem fe_var {τ : Type} (i : Nat) {x : Str} {pos : Pos} {π : γ → τ} {r : Rp τ} [a : At G i τ r π] (hN : X.N[i]? = some x := by rfl) (hv : Vis X.env.scope x := by first | exact Or.inl rfl | exact Or.inr (Or.inl rfl) | exact Or.inr (Or.inr rfl))
    (hd : (x == ("__debug__" : Str)) = false := by decide) (hcd : (x == ("__classdict__" : Str)) = false := by decide) : FE X c G (.Name x pos) (fun g => Xc.ok (π g)) :=
  PE.imp (pe_var hN hv hd hcd) fun σ H Q ⟨F, g, w, q, h⟩ => by
    obtain ⟨v, e, z⟩ := a.get q
    exact ⟨v, e, h v F H (Wd.refl w.s) z⟩
theorem fe_int {i : Int} {j pos} : FE X c G (.Constant (.int i) j pos) (fun _ => .ok i) := PE.imp pe_int fun σ H Q ⟨F, g, w, q, h⟩ => h.ret w.s rfl
theorem fe_bl {b : Bool} {j pos} : FE X c G (.Constant (.bool b) j pos) (fun _ => .ok b) := PE.imp pe_bl fun σ H Q ⟨F, g, w, q, h⟩ => h.ret w.s rfl
theorem fe_str {x : Str} {j pos} (hx : x.length ≤ sizeLine := by decide +kernel) : FE X c G (.Constant (.str x) j pos) (fun _ => .ok x) := PE.imp pe_str fun σ H Q ⟨F, g, w, q, h⟩ => h.ret w.s ⟨rfl, hx⟩
theorem fe_none {j pos} : FE X c G (.Constant .none j pos) (fun _ => .ok ()) := PE.imp pe_non fun σ H Q ⟨F, g, w, q, h⟩ => h.ret w.s rfl
/-- a module's constant -/
theorem fe_gint {x : Str} {i : Int} {pos : Pos} (hm : ∃ t, X.mg x = some (.int i t)) (hg : Gl X x := by rfl) (hd : (x == ("__debug__" : Str)) = false := by decide) : FE X c G (.Name x pos) (fun _ => .ok i) := by
  obtain ⟨t, hm⟩ := hm
  exact PE.imp (pe_glob (v := .int i) hg hm ⟨t, rfl⟩ hd) fun σ H Q ⟨F, g, w, q, h⟩ => h.ret w.s rfl
theorem fe_gstr {x z : Str} {pos : Pos} (hm : ∃ t, X.mg x = some (.str z t)) (hz : z.length ≤ sizeLine := by decide +kernel) (hg : Gl X x := by rfl) (hd : (x == ("__debug__" : Str)) = false := by decide) : FE X c G (.Name x pos) (fun _ => .ok z) := by
  obtain ⟨t, hm⟩ := hm
  exact PE.imp (pe_glob (v := .str z) hg hm ⟨t, rfl⟩ hd) fun σ H Q ⟨F, g, w, q, h⟩ => h.ret w.s ⟨rfl, hz⟩

/-! two parts -/
theorem two {a b : Expr} {fa : γ → Xc α} {fb : γ → Xc β} {op : α → β → Xc ρ} {r : R2} {e : Expr} (h : ∀ {ta tb : TE}, PE X a ta → PE X b tb → PE X e (tOp r ta tb)) (ha : FE X c G a fa) (hb : FE X c G b fb)
    (hop : ∀ {F H x y i j Q E}, Same F H → Rp.is X.K F x i → Rp.is X.K F y j → Po X.K F H Q E (op i j) → r x y H Q) : FE X c G e (fun g => (fa g).bind fun i => (fb g).bind fun j => op i j) :=
  PE.imp (h ha hb) fun σ H Q ⟨F, g, w, q, p⟩ => by
    refine ⟨F, g, w, q, ?_⟩
    have p1 := Po.bind p
    revert p1
    cases e1 : fa g with
    | ok i =>
      intro p1 v F1 H1 w1 r1
      obtain ⟨i', _, e2, w1', r1', p2⟩ := p1 v F1 H1 w1 r1
      cases e2
      have p2 : Po X.K F H Q (WE c.W σ) ((fb g).bind fun j => op i j) := by simp only [e1] at p; exact p
      refine ⟨F1, g, w.trans w1, G.mono q w1, ?_⟩
      have p3 := Po.bind (p2.on w1)
      revert p3
      cases e3 : fb g with
      | ok j =>
        intro p3 u F2 H2 w2 r2
        obtain ⟨j', F2', e4, w2', r2', p4⟩ := p3 u F2 H2 w2 r2
        cases e4
        have p5 : Po X.K F H Q (WE c.W σ) (op i j) := by rw [e3] at p2; exact p2
        exact hop w2.s (Rp.mono w2.f r1) r2 (p5.on (w1.trans w2))
      | er c fs => exact fun p3 => p3
      | no => exact fun p3 => p3
    | er c fs => exact fun p1 => p1
    | no => exact fun p1 => p1
theorem twoT {a b : Expr} {fa : γ → Xc α} {fb : γ → Xc β} {op : α → β → Xc Bool} {r : R2} {e : Expr} (h : ∀ {ta tb : TE}, PE X a ta → PE X b tb → PT X e (tTest (tOp r ta tb))) (ha : FE X c G a fa) (hb : FE X c G b fb)
    (hop : ∀ {F H x y i j Q E}, Same F H → Rp.is X.K F x i → Rp.is X.K F y j → PoB X.K F H Q E (op i j) → r x y H (fun v H' => ∃ k, v = .bl k ∧ Q k H')) : FT X c G e (fun g => (fa g).bind fun i => (fb g).bind fun j => op i j) :=
  PT.imp (h ha hb) fun σ H Q ⟨F, g, w, q, p⟩ => by
    refine ⟨F, g, w, q, ?_⟩
    cases e1 : fa g with
    | ok i =>
      intro v F1 H1 w1 r1
      have p2 : PoB X.K F H Q (WE c.W σ) ((fb g).bind fun j => op i j) := by simp only [e1] at p; exact p
      refine ⟨F1, g, w.trans w1, G.mono q w1, ?_⟩
      cases e3 : fb g with
      | ok j =>
        intro u F2 H2 w2 r2
        have p5 : PoB X.K F H Q (WE c.W σ) (op i j) := by rw [e3] at p2; exact p2
        exact hop w2.s (Rp.mono w2.f r1) r2 (p5.on (w1.trans w2))
      | er c' fs => rw [e3] at p2; exact ErP.on (show ErP X.K F H (WE c.W σ) c' fs from p2) w1
      | no => rw [e3] at p2; exact p2
    | er c' fs => simp only [e1] at p; exact p
    | no => simp only [e1] at p; exact p
/-- one part -/
theorem one {a e : Expr} {fa : γ → Xc α} {op : α → Xc ρ} {r : V → Hp → VK → Prop} (h : ∀ {ta : TE}, PE X a ta → PE X e (tUn r ta)) (ha : FE X c G a fa)
    (hop : ∀ {F H x i Q E}, Same F H → Rp.is X.K F x i → Po X.K F H Q E (op i) → r x H Q) : FE X c G e (fun g => (fa g).bind fun i => op i) :=
  PE.imp (h ha) fun σ H Q ⟨F, g, w, q, p⟩ => by
    refine ⟨F, g, w, q, ?_⟩
    cases e1 : fa g with
    | ok i =>
      intro v F1 H1 w1 r1
      have p2 : Po X.K F H Q (WE c.W σ) (op i) := by simp only [e1] at p; exact p
      exact hop w1.s r1 (p2.on w1)
    | er c' fs => simp only [e1] at p; exact p
    | no => simp only [e1] at p; exact p
end
end FL

/-! FL2: operators, comparisons, tests, displays, subscripts, texts, built-in calls. -/
namespace FL
open PySem L2
/-! ### ints -/
def MulC (i j : Int) : Prop := i.natAbs < 2 ^ 64 ∨ j.natAbs < 2 ^ 64 ∨ i.natAbs.log2 + j.natAbs.log2 < 1000000
instance (i j : Int) : Decidable (MulC i j) := by unfold MulC; infer_instance
theorem MulC.ok {i j : Int} (h : MulC i j) : PySem.IntMulOk i j := by
  rcases h with h | h | h
  · exact CMul.ok (.inl (by omega))
  · exact CMul.ok (.inr (by omega))
  · exact CMulW.ok h
theorem op_mulZ {X : Cx} : OpR X (binaryOp .Mult) (rI MulC fun i j => .int (i * j)) := opI fun _ _ _ _ _ _ _ hc q => PyProof.Rows.mul_int q hc.ok
@[irreducible] def mulX (i j : Int) : Xc Int := if MulC i j then .ok (i * j) else .no
@[irreducible] def fdvX (i j : Int) : Xc Int := if j ≠ 0 ∧ j.natAbs.log2 < 9000 then .ok (i.fdiv j) else .no
@[irreducible] def modX (i j : Int) : Xc Int := if j ≠ 0 then .ok (i.fmod j) else .no
@[irreducible] def powX (i j : Int) : Xc Int := if 0 ≤ j ∧ j ≤ 1000000 ∧ i.natAbs < 2 ^ 64 then .ok (i ^ j.toNat) else .no
theorem op_fdivZ {X : Cx} : OpR X (binaryOp .FloorDiv) (rI (fun _ j => j ≠ 0 ∧ j.natAbs.log2 < 9000) fun i j => .int (i.fdiv j)) := opI fun i j _ _ _ _ _ hc q =>
  PyProof.Rows.floordiv_int hc.1 q (.inl (PyProof.noPylong_of_log2 hc.2))
section
variable {X : Cx} {c : C0} {γ α β ρ : Type} {G : EnvT γ} [Rp α] [Rp β] [Rp ρ] {a b e : Expr} {pos : Pos} {fi fj : γ → Xc Int}
theorem fe_add (ha : FE X c G a fi) (hb : FE X c G b fj) : FE X c G (.BinOp a .Add b pos) (fun g => (fi g).bind fun i => (fj g).bind fun j => Xc.ok (i + j)) :=
  two (fun h1 h2 => pe_op op_add h1 h2) ha hb fun s r1 r2 p => ⟨_, _, r1, r2, p.ret s rfl⟩
theorem fe_sub (ha : FE X c G a fi) (hb : FE X c G b fj) : FE X c G (.BinOp a .Sub b pos) (fun g => (fi g).bind fun i => (fj g).bind fun j => Xc.ok (i - j)) :=
  two (fun h1 h2 => pe_op op_sub h1 h2) ha hb fun s r1 r2 p => ⟨_, _, r1, r2, p.ret s rfl⟩
theorem fe_mul (ha : FE X c G a fi) (hb : FE X c G b fj) : FE X c G (.BinOp a .Mult b pos) (fun g => (fi g).bind fun i => (fj g).bind fun j => mulX i j) :=
  two (fun h1 h2 => pe_op op_mulZ h1 h2) ha hb fun {F H x y i j Q E} s r1 r2 p => by
    unfold mulX at p
    by_cases h : MulC i j
    · rw [if_pos h] at p; exact ⟨_, _, r1, r2, h, p.ret s rfl⟩
    · rw [if_neg h] at p; exact p.elim
theorem fe_fdv (ha : FE X c G a fi) (hb : FE X c G b fj) : FE X c G (.BinOp a .FloorDiv b pos) (fun g => (fi g).bind fun i => (fj g).bind fun j => fdvX i j) :=
  two (fun h1 h2 => pe_op op_fdivZ h1 h2) ha hb fun {F H x y i j Q E} s r1 r2 p => by
    unfold fdvX at p
    by_cases h : j ≠ 0 ∧ j.natAbs.log2 < 9000
    · rw [if_pos h] at p; exact ⟨_, _, r1, r2, h, p.ret s rfl⟩
    · rw [if_neg h] at p; exact p.elim
theorem fe_mod (ha : FE X c G a fi) (hb : FE X c G b fj) : FE X c G (.BinOp a .Mod b pos) (fun g => (fi g).bind fun i => (fj g).bind fun j => modX i j) :=
  two (fun h1 h2 => pe_op op_modN h1 h2) ha hb fun {F H x y i j Q E} s r1 r2 p => by
    unfold modX at p
    by_cases h : j ≠ 0
    · rw [if_pos h] at p; exact ⟨_, _, r1, r2, h, p.ret s rfl⟩
    · rw [if_neg h] at p; exact p.elim
theorem fe_pow (ha : FE X c G a fi) (hb : FE X c G b fj) : FE X c G (.BinOp a .Pow b pos) (fun g => (fi g).bind fun i => (fj g).bind fun j => powX i j) :=
  two (fun h1 h2 => pe_op op_pow h1 h2) ha hb fun {F H x y i j Q E} s r1 r2 p => by
    unfold powX at p
    by_cases h : 0 ≤ j ∧ j ≤ 1000000 ∧ i.natAbs < 2 ^ 64
    · rw [if_pos h] at p; exact ⟨_, _, r1, r2, h, p.ret s rfl⟩
    · rw [if_neg h] at p; exact p.elim
theorem fe_neg (ha : FE X c G a fi) : FE X c G (.UnaryOp .USub a pos) (fun g => (fi g).bind fun i => Xc.ok (-i)) :=
  one (fun h => pe_un un_neg h) ha fun s r p => ⟨_, r, p.ret s rfl⟩

/-! comparisons of ints -/
theorem fe_lt (ha : FE X c G a fi) (hb : FE X c G b fj) : FE X c G (.Compare a [.Lt] [b] pos) (fun g => (fi g).bind fun i => (fj g).bind fun j => Xc.ok (decide (i < j))) :=
  two (fun h1 h2 => pe_cmpR op_lt h1 h2 (nomark _)) ha hb fun s r1 r2 p => ⟨_, _, r1, r2, p.ret s rfl⟩
theorem fe_le (ha : FE X c G a fi) (hb : FE X c G b fj) : FE X c G (.Compare a [.LtE] [b] pos) (fun g => (fi g).bind fun i => (fj g).bind fun j => Xc.ok (decide (i ≤ j))) :=
  two (fun h1 h2 => pe_cmpR op_le h1 h2 (nomark _)) ha hb fun s r1 r2 p => ⟨_, _, r1, r2, p.ret s rfl⟩
theorem fe_gt (ha : FE X c G a fi) (hb : FE X c G b fj) : FE X c G (.Compare a [.Gt] [b] pos) (fun g => (fi g).bind fun i => (fj g).bind fun j => Xc.ok (decide (j < i))) :=
  two (fun h1 h2 => pe_cmpR op_gt h1 h2 (nomark _)) ha hb fun s r1 r2 p => ⟨_, _, r1, r2, p.ret s rfl⟩
theorem fe_ge (ha : FE X c G a fi) (hb : FE X c G b fj) : FE X c G (.Compare a [.GtE] [b] pos) (fun g => (fi g).bind fun i => (fj g).bind fun j => Xc.ok (decide (j ≤ i))) :=
  two (fun h1 h2 => pe_cmpR op_ge h1 h2 (nomark _)) ha hb fun s r1 r2 p => ⟨_, _, r1, r2, p.ret s rfl⟩
theorem ft_lt (ha : FE X c G a fi) (hb : FE X c G b fj) : FT X c G (.Compare a [.Lt] [b] pos) (fun g => (fi g).bind fun i => (fj g).bind fun j => Xc.ok (decide (i < j))) :=
  twoT (fun h1 h2 => pt_cmpR op_lt h1 h2 (nomark _)) ha hb fun s r1 r2 p => ⟨_, _, r1, r2, _, rfl, p.ret s⟩
theorem ft_le (ha : FE X c G a fi) (hb : FE X c G b fj) : FT X c G (.Compare a [.LtE] [b] pos) (fun g => (fi g).bind fun i => (fj g).bind fun j => Xc.ok (decide (i ≤ j))) :=
  twoT (fun h1 h2 => pt_cmpR op_le h1 h2 (nomark _)) ha hb fun s r1 r2 p => ⟨_, _, r1, r2, _, rfl, p.ret s⟩
theorem ft_gt (ha : FE X c G a fi) (hb : FE X c G b fj) : FT X c G (.Compare a [.Gt] [b] pos) (fun g => (fi g).bind fun i => (fj g).bind fun j => Xc.ok (decide (j < i))) :=
  twoT (fun h1 h2 => pt_cmpR op_gt h1 h2 (nomark _)) ha hb fun s r1 r2 p => ⟨_, _, r1, r2, _, rfl, p.ret s⟩
theorem ft_ge (ha : FE X c G a fi) (hb : FE X c G b fj) : FT X c G (.Compare a [.GtE] [b] pos) (fun g => (fi g).bind fun i => (fj g).bind fun j => Xc.ok (decide (j ≤ i))) :=
  twoT (fun h1 h2 => pt_cmpR op_ge h1 h2 (nomark _)) ha hb fun s r1 r2 p => ⟨_, _, r1, r2, _, rfl, p.ret s⟩
end

/-! ### equality of scalars -/
class ScalR (α : Type) [Rp α] where
  dec : DecidableEq α
  toV : α → V
  eq : ∀ {K F v} {a : α}, Rp.is K F v a → v = toV a
  sc : ∀ a b : α, scal (toV a) (toV b) = true
  inj : ∀ a b : α, toV a = toV b → a = b
instance : ScalR Int := ⟨inferInstance, .int, fun h => h, fun _ _ => rfl, fun _ _ h => V.int.inj h⟩
instance : ScalR Bool := ⟨inferInstance, .bl, fun h => h, fun _ _ => rfl, fun _ _ h => V.bl.inj h⟩
instance : ScalR Str := ⟨inferInstance, .str, fun h => h.1, fun _ _ => rfl, fun _ _ h => V.str.inj h⟩
instance instDecScal {α : Type} [Rp α] [s : ScalR α] : DecidableEq α := s.dec
section
variable {X : Cx} {c : C0} {γ α β ρ : Type} {G : EnvT γ} [Rp α] [Rp β] [Rp ρ] {a b e : Expr} {pos : Pos}
theorem dec_scal [s : ScalR α] (a b : α) : decide (ScalR.toV a = ScalR.toV b) = (@decide (a = b) (s.dec a b)) := by
  by_cases h : a = b
  · subst h; simp
  · have h2 : ¬ ScalR.toV a = ScalR.toV b := fun e => h (ScalR.inj _ _ e)
    rw [decide_eq_false h2, decide_eq_false h]
theorem fe_eq [s : ScalR α] {fa fb : γ → Xc α} (ha : FE X c G a fa) (hb : FE X c G b fb) : FE X c G (.Compare a [.Eq] [b] pos) (fun g => (fa g).bind fun i => (fb g).bind fun j => Xc.ok (@decide (i = j) (s.dec i j))) :=
  two (fun h1 h2 => pe_cmpR op_eq h1 h2 (nomark _)) ha hb fun {F H x y i j Q E} z r1 r2 p => by
    rw [ScalR.eq r1, ScalR.eq r2]
    exact ⟨ScalR.sc i j, by rw [dec_scal]; exact p.ret z rfl⟩
theorem fe_ne [s : ScalR α] {fa fb : γ → Xc α} (ha : FE X c G a fa) (hb : FE X c G b fb) : FE X c G (.Compare a [.NotEq] [b] pos) (fun g => (fa g).bind fun i => (fb g).bind fun j => Xc.ok (!@decide (i = j) (s.dec i j))) :=
  two (fun h1 h2 => pe_cmpR op_ne h1 h2 (nomark _)) ha hb fun {F H x y i j Q E} z r1 r2 p => by
    rw [ScalR.eq r1, ScalR.eq r2]
    exact ⟨ScalR.sc i j, by rw [dec_scal]; exact p.ret z rfl⟩
theorem ft_eq [s : ScalR α] {fa fb : γ → Xc α} (ha : FE X c G a fa) (hb : FE X c G b fb) : FT X c G (.Compare a [.Eq] [b] pos) (fun g => (fa g).bind fun i => (fb g).bind fun j => Xc.ok (@decide (i = j) (s.dec i j))) :=
  twoT (fun h1 h2 => pt_cmpR op_eq h1 h2 (nomark _)) ha hb fun {F H x y i j Q E} z r1 r2 p => by
    rw [ScalR.eq r1, ScalR.eq r2]
    exact ⟨ScalR.sc i j, _, rfl, by rw [dec_scal]; exact p.ret z⟩
theorem ft_ne [s : ScalR α] {fa fb : γ → Xc α} (ha : FE X c G a fa) (hb : FE X c G b fb) : FT X c G (.Compare a [.NotEq] [b] pos) (fun g => (fa g).bind fun i => (fb g).bind fun j => Xc.ok (!@decide (i = j) (s.dec i j))) :=
  twoT (fun h1 h2 => pt_cmpR op_ne h1 h2 (nomark _)) ha hb fun {F H x y i j Q E} z r1 r2 p => by
    rw [ScalR.eq r1, ScalR.eq r2]
    exact ⟨ScalR.sc i j, _, rfl, by rw [dec_scal]; exact p.ret z⟩

/-! ### None -/
theorem opt_non {K : PySem.W.Frag} {F : Hp} {v : V} {o : Option α} (h : Rp.is K F v o) : decide (v = .non) = o.isNone := by
  cases o with
  | none => have h : v = .non := h; subst h; rfl
  | some a => have h : v ≠ .non := h.1; simp [h]
theorem fe_isN {fa : γ → Xc (Option α)} {j p} (ha : FE X c G a fa) : FE X c G (.Compare a [.Is] [.Constant .none j p] pos) (fun g => (fa g).bind fun i => Xc.ok i.isNone) :=
  PE.imp (pe_cmpR op_isN ha pe_non (nomark _)) fun σ H Q ⟨F, g, w, q, h⟩ => by
    refine ⟨F, g, w, q, ?_⟩
    cases e1 : fa g with
    | ok i => intro v F1 H1 w1 r1; simp only [e1] at h; exact ⟨rfl, by rw [opt_non r1]; exact (Po.on h w1).ret w1.s rfl⟩
    | er c' fs => simp only [e1] at h; exact h
    | no => simp only [e1] at h; exact h
theorem fe_notN {fa : γ → Xc (Option α)} {j p} (ha : FE X c G a fa) : FE X c G (.Compare a [.IsNot] [.Constant .none j p] pos) (fun g => (fa g).bind fun i => Xc.ok (!i.isNone)) :=
  PE.imp (pe_cmpR op_notN ha pe_non (nomark _)) fun σ H Q ⟨F, g, w, q, h⟩ => by
    refine ⟨F, g, w, q, ?_⟩
    cases e1 : fa g with
    | ok i => intro v F1 H1 w1 r1; simp only [e1] at h; exact ⟨rfl, by rw [opt_non r1]; exact (Po.on h w1).ret w1.s rfl⟩
    | er c' fs => simp only [e1] at h; exact h
    | no => simp only [e1] at h; exact h
theorem ft_isN {fa : γ → Xc (Option α)} {j p} (ha : FE X c G a fa) : FT X c G (.Compare a [.Is] [.Constant .none j p] pos) (fun g => (fa g).bind fun i => Xc.ok i.isNone) :=
  PT.imp (pt_cmpR op_isN ha pe_non (nomark _)) fun σ H Q ⟨F, g, w, q, h⟩ => by
    refine ⟨F, g, w, q, ?_⟩
    cases e1 : fa g with
    | ok i => intro v F1 H1 w1 r1; simp only [e1] at h; exact ⟨rfl, _, rfl, by rw [opt_non r1]; exact (PoB.on h w1).ret w1.s⟩
    | er c' fs => simp only [e1] at h; exact h
    | no => simp only [e1] at h; exact h
theorem ft_notN {fa : γ → Xc (Option α)} {j p} (ha : FE X c G a fa) : FT X c G (.Compare a [.IsNot] [.Constant .none j p] pos) (fun g => (fa g).bind fun i => Xc.ok (!i.isNone)) :=
  PT.imp (pt_cmpR op_notN ha pe_non (nomark _)) fun σ H Q ⟨F, g, w, q, h⟩ => by
    refine ⟨F, g, w, q, ?_⟩
    cases e1 : fa g with
    | ok i => intro v F1 H1 w1 r1; simp only [e1] at h; exact ⟨rfl, _, rfl, by rw [opt_non r1]; exact (PoB.on h w1).ret w1.s⟩
    | er c' fs => simp only [e1] at h; exact h
    | no => simp only [e1] at h; exact h
/-- a value known to be there -/
def someX {α : Type} (o : Option α) : Xc α := match o with
  | some a => .ok a
  | none => .no
theorem fe_some {fa : γ → Xc (Option α)} (ha : FE X c G a fa) : FE X c G a (fun g => (fa g).bind someX) :=
  PE.imp ha fun σ H Q ⟨F, g, w, q, h⟩ => by
    refine ⟨F, g, w, q, ?_⟩
    cases e1 : fa g with
    | ok i =>
      simp only [e1] at h
      cases i with
      | none => exact h.elim
      | some i => intro v F1 H1 w1 r1; exact h v F1 H1 w1 r1.2
    | er c' fs => simp only [e1] at h; exact h
    | no => simp only [e1] at h; exact h
/-- a value as one that may be there -/
class NotNone (α : Type) [Rp α] : Prop where
  ne : ∀ {K F v} {a : α}, Rp.is K F v a → v ≠ .non
instance : NotNone Int := ⟨fun h => by have h : _ = V.int _ := h; subst h; intro z; cases z⟩
instance : NotNone Bool := ⟨fun h => by have h : _ = V.bl _ := h; subst h; intro z; cases z⟩
instance : NotNone Str := ⟨fun h => by have h : _ = V.str _ := h.1; subst h; intro z; cases z⟩
instance {α : Type} [Rp α] : NotNone (List α) := ⟨fun ⟨p, xs, h, _⟩ => by subst h; intro z; cases z⟩
instance {α : Type} [Rp α] : NotNone (Tu α) := ⟨fun ⟨p, xs, h, _⟩ => by subst h; intro z; cases z⟩
instance {α β : Type} [Rp α] [Rp β] : NotNone (α × β) := ⟨fun ⟨p, x, y, h, _⟩ => by subst h; intro z; cases z⟩
instance {α β γ : Type} [Rp α] [Rp β] [Rp γ] : NotNone (T3 α β γ) := ⟨fun ⟨p, x, y, _, h, _⟩ => by subst h; intro z; cases z⟩
instance {α β γ δ : Type} [Rp α] [Rp β] [Rp γ] [Rp δ] : NotNone (T4 α β γ δ) := ⟨fun ⟨p, x, y, _, _, h, _⟩ => by subst h; intro z; cases z⟩
theorem fe_opt [NotNone α] {fa : γ → Xc α} (ha : FE X c G a fa) : FE X c G a (fun g => (fa g).bind fun i => Xc.ok (some i)) :=
  PE.imp ha fun σ H Q ⟨F, g, w, q, h⟩ => by
    refine ⟨F, g, w, q, ?_⟩
    cases e1 : fa g with
    | ok i => simp only [e1] at h; exact fun v F1 H1 w1 r1 => h v F1 H1 w1 ⟨NotNone.ne r1, r1⟩
    | er c' fs => simp only [e1] at h; exact h
    | no => simp only [e1] at h; exact h
theorem fe_nopt {fa : γ → Xc Unit} (ha : FE X c G a fa) : FE X c G a (fun g => (fa g).bind fun _ => Xc.ok (none : Option α)) :=
  PE.imp ha fun σ H Q ⟨F, g, w, q, h⟩ => by
    refine ⟨F, g, w, q, ?_⟩
    cases e1 : fa g with
    | ok i => simp only [e1] at h; exact fun v F1 H1 w1 r1 => h v F1 H1 w1 r1
    | er c' fs => simp only [e1] at h; exact h
    | no => simp only [e1] at h; exact h

/-! ### tests -/
variable {rest : List Expr} {fa fb : γ → Xc Bool}
theorem ft_val (ha : FE X c G a fa) (he : ∀ whole, isTrue a X.env whole = (do let v ← whole; standAt a.pos; holding [v] (truthy v)) := by intro _; rfl) : FT X c G a fa :=
  PT.imp (pt_val ha he) fun σ H Q ⟨F, g, w, q, h⟩ => by
    refine ⟨F, g, w, q, ?_⟩
    cases e1 : fa g with
    | ok i => intro v F1 H1 w1 r1; rw [e1] at h; exact ⟨i, r1, h F1 H1 w1⟩
    | er c' fs => rw [e1] at h; exact h
    | no => rw [e1] at h; exact h
theorem ft_not (ha : FT X c G a fa) : FT X c G (.UnaryOp .Not a pos) (fun g => (fa g).bind fun i => Xc.ok (!i)) :=
  PT.imp (pt_not ha) fun σ H Q ⟨F, g, w, q, h⟩ => by
    refine ⟨F, g, w, q, ?_⟩
    cases e1 : fa g with
    | ok i => intro F1 H1 w1; simp only [e1] at h; exact h F1 H1 w1
    | er c' fs => simp only [e1] at h; exact h
    | no => simp only [e1] at h; exact h
/-- a test in a chain of and, or -/
def FW (X : Cx) (c : C0) (G : EnvT γ) (e : Expr) (f : γ → Xc Bool) : Prop := PW X e (tT X.K c G f)
theorem ft_w (h : FW X c G e fa) : FT X c G e fa := PW.pt h
theorem fw_and1 (ha : FT X c G a fa) : FW X c G (.BoolOp .And [a] pos) fa := pw_and1 ha
theorem fw_or1 (ha : FT X c G a fa) : FW X c G (.BoolOp .Or [a] pos) fa := pw_or1 ha
theorem PW.imp {e : Expr} {t t' : TT} (h : PW X e t) (i : ∀ σ H Q, t' σ H Q → t σ H Q) : PW X e t' := ⟨fun wh pins s σ H Q I q => h.run wh pins s σ H Q I (i σ H Q q)⟩
theorem fw_and (ha : FT X c G a fa) (hb : FW X c G (.BoolOp .And (b :: rest) pos) fb) : FW X c G (.BoolOp .And (a :: b :: rest) pos) (fun g => (fa g).bind fun i => if i = true then fb g else Xc.ok false) :=
  PW.imp (pw_and ha hb) fun σ H Q ⟨F, g, w, q, h⟩ => by
    refine ⟨F, g, w, q, ?_⟩
    cases e1 : fa g with
    | ok i =>
      intro F1 H1 w1
      simp only [e1] at h
      cases i with
      | true => exact iteT ⟨F1, g, w.trans w1, G.mono q w1, PoB.on h w1⟩
      | false => exact iteF ((PoB.on h w1).ret w1.s)
    | er c' fs => simp only [e1] at h; exact h
    | no => simp only [e1] at h; exact h
theorem fw_or (ha : FT X c G a fa) (hb : FW X c G (.BoolOp .Or (b :: rest) pos) fb) : FW X c G (.BoolOp .Or (a :: b :: rest) pos) (fun g => (fa g).bind fun i => if i = true then Xc.ok true else fb g) :=
  PW.imp (pw_or ha hb) fun σ H Q ⟨F, g, w, q, h⟩ => by
    refine ⟨F, g, w, q, ?_⟩
    cases e1 : fa g with
    | ok i =>
      intro F1 H1 w1
      simp only [e1] at h
      cases i with
      | true => exact iteT ((PoB.on h w1).ret w1.s)
      | false => exact iteF ⟨F1, g, w.trans w1, G.mono q w1, PoB.on h w1⟩
    | er c' fs => simp only [e1] at h; exact h
    | no => simp only [e1] at h; exact h
/-- .. as values -/
theorem fe_one {op} (h : FE X c G a fa) : FE X c G (.BoolOp op [a] pos) fa := pe_one h
theorem fe_and (ha : FE X c G a fa) (hb : FE X c G (.BoolOp .And (b :: rest) pos) fb) : FE X c G (.BoolOp .And (a :: b :: rest) pos) (fun g => (fa g).bind fun i => if i = true then fb g else Xc.ok false) :=
  PE.imp (pe_and ha hb) fun σ H Q ⟨F, g, w, q, h⟩ => by
    refine ⟨F, g, w, q, ?_⟩
    cases e1 : fa g with
    | ok i =>
      intro v F1 H1 w1 r1
      simp only [e1] at h
      refine ⟨i, r1, ?_⟩
      cases i with
      | true => exact iteT ⟨F1, g, w.trans w1, G.mono q w1, Po.on h w1⟩
      | false => exact iteF ((Po.on h w1).ret w1.s rfl)
    | er c' fs => simp only [e1] at h; exact h
    | no => simp only [e1] at h; exact h
theorem fe_or (ha : FE X c G a fa) (hb : FE X c G (.BoolOp .Or (b :: rest) pos) fb) : FE X c G (.BoolOp .Or (a :: b :: rest) pos) (fun g => (fa g).bind fun i => if i = true then Xc.ok true else fb g) :=
  PE.imp (pe_or ha hb) fun σ H Q ⟨F, g, w, q, h⟩ => by
    refine ⟨F, g, w, q, ?_⟩
    cases e1 : fa g with
    | ok i =>
      intro v F1 H1 w1 r1
      simp only [e1] at h
      refine ⟨i, r1, ?_⟩
      cases i with
      | true => exact iteT ((Po.on h w1).ret w1.s rfl)
      | false => exact iteF ⟨F1, g, w.trans w1, G.mono q w1, Po.on h w1⟩
    | er c' fs => simp only [e1] at h; exact h
    | no => simp only [e1] at h; exact h
theorem fe_not (ha : FE X c G a fa) : FE X c G (.UnaryOp .Not a pos) (fun g => (fa g).bind fun i => Xc.ok (!i)) :=
  PE.imp (pe_not ha) fun σ H Q ⟨F, g, w, q, h⟩ => by
    refine ⟨F, g, w, q, ?_⟩
    cases e1 : fa g with
    | ok i => intro v F1 H1 w1 r1; simp only [e1] at h; exact ⟨i, r1, (Po.on h w1).ret w1.s rfl⟩
    | er c' fs => simp only [e1] at h; exact h
    | no => simp only [e1] at h; exact h
theorem fe_if {t : Expr} {ft : γ → Xc Bool} {f1 f2 : γ → Xc α} (ht : FT X c G t ft) (ha : FE X c G a f1) (hb : FE X c G b f2) : FE X c G (.IfExp t a b pos) (fun g => (ft g).bind fun i => if i = true then f1 g else f2 g) :=
  PE.imp (pe_ifExp ht ha hb) fun σ H Q ⟨F, g, w, q, h⟩ => by
    refine ⟨F, g, w, q, ?_⟩
    cases e1 : ft g with
    | ok i =>
      intro F1 H1 w1
      simp only [e1] at h
      cases i with
      | true => exact iteT ⟨F1, g, w.trans w1, G.mono q w1, Po.on h w1⟩
      | false => exact iteF ⟨F1, g, w.trans w1, G.mono q w1, Po.on h w1⟩
    | er c' fs => simp only [e1] at h; exact h
    | no => simp only [e1] at h; exact h
end
end FL

/-! FL3: arguments, displays, lists of one's own, subscripts, slices, texts, built-in calls. -/
namespace FL
open PySem L2
/-! ### arguments -/
class Rps (αs : Type) where
  isL : PySem.W.Frag → Hp → List V → αs → Prop
  mono : ∀ {K F F' vs as}, Same F F' → isL K F vs as → isL K F' vs as
instance : Rps Unit := ⟨fun _ _ vs _ => vs = [], fun _ h => h⟩
instance {α αs : Type} [Rp α] [Rps αs] : Rps (α × αs) := ⟨fun K F vs a => ∃ v r, vs = v :: r ∧ Rp.is K F v a.1 ∧ Rps.isL K F r a.2, fun s ⟨v, r, e, h, t⟩ => ⟨v, r, e, Rp.mono s h, Rps.mono s t⟩⟩
def PoA {αs : Type} [Rps αs] (K : PySem.W.Frag) (F H : Hp) (Q : List V → Hp → Prop) (E : XK) (m : Xc αs) : Prop := match m with
  | .ok a => ∀ vs F' H', Wd F H F' H' → Rps.isL K F' vs a → Q vs H'
  | .er c fs => ErP K F H E c fs
  | .no => False
theorem PoA.on {αs : Type} [Rps αs] {K : PySem.W.Frag} {F H F' H' : Hp} {Q : List V → Hp → Prop} {E : XK} {m : Xc αs} (h : PoA K F H Q E m) (w : Wd F H F' H') : PoA K F' H' Q E m := by
  cases m with
  | ok a => exact fun v F2 H2 w2 r => h v F2 H2 (w.trans w2) r
  | er c fs => exact ErP.on h w
  | no => exact h
/-- what a list of one's own gives: a new list, not frozen -/
def PoO {α : Type} [Rp α] (K : PySem.W.Frag) (F H : Hp) (Q : VK) (E : XK) (m : Xc (List α)) : Prop := match m with
  | .ok l => ∀ p xs F' H', Wd F H F' H' → H p = none → F' p = none → H' p = some (.lst xs) → l.length ≤ sizeLine → Al K F' xs l → Q (.ref p) H'
  | .er c fs => ErP K F H E c fs
  | .no => False
theorem PoO.on {α : Type} [Rp α] {K : PySem.W.Frag} {F H F' H' : Hp} {Q : VK} {E : XK} {m : Xc (List α)} (h : PoO K F H Q E m) (w : Wd F H F' H') : PoO K F' H' Q E m := by
  cases m with
  | ok a => exact fun p xs F2 H2 w2 n => h p xs F2 H2 (w.trans w2) (w.h.free n)
  | er c fs => exact ErP.on h w
  | no => exact h
/-- to freeze a list -/
theorem Wd.fz {F H F' H' : Hp} {p : Addr} {xs : List V} (w : Wd F H F' H') (n : H p = none) (f : F' p = none) (h : H' p = some (.lst xs)) : Wd F H (upd F' p (.lst xs)) H' :=
  ⟨w.f.trans (same_new f), w.h, fun b u e => by
    by_cases q : b = p
    · subst q; rw [upd_same] at e; rw [h]; exact e
    · rw [upd_ne q] at e; exact w.s b u e, fun b h' e => by
    by_cases q : b = p
    · subst q; exact n
    · rw [upd_ne q] at h'; exact w.n b h' e⟩
theorem Wd.ns {F H F' H' : Hp} (w : Wd F H F' H') (s : Same F H) {p : Addr} (n : H p = none) : F p = none := s.free n
section
variable {X : Cx} {c : C0} {γ α β δ αs : Type} {G : EnvT γ} [Rp α] [Rp β] [Rp δ] [Rps αs] {a b e : Expr} {pos : Pos} {es : List Expr}
def tA (K : PySem.W.Frag) (c : C0) (G : EnvT γ) (f : γ → Xc αs) : TA := fun σ H Q => ∃ F g, Wd c.F0 c.H0 F H ∧ G.rel K c.H0 F H σ g ∧ PoA K F H Q (WE c.W σ) (f g)
def FA (X : Cx) (c : C0) (G : EnvT γ) (es : List Expr) (f : γ → Xc αs) : Prop := PA X es (tA X.K c G f)
def tO (K : PySem.W.Frag) (c : C0) (G : EnvT γ) (f : γ → Xc (List α)) : TE := fun σ H Q => ∃ F g, Wd c.F0 c.H0 F H ∧ G.rel K c.H0 F H σ g ∧ PoO K F H Q (WE c.W σ) (f g)
/-- e computes a list that is new and one's own -/
def FO (X : Cx) (c : C0) (G : EnvT γ) (e : Expr) (f : γ → Xc (List α)) : Prop := PE X e (tO X.K c G f)
theorem PA.imp {t t' : TA} (h : PA X es t) (i : ∀ σ H Q, t' σ H Q → t σ H Q) : PA X es t' := ⟨fun pos pins s σ H Q I q => h.run pos pins s σ H Q I (i σ H Q q)⟩
theorem fa_nil : FA X c G [] (fun _ => Xc.ok ()) := PA.imp pa_nil fun σ H Q ⟨F, g, w, q, h⟩ => h [] F H (Wd.refl w.s) rfl
theorem fa_cons {f : γ → Xc α} {fs : γ → Xc αs} (ha : FE X c G e f) (hr : FA X c G es fs) (hs : starEach (e :: es) X.env = (false, eval e X.env) :: starEach es X.env := by rfl) :
    FA X c G (e :: es) (fun g => (f g).bind fun i => (fs g).bind fun r => Xc.ok (i, r)) :=
  PA.imp (pa_cons ha hr hs) fun σ H Q ⟨F, g, w, q, h⟩ => by
    refine ⟨F, g, w, q, ?_⟩
    cases e1 : f g with
    | ok i =>
      intro v F1 H1 w1 r1
      simp only [e1] at h
      have h : PoA X.K F H Q (WE c.W σ) ((fs g).bind fun r => Xc.ok (i, r)) := h
      refine ⟨F1, g, w.trans w1, G.mono q w1, ?_⟩
      cases e2 : fs g with
      | ok r =>
        intro vs F2 H2 w2 r2
        simp only [e2] at h
        exact h (v :: vs) F2 H2 (w1.trans w2) ⟨v, vs, rfl, Rp.mono w2.f r1, r2⟩
      | er c' fs => simp only [e2] at h; exact ErP.on h w1
      | no => simp only [e2] at h; exact h
    | er c' fs => simp only [e1] at h; exact h
    | no => simp only [e1] at h; exact h
/-- an own list as a frozen one -/
theorem fe_fz {f : γ → Xc (List α)} (h : FO X c G e f) : FE X c G e f :=
  PE.imp h fun σ H Q ⟨F, g, w, q, p⟩ => by
    refine ⟨F, g, w, q, ?_⟩
    cases e1 : f g with
    | ok l =>
      intro p1 xs F1 H1 w1 n f1 h1 hl r
      rw [e1] at p
      exact p (.ref p1) _ H1 (w1.fz n f1 h1) ⟨p1, xs, rfl, SqL.of upd_same, hl, r.mono (same_new f1)⟩
    | er c' fs => rw [e1] at p; exact p
    | no => rw [e1] at p; exact p
theorem FO.cast {f f' : γ → Xc (List α)} (h : FO X c G e f) (i : ∀ g, f' g = f g) : FO X c G e f' := by
  rw [show f' = f from funext i]; exact h
end

/-! ### displays -/
def PoH {α : Type} [Rp α] (K : PySem.W.Frag) (F H : Hp) (Q : List V → Hp → Prop) (E : XK) (m : Xc (List α)) : Prop := match m with
  | .ok a => ∀ vs F' H', Wd F H F' H' → Al K F' vs a → Q vs H'
  | .er c fs => ErP K F H E c fs
  | .no => False
theorem PoH.on {α : Type} [Rp α] {K : PySem.W.Frag} {F H F' H' : Hp} {Q : List V → Hp → Prop} {E : XK} {m : Xc (List α)} (h : PoH K F H Q E m) (w : Wd F H F' H') : PoH K F' H' Q E m := by
  cases m with
  | ok a => exact fun v F2 H2 w2 r => h v F2 H2 (w.trans w2) r
  | er c fs => exact ErP.on h w
  | no => exact h
section
variable {X : Cx} {c : C0} {γ α β δ ε : Type} {G : EnvT γ} [Rp α] [Rp β] [Rp δ] [Rp ε] {a b e d e' : Expr} {pos : Pos} {es : List Expr}
def tH (K : PySem.W.Frag) (c : C0) (G : EnvT γ) (f : γ → Xc (List α)) : TA := fun σ H Q => ∃ F g, Wd c.F0 c.H0 F H ∧ G.rel K c.H0 F H σ g ∧ PoH K F H Q (WE c.W σ) (f g)
/-- expressions in a row, all of one kind -/
def FH (X : Cx) (c : C0) (G : EnvT γ) (es : List Expr) (f : γ → Xc (List α)) : Prop := PA X es (tH X.K c G f)
theorem fh_nil : FH X c G [] (fun _ => Xc.ok ([] : List α)) := PA.imp pa_nil fun σ H Q ⟨F, g, w, q, h⟩ => h [] F H (Wd.refl w.s) .nil
theorem fh_cons {f : γ → Xc α} {fs : γ → Xc (List α)} (ha : FE X c G e f) (hr : FH X c G es fs) (hs : starEach (e :: es) X.env = (false, eval e X.env) :: starEach es X.env := by rfl) :
    FH X c G (e :: es) (fun g => (f g).bind fun i => (fs g).bind fun r => Xc.ok (i :: r)) :=
  PA.imp (pa_cons ha hr hs) fun σ H Q ⟨F, g, w, q, h⟩ => by
    refine ⟨F, g, w, q, ?_⟩
    cases e1 : f g with
    | ok i =>
      intro v F1 H1 w1 r1
      simp only [e1] at h
      have h : PoH X.K F H Q (WE c.W σ) ((fs g).bind fun r => Xc.ok (i :: r)) := h
      refine ⟨F1, g, w.trans w1, G.mono q w1, ?_⟩
      cases e2 : fs g with
      | ok r =>
        intro vs F2 H2 w2 r2
        simp only [e2] at h
        exact h (v :: vs) F2 H2 (w1.trans w2) (.cons (Rp.mono w2.f r1) r2)
      | er c' fs => simp only [e2] at h; exact ErP.on h w1
      | no => simp only [e2] at h; exact h
    | er c' fs => simp only [e1] at h; exact h
    | no => simp only [e1] at h; exact h
theorem small_line {n : Nat} (h : n ≤ 1000) : n ≤ sizeLine := Nat.le_trans h (by rw [sizeLine_eq]; decide)
@[irreducible] def szX {α : Type} (l : List α) : Xc (List α) := if l.length ≤ sizeLine then .ok l else .no
theorem fe_tup2 {x1} {fa : γ → Xc α} {fb : γ → Xc β} (ha : FE X c G a fa) (hb : FE X c G b fb) (hs : starEach [a, b] X.env = (false, eval a X.env) :: starEach [b] X.env := by rfl) (hs2 : starEach [b] X.env = (false, eval b X.env) :: starEach [] X.env := by rfl) :
    FE X c G (.Tuple [a, b] x1 pos) (fun g => (fa g).bind fun i => (fb g).bind fun j => Xc.ok (i, j)) :=
  PE.imp (pe_tup (fa_cons ha (fa_cons hb fa_nil hs2) hs)) fun σ H Q ⟨F, g, w, q, p⟩ => by
    refine ⟨F, g, w, q, ?_⟩
    cases e1 : fa g with
    | ok i =>
      cases e2 : fb g with
      | ok j =>
        simp only [e1, e2] at p ⊢
        intro vs F1 H1 w1 r1
        obtain ⟨v, r, e3, q1, ⟨u, r2, e4, q2, e5⟩⟩ := r1
        subst e5 e4 e3
        refine ⟨small_line (by decide : 2 ≤ 1000), fun l hl => ?_⟩
        have w2 := Wd.new (o := .tup [v, u]) w1.s hl
        exact p (.ref l) _ _ (w1.trans w2) ⟨l, v, u, rfl, SqT.of upd_same, Rp.mono w2.f q1, Rp.mono w2.f q2⟩
      | er c' fs => simp only [e1, e2] at p ⊢; exact p
      | no => simp only [e1, e2] at p ⊢; exact p
    | er c' fs => simp only [e1] at p ⊢; exact p
    | no => simp only [e1] at p ⊢; exact p
theorem fe_tup3 {x1} {fa : γ → Xc α} {fb : γ → Xc β} {fd : γ → Xc δ} (ha : FE X c G a fa) (hb : FE X c G b fb) (hd : FE X c G d fd) (hs : starEach [a, b, d] X.env = (false, eval a X.env) :: starEach [b, d] X.env := by rfl)
    (hs2 : starEach [b, d] X.env = (false, eval b X.env) :: starEach [d] X.env := by rfl) (hs3 : starEach [d] X.env = (false, eval d X.env) :: starEach [] X.env := by rfl) :
    FE X c G (.Tuple [a, b, d] x1 pos) (fun g => (fa g).bind fun i => (fb g).bind fun j => (fd g).bind fun m => Xc.ok (T3.mk i j m)) :=
  PE.imp (pe_tup (fa_cons ha (fa_cons hb (fa_cons hd fa_nil hs3) hs2) hs)) fun σ H Q ⟨F, g, w, q, p⟩ => by
    refine ⟨F, g, w, q, ?_⟩
    cases e1 : fa g with
    | ok i =>
      cases e2 : fb g with
      | ok j =>
        cases e3 : fd g with
        | ok m =>
          simp only [e1, e2, e3] at p ⊢
          intro vs F1 H1 w1 r1
          obtain ⟨v, r, y1, q1, ⟨u, r2, y2, q2, ⟨z, r3, y3, q3, y4⟩⟩⟩ := r1
          subst y4 y3 y2 y1
          refine ⟨small_line (by decide : 3 ≤ 1000), fun l hl => ?_⟩
          have w2 := Wd.new (o := .tup [v, u, z]) w1.s hl
          exact p (.ref l) _ _ (w1.trans w2) ⟨l, v, u, z, rfl, SqT.of upd_same, Rp.mono w2.f q1, Rp.mono w2.f q2, Rp.mono w2.f q3⟩
        | er c' fs => simp only [e1, e2, e3] at p ⊢; exact p
        | no => simp only [e1, e2, e3] at p ⊢; exact p
      | er c' fs => simp only [e1, e2] at p ⊢; exact p
      | no => simp only [e1, e2] at p ⊢; exact p
    | er c' fs => simp only [e1] at p ⊢; exact p
    | no => simp only [e1] at p ⊢; exact p
theorem fe_tup4 {x1} {fa : γ → Xc α} {fb : γ → Xc β} {fd : γ → Xc δ} {fe : γ → Xc ε} (ha : FE X c G a fa) (hb : FE X c G b fb) (hd : FE X c G d fd) (he : FE X c G e' fe) (hs : starEach [a, b, d, e'] X.env = (false, eval a X.env) :: starEach [b, d, e'] X.env := by rfl)
    (hs2 : starEach [b, d, e'] X.env = (false, eval b X.env) :: starEach [d, e'] X.env := by rfl) (hs3 : starEach [d, e'] X.env = (false, eval d X.env) :: starEach [e'] X.env := by rfl) (hs4 : starEach [e'] X.env = (false, eval e' X.env) :: starEach [] X.env := by rfl) :
    FE X c G (.Tuple [a, b, d, e'] x1 pos) (fun g => (fa g).bind fun i => (fb g).bind fun j => (fd g).bind fun m => (fe g).bind fun n => Xc.ok (T4.mk i j m n)) :=
  PE.imp (pe_tup (fa_cons ha (fa_cons hb (fa_cons hd (fa_cons he fa_nil hs4) hs3) hs2) hs)) fun σ H Q ⟨F, g, w, q, p⟩ => by
    refine ⟨F, g, w, q, ?_⟩
    cases e1 : fa g with
    | ok i =>
      cases e2 : fb g with
      | ok j =>
        cases e3 : fd g with
        | ok m =>
          cases e4 : fe g with
          | ok n =>
            simp only [e1, e2, e3, e4] at p ⊢
            intro vs F1 H1 w1 r1
            obtain ⟨v, r, y1, q1, ⟨u, r2, y2, q2, ⟨z, r3, y3, q3, ⟨t, r4, y4, q4, y5⟩⟩⟩⟩ := r1
            subst y5 y4 y3 y2 y1
            refine ⟨small_line (by decide : 4 ≤ 1000), fun l hl => ?_⟩
            have w2 := Wd.new (o := .tup [v, u, z, t]) w1.s hl
            exact p (.ref l) _ _ (w1.trans w2) ⟨l, v, u, z, t, rfl, SqT.of upd_same, Rp.mono w2.f q1, Rp.mono w2.f q2, Rp.mono w2.f q3, Rp.mono w2.f q4⟩
          | er c' fs => simp only [e1, e2, e3, e4] at p ⊢; exact p
          | no => simp only [e1, e2, e3, e4] at p ⊢; exact p
        | er c' fs => simp only [e1, e2, e3] at p ⊢; exact p
        | no => simp only [e1, e2, e3] at p ⊢; exact p
      | er c' fs => simp only [e1, e2] at p ⊢; exact p
      | no => simp only [e1, e2] at p ⊢; exact p
    | er c' fs => simp only [e1] at p ⊢; exact p
    | no => simp only [e1] at p ⊢; exact p
/-- a tuple of items of one kind -/
theorem fe_tupU {x1} {fs : γ → Xc (List α)} (h : FH X c G es fs) : FE X c G (.Tuple es x1 pos) (fun g => (fs g).bind fun l => (szX l).bind fun l => Xc.ok (tu l)) :=
  PE.imp (pe_tup h) fun σ H Q ⟨F, g, w, q, p⟩ => by
    refine ⟨F, g, w, q, ?_⟩
    cases e1 : fs g with
    | ok l =>
      intro vs F1 H1 w1 r1
      simp only [e1] at p
      have p : Po X.K F H Q (WE c.W σ) ((szX l).bind fun l => Xc.ok (tu l)) := p
      unfold szX at p
      by_cases hz : l.length ≤ sizeLine
      · rw [if_pos hz] at p
        refine ⟨by rw [r1.len]; exact hz, fun t ht => ?_⟩
        have w2 := Wd.new (o := .tup vs) w1.s ht
        exact p (.ref t) _ _ (w1.trans w2) ⟨t, vs, rfl, SqT.of upd_same, hz, r1.mono w2.f⟩
      · rw [if_neg hz] at p; exact p.elim
    | er c' fs => simp only [e1] at p; exact p
    | no => simp only [e1] at p; exact p
theorem fo_lst {fs : γ → Xc (List α)} (h : FH X c G es fs) : FO X c G (.List es pos) (fun g => (fs g).bind szX) :=
  PE.imp (pe_lst h) fun σ H Q ⟨F, g, w, q, p⟩ => by
    refine ⟨F, g, w, q, ?_⟩
    cases e1 : fs g with
    | ok l =>
      intro vs F1 H1 w1 r1
      simp only [e1] at p
      have p : PoO X.K F H Q (WE c.W σ) (szX l) := p
      unfold szX at p
      by_cases hz : l.length ≤ sizeLine
      · rw [if_pos hz] at p
        refine ⟨by rw [r1.len]; exact hz, fun t ht => ?_⟩
        exact p t vs F1 _ (w1.trans (Wd.newO w1.s ht)) (w1.h.free ht) (w1.s.free ht) upd_same hz r1
      · rw [if_neg hz] at p; exact p.elim
    | er c' fs => simp only [e1] at p; exact p
    | no => simp only [e1] at p; exact p
theorem fo_nil : FO X c G (.List [] pos) (fun _ => Xc.ok ([] : List α)) :=
  PE.imp (pe_lst pa_nil) fun σ H Q ⟨F, g, w, q, p⟩ => by
    refine ⟨Nat.zero_le _, fun l hl => ?_⟩
    exact p l [] F _ (Wd.newO w.s hl) hl (w.s.free hl) upd_same (Nat.zero_le _) .nil
end

/-! ### subscripts -/
@[irreducible] def getX {α : Type} (l : List α) (i : Int) : Xc α := match atI l i with
  | some a => .ok a
  | none => .no
theorem atI_al {α : Type} [Rp α] {K : PySem.W.Frag} {F : Hp} {xs : List V} {l : List α} {i : Int} {a : α} (r : Al K F xs l) (h : atI l i = some a) : ∃ v, atI xs i = some v ∧ Rp.is K F v a := by
  unfold atI at h ⊢
  rw [r.len]
  cases e : ixN l.length i with
  | none => rw [e] at h; cases h
  | some j =>
    rw [e] at h
    exact r.get' (show l[j]? = some a from h)
@[irreducible] def chX (z : Str) (i : Int) : Xc Str := match atI z.cps.toList i with
  | some k => .ok ⟨#[k]⟩
  | none => .no
theorem one_le_line : 1 ≤ sizeLine := by rw [sizeLine_eq]; decide
section
variable {X : Cx} {c : C0} {γ α β δ τ : Type} {G : EnvT γ} [Rp α] [Rp β] [Rp δ] {a b e : Expr} {pos : Pos} {es : List Expr}
theorem fe_ixL {fa : γ → Xc (List α)} {fi : γ → Xc Int} (ha : FE X c G a fa) (hb : FE X c G b fi) (hs : PlainIx b := by exact fun _ _ => rfl) : FE X c G (.Subscript a b pos) (fun g => (fa g).bind fun l => (fi g).bind fun i => getX l i) :=
  two (fun h1 h2 => pe_ix ix_list h1 h2 hs) ha hb fun {F H x y l i Q E} s r1 r2 p => by
    obtain ⟨q, xs, e, hq, z, r⟩ := r1
    unfold getX at p
    cases h : atI l i with
    | none => rw [h] at p; exact p.elim
    | some v =>
      rw [h] at p
      obtain ⟨u, hu, ru⟩ := atI_al r h
      exact ⟨q, xs, i, u, e, r2, Same.seq s hq, hu, p.ret s ru⟩
theorem fe_ixU {fa : γ → Xc (Tu α)} {fi : γ → Xc Int} (ha : FE X c G a fa) (hb : FE X c G b fi) (hs : PlainIx b := by exact fun _ _ => rfl) : FE X c G (.Subscript a b pos) (fun g => (fa g).bind fun l => (fi g).bind fun i => getX (Tu.l l) i) :=
  two (fun h1 h2 => pe_ix ix_tup h1 h2 hs) ha hb fun {F H x y l i Q E} s r1 r2 p => by
    obtain ⟨q, xs, e, hq, z, r⟩ := r1
    unfold getX at p
    cases h : atI (Tu.l l) i with
    | none => rw [h] at p; exact p.elim
    | some v =>
      rw [h] at p
      obtain ⟨u, hu, ru⟩ := atI_al r h
      exact ⟨q, xs, i, u, e, r2, Same.seqT s hq, hu, p.ret s ru⟩
theorem fe_ixS {fa : γ → Xc Str} {fi : γ → Xc Int} (ha : FE X c G a fa) (hb : FE X c G b fi) (hs : PlainIx b := by exact fun _ _ => rfl) : FE X c G (.Subscript a b pos) (fun g => (fa g).bind fun l => (fi g).bind fun i => chX l i) :=
  two (fun h1 h2 => pe_ix ix_str h1 h2 hs) ha hb fun {F H x y l i Q E} s r1 r2 p => by
    unfold chX at p
    cases h : atI l.cps.toList i with
    | none => rw [h] at p; exact p.elim
    | some v =>
      rw [h] at p
      exact ⟨l, i, v, r1.1, r2, r1.2, h, p.ret s ⟨rfl, one_le_line⟩⟩
/-- t[k] of a written place -/
theorem fe_itm {fa : γ → Xc τ} [Rp τ] {π : τ → α} {k : Int} {j p} (hπ : ∀ {K F v} {t : τ}, Rp.is K F v t → ∃ q xs u, v = .ref q ∧ SqT K F q xs ∧ atI xs k = some u ∧ Rp.is K F u (π t)) (ha : FE X c G a fa) :
    FE X c G (.Subscript a (.Constant (.int k) j p) pos) (fun g => (fa g).bind fun t => Xc.ok (π t)) :=
  PE.imp (pe_ix ix_tup ha pe_int (fun _ _ => rfl)) fun σ H Q ⟨F, g, w, q, h⟩ => by
    refine ⟨F, g, w, q, ?_⟩
    cases e1 : fa g with
    | ok t =>
      intro v F1 H1 w1 r1
      simp only [e1] at h
      obtain ⟨q, xs, u, e, hq, hu, r⟩ := hπ r1
      exact ⟨q, xs, k, u, e, rfl, Same.seqT w1.s hq, hu, (Po.on h w1).ret w1.s r⟩
    | er c' fs => simp only [e1] at h; exact h
    | no => simp only [e1] at h; exact h
variable {ε ζ : Type} [Rp ε] [Rp ζ] {j : Nat} {p : Pos}
theorem fe_p0 {fa : γ → Xc (α × β)} (ha : FE X c G a fa) : FE X c G (.Subscript a (.Constant (.int 0) j p) pos) (fun g => (fa g).bind fun t => Xc.ok t.1) :=
  fe_itm (fun h => by obtain ⟨q, x, y, e, h, r1, r2⟩ := h; exact ⟨q, _, x, e, h, atI_nat (j := 0) rfl, r1⟩) ha
theorem fe_p1 {fa : γ → Xc (α × β)} (ha : FE X c G a fa) : FE X c G (.Subscript a (.Constant (.int 1) j p) pos) (fun g => (fa g).bind fun t => Xc.ok t.2) :=
  fe_itm (fun h => by obtain ⟨q, x, y, e, h, r1, r2⟩ := h; exact ⟨q, _, y, e, h, atI_nat (j := 1) rfl, r2⟩) ha
theorem fe_t0 {fa : γ → Xc (T3 α β ε)} (ha : FE X c G a fa) : FE X c G (.Subscript a (.Constant (.int 0) j p) pos) (fun g => (fa g).bind fun t => Xc.ok t.a) :=
  fe_itm (fun h => by obtain ⟨q, x, y, z, e, h, r1, r2, r3⟩ := h; exact ⟨q, _, x, e, h, atI_nat (j := 0) rfl, r1⟩) ha
theorem fe_t1 {fa : γ → Xc (T3 α β ε)} (ha : FE X c G a fa) : FE X c G (.Subscript a (.Constant (.int 1) j p) pos) (fun g => (fa g).bind fun t => Xc.ok t.b) :=
  fe_itm (fun h => by obtain ⟨q, x, y, z, e, h, r1, r2, r3⟩ := h; exact ⟨q, _, y, e, h, atI_nat (j := 1) rfl, r2⟩) ha
theorem fe_t2 {fa : γ → Xc (T3 α β ε)} (ha : FE X c G a fa) : FE X c G (.Subscript a (.Constant (.int 2) j p) pos) (fun g => (fa g).bind fun t => Xc.ok t.c) :=
  fe_itm (fun h => by obtain ⟨q, x, y, z, e, h, r1, r2, r3⟩ := h; exact ⟨q, _, z, e, h, atI_nat (j := 2) rfl, r3⟩) ha
theorem fe_q0 {fa : γ → Xc (T4 α β ε ζ)} (ha : FE X c G a fa) : FE X c G (.Subscript a (.Constant (.int 0) j p) pos) (fun g => (fa g).bind fun t => Xc.ok t.a) :=
  fe_itm (fun h => by obtain ⟨q, x, y, z, u, e, h, r1, r2, r3, r4⟩ := h; exact ⟨q, _, x, e, h, atI_nat (j := 0) rfl, r1⟩) ha
theorem fe_q1 {fa : γ → Xc (T4 α β ε ζ)} (ha : FE X c G a fa) : FE X c G (.Subscript a (.Constant (.int 1) j p) pos) (fun g => (fa g).bind fun t => Xc.ok t.b) :=
  fe_itm (fun h => by obtain ⟨q, x, y, z, u, e, h, r1, r2, r3, r4⟩ := h; exact ⟨q, _, y, e, h, atI_nat (j := 1) rfl, r2⟩) ha
theorem fe_q2 {fa : γ → Xc (T4 α β ε ζ)} (ha : FE X c G a fa) : FE X c G (.Subscript a (.Constant (.int 2) j p) pos) (fun g => (fa g).bind fun t => Xc.ok t.c) :=
  fe_itm (fun h => by obtain ⟨q, x, y, z, u, e, h, r1, r2, r3, r4⟩ := h; exact ⟨q, _, z, e, h, atI_nat (j := 2) rfl, r3⟩) ha
theorem fe_q3 {fa : γ → Xc (T4 α β ε ζ)} (ha : FE X c G a fa) : FE X c G (.Subscript a (.Constant (.int 3) j p) pos) (fun g => (fa g).bind fun t => Xc.ok t.d) :=
  fe_itm (fun h => by obtain ⟨q, x, y, z, u, e, h, r1, r2, r3, r4⟩ := h; exact ⟨q, _, u, e, h, atI_nat (j := 3) rfl, r4⟩) ha
end

/-! ### slices -/
section
variable {X : Cx} {c : C0} {γ α β δ τ : Type} {G : EnvT γ} [Rp α] [Rp β] [Rp δ] {a b e : Expr} {pos p2 : Pos} {lo hi : Option Expr}
/-- a part of a slice -/
def PoP (K : PySem.W.Frag) (F H : Hp) (Q : Option Int → Hp → Prop) (E : XK) (m : Xc (Option Int)) : Prop := match m with
  | .ok b => ∀ F' H', Wd F H F' H' → Q b H'
  | .er c fs => ErP K F H E c fs
  | .no => False
def FP (X : Cx) (c : C0) (G : EnvT γ) (e : Option Expr) (f : γ → Xc (Option Int)) : Prop := PO X e (fun σ H Q => ∃ F g, Wd c.F0 c.H0 F H ∧ G.rel X.K c.H0 F H σ g ∧ PoP X.K F H Q (WE c.W σ) (f g))
theorem fp_none : FP X c G none (fun _ => Xc.ok none) := ⟨fun pins s σ H Q I ⟨F, g, w, q, h⟩ => po_none.run pins s σ H Q I (h F H (Wd.refl w.s))⟩
theorem fp_some {f : γ → Xc Int} (h : FE X c G e f) : FP X c G (some e) (fun g => (f g).bind fun i => Xc.ok (some i)) := ⟨fun pins s σ H Q I ⟨F, g, w, q, p⟩ => (po_some h).run pins s σ H Q I (by
  refine ⟨F, g, w, q, ?_⟩
  cases e1 : f g with
  | ok i => intro v F1 H1 w1 r1; simp only [e1] at p; exact ⟨i, r1, p F1 H1 w1⟩
  | er c' fs => simp only [e1] at p; exact p
  | no => simp only [e1] at p; exact p)⟩
theorem slc {f : γ → Xc α} {fl fh : γ → Xc (Option Int)} {op : α → Option Int → Option Int → Xc β} {r : V → Option Int → Option Int → Hp → VK → Prop} (hr : SlR X r)
    (hop : ∀ {F H x i l u Q E}, Same F H → Rp.is X.K F x i → Po X.K F H Q E (op i l u) → r x l u H Q) (ha : FE X c G a f) (hl : FP X c G lo fl) (hu : FP X c G hi fh) :
    FE X c G (.Subscript a (.Slice lo hi none p2) pos) (fun g => (f g).bind fun i => (fl g).bind fun l => (fh g).bind fun u => op i l u) :=
  PE.imp (pe_slice hr ha hl hu) fun σ H Q ⟨F, g, w, q, p⟩ => by
    refine ⟨F, g, w, q, ?_⟩
    cases e1 : f g with
    | ok i =>
      intro v F1 H1 w1 r1
      simp only [e1] at p
      have p : Po X.K F H Q (WE c.W σ) ((fl g).bind fun l => (fh g).bind fun u => op i l u) := p
      refine ⟨F1, g, w.trans w1, G.mono q w1, ?_⟩
      cases e2 : fl g with
      | ok l =>
        intro F2 H2 w2
        simp only [e2] at p
        have p : Po X.K F H Q (WE c.W σ) ((fh g).bind fun u => op i l u) := p
        refine ⟨F2, g, (w.trans w1).trans w2, G.mono (G.mono q w1) w2, ?_⟩
        cases e3 : fh g with
        | ok u =>
          intro F3 H3 w3
          simp only [e3] at p
          exact hop w3.s (Rp.mono (w2.trans w3).f r1) (Po.on (show Po X.K F H Q (WE c.W σ) (op i l u) from p) ((w1.trans w2).trans w3))
        | er c' fs => simp only [e3] at p; exact ErP.on (show ErP X.K F H (WE c.W σ) c' fs from p) (w1.trans w2)
        | no => simp only [e3] at p; exact p
      | er c' fs => simp only [e2] at p; exact ErP.on (show ErP X.K F H (WE c.W σ) c' fs from p) w1
      | no => simp only [e2] at p; exact p
    | er c' fs => simp only [e1] at p; exact p
    | no => simp only [e1] at p; exact p
/-- xs[l:u] of any list -/
@[irreducible] def cutL {α : Type} (xs : List α) (lo hi : Option Int) : List α := (xs.drop (HT.sIx xs.length 0 lo)).take (HT.sIx xs.length xs.length hi - HT.sIx xs.length 0 lo)
theorem cutL_al {K : PySem.W.Frag} {F : Hp} {xs : List V} {l : List α} {lo hi : Option Int} (r : Al K F xs l) : Al K F (cutV xs lo hi) (cutL l lo hi) := by
  unfold cutV cutL
  rw [r.len]
  exact (r.drop _).take _
theorem cutL_len (l : List α) (lo hi : Option Int) : (cutL l lo hi).length ≤ l.length := by
  unfold cutL
  rw [List.length_take, List.length_drop]
  omega
theorem fe_slS {f : γ → Xc Str} {fl fh : γ → Xc (Option Int)} (ha : FE X c G a f) (hl : FP X c G lo fl) (hu : FP X c G hi fh) :
    FE X c G (.Subscript a (.Slice lo hi none p2) pos) (fun g => (f g).bind fun i => (fl g).bind fun l => (fh g).bind fun u => Xc.ok (cutS i l u)) :=
  slc sl_str (fun {F H x i l u Q E} s r p => by exact ⟨i, r.1, r.2, p.ret s ⟨rfl, Nat.le_trans (cutS_length _ _ _) r.2⟩⟩) ha hl hu
theorem fe_slL {f : γ → Xc (List α)} {fl fh : γ → Xc (Option Int)} (ha : FE X c G a f) (hl : FP X c G lo fl) (hu : FP X c G hi fh) :
    FE X c G (.Subscript a (.Slice lo hi none p2) pos) (fun g => (f g).bind fun i => (fl g).bind fun l => (fh g).bind fun u => Xc.ok (cutL i l u)) :=
  slc sl_list (fun {F H x i l u Q E} s h p => by
    obtain ⟨q, xs, e, hq, z, r⟩ := h
    exact ⟨q, xs, e, Same.seq s hq, fun k hk => p (.ref k) _ _ (Wd.new s hk) ⟨k, _, rfl, SqL.of upd_same, Nat.le_trans (cutL_len _ _ _) z, (cutL_al r).mono (same_new (s.free hk))⟩⟩) ha hl hu
theorem fe_slU {f : γ → Xc (Tu α)} {fl fh : γ → Xc (Option Int)} (ha : FE X c G a f) (hl : FP X c G lo fl) (hu : FP X c G hi fh) :
    FE X c G (.Subscript a (.Slice lo hi none p2) pos) (fun g => (f g).bind fun i => (fl g).bind fun l => (fh g).bind fun u => Xc.ok (tu (cutL (Tu.l i) l u))) :=
  slc sl_tupA (fun {F H x i l u Q E} s h p => by
    obtain ⟨q, xs, e, hq, z, r⟩ := h
    refine ⟨q, xs, e, Same.seqT s hq, fun hw => ?_, fun hw k hk => ?_⟩
    · refine p.ret s ⟨q, xs, rfl, hq, Nat.le_trans (cutL_len _ _ _) z, ?_⟩
      have e1 : cutL (Tu.l i) l u = (Tu.l i) := by
        unfold cutL
        rw [r.len] at hw
        rw [hw.1, hw.2, Nat.sub_zero, List.drop_zero, List.take_length]
      rw [e1]; exact r
    · exact p (.ref k) _ _ (Wd.new s hk) ⟨k, _, rfl, SqT.of upd_same, Nat.le_trans (cutL_len _ _ _) z, (cutL_al r).mono (same_new (s.free hk))⟩) ha hl hu
end
end FL

/-! FL4: built-in calls, texts, tuples joined, lists of one's own read. -/
namespace FL
open PySem L2
section
variable {X : Cx} {c : C0} {γ α β ρ αs : Type} {G : EnvT γ} [Rp α] [Rp β] [Rp ρ] [Rps αs] {a b e : Expr} {pos p p2 : Pos} {es : List Expr}
/-- a call of a built-in thing by its arguments -/
theorem callA {r : List V → Hp → VK → Prop} {op : αs → Xc ρ} {fs : γ → Xc αs} (h : ∀ {t : TA}, PA X es t → PE X e (tCB r t)) (hA : FA X c G es fs)
    (hop : ∀ {F H vs as Q E}, Same F H → Rps.isL X.K F vs as → Po X.K F H Q E (op as) → r vs H Q) : FE X c G e (fun g => (fs g).bind op) :=
  PE.imp (h hA) fun σ H Q ⟨F, g, w, q, p⟩ => by
    refine ⟨F, g, w, q, ?_⟩
    cases e1 : fs g with
    | ok as => intro vs F1 H1 w1 r1; simp only [e1] at p; exact hop w1.s r1 (Po.on (show Po X.K F H Q (WE c.W σ) (op as) from p) w1)
    | er c' fs => simp only [e1] at p; exact p
    | no => simp only [e1] at p; exact p
theorem callAO {r : List V → Hp → VK → Prop} {op : αs → Xc (List ρ)} {fs : γ → Xc αs} (h : ∀ {t : TA}, PA X es t → PE X e (tCB r t)) (hA : FA X c G es fs)
    (hop : ∀ {F H vs as Q E}, Same F H → Rps.isL X.K F vs as → PoO X.K F H Q E (op as) → r vs H Q) : FO X c G e (fun g => (fs g).bind op) :=
  PE.imp (h hA) fun σ H Q ⟨F, g, w, q, p⟩ => by
    refine ⟨F, g, w, q, ?_⟩
    cases e1 : fs g with
    | ok as => intro vs F1 H1 w1 r1; simp only [e1] at p; exact hop w1.s r1 (PoO.on (show PoO X.K F H Q (WE c.W σ) (op as) from p) w1)
    | er c' fs => simp only [e1] at p; exact p
    | no => simp only [e1] at p; exact p
/-- one argument -/
theorem call1 {r : List V → Hp → VK → Prop} {op : α → Xc ρ} {fa : γ → Xc α} (h : ∀ {t : TA}, PA X [a] t → PE X e (tCB r t)) (ha : FE X c G a fa) (hs : starEach [a] X.env = (false, eval a X.env) :: starEach [] X.env := by rfl)
    (hop : ∀ {F H v i Q E}, Same F H → Rp.is X.K F v i → Po X.K F H Q E (op i) → r [v] H Q) : FE X c G e (fun g => (fa g).bind op) :=
  FE.cast (callA (op := fun (as : α × Unit) => op as.1) h (fa_cons ha fa_nil hs) fun {F H vs as Q E} s r p => by
    obtain ⟨v, r', e1, r1, e2⟩ := r
    subst e2 e1
    exact hop s r1 p) fun g => by cases fa g <;> rfl
theorem call1O {r : List V → Hp → VK → Prop} {op : α → Xc (List ρ)} {fa : γ → Xc α} (h : ∀ {t : TA}, PA X [a] t → PE X e (tCB r t)) (ha : FE X c G a fa) (hs : starEach [a] X.env = (false, eval a X.env) :: starEach [] X.env := by rfl)
    (hop : ∀ {F H v i Q E}, Same F H → Rp.is X.K F v i → PoO X.K F H Q E (op i) → r [v] H Q) : FO X c G e (fun g => (fa g).bind op) :=
  FO.cast (callAO (op := fun (as : α × Unit) => op as.1) h (fa_cons ha fa_nil hs) fun {F H vs as Q E} s r p => by
    obtain ⟨v, r', e1, r1, e2⟩ := r
    subst e2 e1
    exact hop s r1 p) fun g => by cases fa g <;> rfl
theorem call2 {r : List V → Hp → VK → Prop} {op : α → β → Xc ρ} {fa : γ → Xc α} {fb : γ → Xc β} (h : ∀ {t : TA}, PA X [a, b] t → PE X e (tCB r t)) (ha : FE X c G a fa) (hb : FE X c G b fb)
    (hs : starEach [a, b] X.env = (false, eval a X.env) :: starEach [b] X.env := by rfl) (hs2 : starEach [b] X.env = (false, eval b X.env) :: starEach [] X.env := by rfl)
    (hop : ∀ {F H v u i j Q E}, Same F H → Rp.is X.K F v i → Rp.is X.K F u j → Po X.K F H Q E (op i j) → r [v, u] H Q) : FE X c G e (fun g => (fa g).bind fun i => (fb g).bind fun j => op i j) :=
  FE.cast (callA (op := fun (as : α × β × Unit) => op as.1 as.2.1) h (fa_cons ha (fa_cons hb fa_nil hs2) hs) fun {F H vs as Q E} s r p => by
    obtain ⟨v, r', e1, r1, u, r'', e2, r2, e3⟩ := r
    subst e3 e2 e1
    exact hop s r1 r2 p) fun g => by cases fa g <;> first | rfl | (cases fb g <;> rfl)

/-! ### len -/
class HasLen (α : Type) [Rp α] where
  len : α → Nat
  is : ∀ {K F H v} {a : α}, Same F H → Rp.is K F v a → LenV K v H (len a)
instance : HasLen Str := ⟨Str.length, fun {K F H v a} s h => by obtain ⟨h1, h2⟩ := h; subst h1; exact ⟨h2, rfl⟩⟩
instance {α : Type} [Rp α] : HasLen (List α) := ⟨List.length, fun {K F H v a} s h => by obtain ⟨q, xs, e, hq, z, r⟩ := h; subst e; exact .inl ⟨xs, Same.seq s hq, r.len.symm⟩⟩
instance {α : Type} [Rp α] : HasLen (Tu α) := ⟨fun t => t.l.length, fun {K F H v a} s h => by obtain ⟨q, xs, e, hq, z, r⟩ := h; subst e; exact .inr ⟨xs, Same.seqT s hq, r.len.symm⟩⟩
theorem fe_len [HasLen α] {fa : γ → Xc α} (ha : FE X c G a fa) (hm : X.mg "len" = none) (hg : Gl X "len" := by rfl) (hs : starEach [a] X.env = (false, eval a X.env) :: starEach [] X.env := by rfl) :
    FE X c G (.Call (.Name "len" p) [a] [] pos) (fun g => (fa g).bind fun i => Xc.ok ((HasLen.len i : Nat) : Int)) :=
  call1 (r := fun xs H Q => ∃ x n, xs = [x] ∧ LenV X.K x H n ∧ Q (.int n) H) (fun h => pe_callB call_len hg hm PySem.boot_len h (he := hs)) ha hs fun {F H v i Q E} s r p => by
    exact ⟨v, _, rfl, HasLen.is s r, p.ret s rfl⟩

/-! ### numbers -/
@[irreducible] def absI (i : Int) : Int := if i < 0 then -i else i
theorem fe_abs {fa : γ → Xc Int} (ha : FE X c G a fa) (hm : X.mg "abs" = none) (hg : Gl X "abs" := by rfl) (hs : starEach [a] X.env = (false, eval a X.env) :: starEach [] X.env := by rfl) :
    FE X c G (.Call (.Name "abs" p) [a] [] pos) (fun g => (fa g).bind fun i => Xc.ok (absI i)) :=
  call1 (fun h => pe_callB call_abs hg hm (by decide +kernel) h (he := hs)) ha hs fun {F H v i Q E} s r p => by
    have r : v = .int i := r
    subst r
    exact ⟨i, rfl, p.ret s (by first | rfl | (unfold absI; rfl) | (unfold gcdI; rfl))⟩
theorem fe_intI {fa : γ → Xc Int} (ha : FE X c G a fa) (hm : X.mg "int" = none) (hg : Gl X "int" := by rfl) (hs : starEach [a] X.env = (false, eval a X.env) :: starEach [] X.env := by rfl) :
    FE X c G (.Call (.Name "int" p) [a] [] pos) (fun g => (fa g).bind fun i => Xc.ok i) :=
  call1 (fun h => pe_callTy call_int1 hg hm PyProof.Rows.boot_int h (he := hs)) ha hs fun {F H v i Q E} s r p => by
    have r : v = .int i := r
    subst r
    exact .inl ⟨i, rfl, p.ret s rfl⟩
def b2i (b : Bool) : Int := if b = true then 1 else 0
theorem fe_intB {fa : γ → Xc Bool} (ha : FE X c G a fa) (hm : X.mg "int" = none) (hg : Gl X "int" := by rfl) (hs : starEach [a] X.env = (false, eval a X.env) :: starEach [] X.env := by rfl) :
    FE X c G (.Call (.Name "int" p) [a] [] pos) (fun g => (fa g).bind fun i => Xc.ok (b2i i)) :=
  call1 (fun h => pe_callTy call_int1 hg hm PyProof.Rows.boot_int h (he := hs)) ha hs fun {F H v i Q E} s r p => by
    have r : v = .bl i := r
    subst r
    exact .inr ⟨i, rfl, p.ret s rfl⟩
@[irreducible] def intX (z : Str) : Xc Int := if z.length ≤ 640 then (match PySem.intText? z with
  | some n => .ok n
  | none => .no) else .no
theorem fe_intS {fa : γ → Xc Str} (ha : FE X c G a fa) (hm : X.mg "int" = none) (hg : Gl X "int" := by rfl) (hs : starEach [a] X.env = (false, eval a X.env) :: starEach [] X.env := by rfl) :
    FE X c G (.Call (.Name "int" p) [a] [] pos) (fun g => (fa g).bind intX) :=
  call1 (fun h => pe_callTy call_int_str hg hm PyProof.Rows.boot_int h (he := hs)) ha hs fun {F H v i Q E} s r p => by
    have r : v = .str i := r.1
    subst r
    unfold intX at p
    by_cases hz : i.length ≤ 640
    · rw [if_pos hz] at p
      cases e1 : PySem.intText? i with
      | none => rw [e1] at p; exact p.elim
      | some n => rw [e1] at p; exact ⟨i, n, rfl, e1, hz, p.ret s rfl⟩
    · rw [if_neg hz] at p; exact p.elim
@[irreducible] def gcdI (i j : Int) : Int := ((Nat.gcd i.natAbs j.natAbs : Nat) : Int)
theorem fe_gcd {fa fb : γ → Xc Int} (ha : FE X c G a fa) (hb : FE X c G b fb) (hm : X.mg "gcd" = some (.builtin "math.gcd")) (hg : Gl X "gcd" := by rfl) (hs : starEach [a, b] X.env = (false, eval a X.env) :: starEach [b] X.env := by rfl)
    (hs2 : starEach [b] X.env = (false, eval b X.env) :: starEach [] X.env := by rfl) (hpl : (backTo pos (starEach [b] X.env)).any (·.1) = false := by rfl) :
    FE X c G (.Call (.Name "gcd" p) [a, b] [] pos) (fun g => (fa g).bind fun i => (fb g).bind fun j => Xc.ok (gcdI i j)) :=
  call2 (fun h => pe_callBfun cr_gcd hg hm h (he := hs) (hpl := hpl)) ha hb hs hs2 fun {F H v u i j Q E} s r1 r2 p => by
    have r1 : v = .int i := r1
    have r2 : u = .int j := r2
    subst r1 r2
    exact ⟨i, j, rfl, p.ret s (by first | rfl | (unfold absI; rfl) | (unfold gcdI; rfl))⟩
theorem fe_bits {fa : γ → Xc Int} (ha : FE X c G a fa) {apos : Pos} (hbase : attributeBase a "bit_length" X.env (eval a X.env) = eval a X.env := by rfl) (hline : (apos.endLine == pos.line) = true := by rfl) :
    FE X c G (.Call (.Attribute a "bit_length" apos) [] [] pos) (fun g => (fa g).bind fun i => Xc.ok ((Builtin.Int.intBits i : Nat) : Int)) :=
  one (r := fun x H1 Q => ∃ i, x = .int i ∧ Q (.int (Builtin.Int.intBits i : Nat)) H1) (fun h => pe_bits h hbase hline) ha fun {F H x i Q E} s r p => by exact ⟨i, r, p.ret s rfl⟩

/-! ### texts -/
@[irreducible] def strX (i : Int) : Xc Str := if i.natAbs.log2 < 1920 then .ok (Str.ofString (toString i)) else .no
theorem fe_strI {fa : γ → Xc Int} (ha : FE X c G a fa) (hm : X.mg "str" = none) (hg : Gl X "str" := by rfl) (hs : starEach [a] X.env = (false, eval a X.env) :: starEach [] X.env := by rfl) :
    FE X c G (.Call (.Name "str" p) [a] [] pos) (fun g => (fa g).bind strX) :=
  call1 (fun h => pe_callTy call_str_int hg hm PyProof.Rows.boot_str h (he := hs)) ha hs fun {F H v i Q E} s r p => by
    have r : v = .int i := r
    subst r
    unfold strX at p
    by_cases hz : i.natAbs.log2 < 1920
    · rw [if_pos hz] at p; exact ⟨i, rfl, hz, p.ret s ⟨rfl, int_text_fits hz⟩⟩
    · rw [if_neg hz] at p; exact p.elim
@[irreducible] def catS (x y : Str) : Xc Str := if x.length + y.length ≤ sizeLine then .ok (x ++ y) else .no
theorem app_len (x y : Str) : (x ++ y).length = x.length + y.length := by
  show (x.cps ++ y.cps).size = x.cps.size + y.cps.size
  rw [Array.size_append]
theorem fe_catS {fa fb : γ → Xc Str} (ha : FE X c G a fa) (hb : FE X c G b fb) : FE X c G (.BinOp a .Add b pos) (fun g => (fa g).bind fun i => (fb g).bind fun j => catS i j) :=
  two (fun h1 h2 => pe_op op_add_str h1 h2) ha hb fun {F H x y i j Q E} s r1 r2 p => by
    unfold catS at p
    by_cases h : i.length + j.length ≤ sizeLine
    · rw [if_pos h] at p; exact ⟨_, _, r1.1, r2.1, h, p.ret s ⟨rfl, by rw [app_len]; exact h⟩⟩
    · rw [if_neg h] at p; exact p.elim
/-- one sign within a text -/
@[irreducible] def inSg (x : Str) (z : Str) : Xc Bool := match x.cps.toList with
  | [k] => .ok (decide (k ∈ z.cps.toList))
  | _ => .no
theorem sg_of {x : Str} {k : Nat} (h : x.cps.toList = [k]) : x = ⟨#[k]⟩ := by
  obtain ⟨⟨l⟩⟩ := x
  simp only at h
  subst h
  rfl
theorem fe_inSg {fa fb : γ → Xc Str} (ha : FE X c G a fa) (hb : FE X c G b fb) (hm : behindInMarks .In b = false := by rfl) : FE X c G (.Compare a [.In] [b] pos) (fun g => (fa g).bind fun i => (fb g).bind fun j => inSg i j) :=
  two (fun h1 h2 => pe_cmpR op_in_sign h1 h2 hm) ha hb fun {F H x y i j Q E} s r1 r2 p => by
    unfold inSg at p
    split at p
    · rename_i k hk
      exact ⟨k, j, by rw [r1.1, sg_of hk], r2.1, p.ret s rfl⟩
    · exact p.elim
theorem fe_ninSg {fa fb : γ → Xc Str} (ha : FE X c G a fa) (hb : FE X c G b fb) (hm : behindInMarks .NotIn b = false := by rfl) : FE X c G (.Compare a [.NotIn] [b] pos) (fun g => (fa g).bind fun i => (fb g).bind fun j => (inSg i j).bind fun t => Xc.ok (!t)) :=
  two (fun h1 h2 => pe_cmpR op_notIn_sign h1 h2 hm) ha hb fun {F H x y i j Q E} s r1 r2 p => by
    unfold inSg at p
    split at p
    · rename_i k hk
      exact ⟨k, j, by rw [r1.1, sg_of hk], r2.1, Po.ret (by exact p) s rfl⟩
    · exact p.elim
theorem ft_inSg {fa fb : γ → Xc Str} (ha : FE X c G a fa) (hb : FE X c G b fb) (hm : behindInMarks .In b = false := by rfl) : FT X c G (.Compare a [.In] [b] pos) (fun g => (fa g).bind fun i => (fb g).bind fun j => inSg i j) :=
  twoT (fun h1 h2 => pt_cmpR op_in_sign h1 h2 hm) ha hb fun {F H x y i j Q E} s r1 r2 p => by
    unfold inSg at p
    split at p
    · rename_i k hk
      exact ⟨k, j, by rw [r1.1, sg_of hk], r2.1, _, rfl, p.ret s⟩
    · exact p.elim
theorem ft_ninSg {fa fb : γ → Xc Str} (ha : FE X c G a fa) (hb : FE X c G b fb) (hm : behindInMarks .NotIn b = false := by rfl) : FT X c G (.Compare a [.NotIn] [b] pos) (fun g => (fa g).bind fun i => (fb g).bind fun j => (inSg i j).bind fun t => Xc.ok (!t)) :=
  twoT (fun h1 h2 => pt_cmpR op_notIn_sign h1 h2 hm) ha hb fun {F H x y i j Q E} s r1 r2 p => by
    unfold inSg at p
    split at p
    · rename_i k hk
      exact ⟨k, j, by rw [r1.1, sg_of hk], r2.1, _, rfl, PoB.ret (by exact p) s⟩
    · exact p.elim
/-- a method of a text with one argument -/
theorem strM1 {apos : Pos} {name : Str} {id : String} {r : V → List V → Hp → VK → Prop} {op : Str → α → Xc ρ} {fa : γ → Xc Str} {fb : γ → Xc α} (h : ∀ {to te : TE}, PE X a to → PE X b te → PE X (.Call (.Attribute a name apos) [b] [] pos) (tM1 r to te))
    (ha : FE X c G a fa) (hb : FE X c G b fb) (hop : ∀ {F H x y i j Q E}, Same F H → i.length ≤ sizeLine → x = .str i → Rp.is X.K F y j → Po X.K F H Q E (op i j) → r x [y] H Q) :
    FE X c G (.Call (.Attribute a name apos) [b] [] pos) (fun g => (fa g).bind fun i => (fb g).bind fun j => op i j) :=
  PE.imp (h ha hb) fun σ H Q ⟨F, g, w, q, p⟩ => by
    refine ⟨F, g, w, q, ?_⟩
    cases e1 : fa g with
    | ok i =>
      intro v F1 H1 w1 r1
      simp only [e1] at p
      have p : Po X.K F H Q (WE c.W σ) ((fb g).bind fun j => op i j) := p
      refine ⟨⟨i, r1.1⟩, F1, g, w.trans w1, G.mono q w1, ?_⟩
      cases e2 : fb g with
      | ok j =>
        intro u F2 H2 w2 r2
        simp only [e2] at p
        exact hop w2.s r1.2 r1.1 r2 (Po.on (show Po X.K F H Q (WE c.W σ) (op i j) from p) (w1.trans w2))
      | er c' fs => simp only [e2] at p; exact ErP.on (show ErP X.K F H (WE c.W σ) c' fs from p) w1
      | no => simp only [e2] at p; exact p
    | er c' fs => simp only [e1] at p; exact p
    | no => simp only [e1] at p; exact p
theorem fe_startswith {apos : Pos} {fa fb : γ → Xc Str} (ha : FE X c G a fa) (hb : FE X c G b fb) (hs : starEach [b] X.env = [(false, eval b X.env)] := by rfl) (hbase : attributeBase a "startswith" X.env (eval a X.env) = eval a X.env := by rfl)
    (hline : (apos.endLine == pos.line) = true := by rfl) : FE X c G (.Call (.Attribute a "startswith" apos) [b] [] pos) (fun g => (fa g).bind fun i => (fb g).bind fun j => Xc.ok (Txt.startswith i j)) :=
  strM1 (id := "str.startswith") (fun h1 h2 => pe_m1 F.slot_str_startswith F.type_str_startswith mt_startswith h1 h2 hs hbase hline) ha hb fun {F H x y i j Q E} s hi hx hy p => by exact ⟨i, j, hx, by rw [hy.1], p.ret s rfl⟩
theorem fe_find {apos : Pos} {fa fb : γ → Xc Str} (ha : FE X c G a fa) (hb : FE X c G b fb) (hs : starEach [b] X.env = [(false, eval b X.env)] := by rfl) (hbase : attributeBase a "find" X.env (eval a X.env) = eval a X.env := by rfl)
    (hline : (apos.endLine == pos.line) = true := by rfl) : FE X c G (.Call (.Attribute a "find" apos) [b] [] pos) (fun g => (fa g).bind fun i => (fb g).bind fun j => Xc.ok (Txt.find i j)) :=
  strM1 (id := "str.find") (fun h1 h2 => pe_m1 F.slot_str_find F.type_str_find mt_find h1 h2 hs hbase hline) ha hb fun {F H x y i j Q E} s hi hx hy p => by exact ⟨i, j, hx, by rw [hy.1], p.ret s rfl⟩
/-- text.partition(sep): three texts -/
@[irreducible] def partX (x y : Str) : Xc (T3 Str Str Str) := if (y.length == 0) = false ∧ (Txt.partition x y).1.length ≤ sizeLine ∧ (Txt.partition x y).2.1.length ≤ sizeLine ∧ (Txt.partition x y).2.2.length ≤ sizeLine then .ok (show T3 Str Str Str from Txt.partition x y) else .no
theorem fe_partition {apos : Pos} {fa fb : γ → Xc Str} (ha : FE X c G a fa) (hb : FE X c G b fb) (hs : starEach [b] X.env = [(false, eval b X.env)] := by rfl) (hbase : attributeBase a "partition" X.env (eval a X.env) = eval a X.env := by rfl)
    (hline : (apos.endLine == pos.line) = true := by rfl) : FE X c G (.Call (.Attribute a "partition" apos) [b] [] pos) (fun g => (fa g).bind fun i => (fb g).bind fun j => partX i j) :=
  strM1 (id := "str.partition") (fun h1 h2 => pe_partition h1 h2 hs hbase hline) ha hb fun {F H x y i j Q E} s hi hx hy p => by
    unfold partX at p
    by_cases h : (j.length == 0) = false ∧ (Txt.partition i j).1.length ≤ sizeLine ∧ (Txt.partition i j).2.1.length ≤ sizeLine ∧ (Txt.partition i j).2.2.length ≤ sizeLine
    · rw [if_pos h] at p
      exact ⟨i, j, hx, by rw [hy.1], h.1, hi, fun k hk => p (.ref k) _ _ (Wd.new s hk) ⟨k, _, _, _, rfl, SqT.of upd_same, ⟨rfl, h.2.1⟩, ⟨rfl, h.2.2.1⟩, ⟨rfl, h.2.2.2⟩⟩⟩
    · rw [if_neg h] at p; exact p.elim
end

/-! ### isinstance, by a built-in class -/
class HasTy (α : Type) [Rp α] where
  ty : α → String
  is : ∀ {K F H v} {a : α}, Same F H → Rp.is K F v a → TyX K H v (.type (ty a))
theorem tyx_seqL {K : PySem.W.Frag} {H : Hp} {q : Addr} {xs : List V} (h : SqL K H q xs) : TyX K H (.ref q) (.type "list") := by
  rcases h with (h | ⟨o, h⟩) | ⟨o, its, n, h, c, _⟩
  · exact .base (.lst h)
  · exact .base (.frz h)
  · exact .kList h c
theorem tyx_seqT {K : PySem.W.Frag} {H : Hp} {q : Addr} {xs : List V} (h : SqT K H q xs) : TyX K H (.ref q) (.type "tuple") := by
  rcases h with (h | ⟨o, h⟩) | ⟨o, its, n, h, c, _⟩
  · exact .base (.tup h)
  · exact .fTuple h
  · exact .kTuple h c
instance : HasTy Int := ⟨fun _ => "int", fun s h => by have h : _ = V.int _ := h; subst h; exact .base (.int _)⟩
instance : HasTy Bool := ⟨fun _ => "bool", fun s h => by have h : _ = V.bl _ := h; subst h; exact .base (.bl _)⟩
instance : HasTy Str := ⟨fun _ => "str", fun s h => by have h : _ = V.str _ := h.1; subst h; exact .base (.str _)⟩
instance {α : Type} [Rp α] : HasTy (List α) := ⟨fun _ => "list", fun s h => by obtain ⟨q, xs, e, hq, z, r⟩ := h; subst e; exact tyx_seqL (Same.seq s hq)⟩
instance {α : Type} [Rp α] : HasTy (Tu α) := ⟨fun _ => "tuple", fun s h => by obtain ⟨q, xs, e, hq, z, r⟩ := h; subst e; exact tyx_seqT (Same.seqT s hq)⟩
instance {α β : Type} [Rp α] [Rp β] : HasTy (α × β) := ⟨fun _ => "tuple", fun s h => by obtain ⟨q, x, y, e, hq, _⟩ := h; subst e; exact tyx_seqT (Same.seqT s hq)⟩
instance {α β γ : Type} [Rp α] [Rp β] [Rp γ] : HasTy (T3 α β γ) := ⟨fun _ => "tuple", fun s h => by obtain ⟨q, x, y, z, e, hq, _⟩ := h; subst e; exact tyx_seqT (Same.seqT s hq)⟩
def tyD : PyData → String
  | .none => "NoneType"
  | .bool _ => "bool"
  | .int _ => "int"
  | .str _ => "str"
  | .list _ => "list"
  | .tuple _ => "tuple"
  | _ => "?"
instance : HasTy PyData := ⟨tyD, fun {K F H v a} s h => by
  obtain ⟨h, _⟩ := h
  cases h with
  | non => exact .base .non
  | bl b => exact .base (.bl b)
  | int i => exact .base (.int i)
  | str x => exact .base (.str x)
  | lst h _ => exact tyx_seqL (Same.seq s h)
  | tup h _ => exact tyx_seqT (Same.seqT s h)⟩
@[irreducible] def isiX (t T : String) : Xc Bool := match kitB t T with
  | some b => .ok b
  | none => .no
theorem fe_isi {X : Cx} {c : C0} {γ α : Type} {G : EnvT γ} [Rp α] {a : Expr} {pos p p2 : Pos} [HasTy α] {fa : γ → Xc α} {T : Str} {U : String} (ha : FE X c G a fa) (hm : X.mg "isinstance" = none) (hmT : X.mg T = none) (hvT : bootBuiltins T = some (.type U) := by decide +kernel)
    (hg : Gl X "isinstance" := by rfl) (hgT : Gl X T := by rfl) (hn : T ≠ "__name__" := by decide) (hd : (T == ("__debug__" : Str)) = false := by decide)
    (hs : starEach [a, .Name T p2] X.env = (false, eval a X.env) :: starEach [.Name T p2] X.env := by rfl) (hs2 : starEach [.Name T p2] X.env = (false, eval (.Name T p2) X.env) :: starEach [] X.env := by rfl)
    (hpl : (backTo pos (starEach [.Name T p2] X.env)).any (·.1) = false := by rfl) : FE X c G (.Call (.Name "isinstance" p) [a, .Name T p2] [] pos) (fun g => (fa g).bind fun i => isiX (HasTy.ty i) U) :=
  PE.imp (pe_callB call_isi hg hm PyProof.Rows.boot_isinstance (pa_cons ha (pa_cons (pe_bltn (v := .ty U) hgT hmT hvT rfl hn hd) pa_nil hs2) hs) (he := hs) (hpl := hpl)) fun σ H Q ⟨F, g, w, q, h⟩ => by
    refine ⟨F, g, w, q, ?_⟩
    cases e1 : fa g with
    | ok i =>
      intro v F1 H1 w1 r1
      simp only [e1] at h
      have h : Po X.K F H Q (WE c.W σ) (isiX (HasTy.ty i) U) := h
      unfold isiX at h
      cases e2 : kitB (HasTy.ty i) U with
      | none => rw [e2] at h; exact h.elim
      | some b =>
        rw [e2] at h
        exact ⟨v, .ty U, .type (HasTy.ty i), .type U, b, rfl, .ty U, HasTy.is w1.s r1, kit_ty e2, (Po.on h w1).ret w1.s rfl⟩
    | er c' fs => simp only [e1] at h; exact h
    | no => simp only [e1] at h; exact h
end FL

/-! FL5: statements: stores, ifs, returns, loops. -/
namespace FL
open PySem L2
/-- behind a statement: the frozen heap has grown, the world is the entry's -/
structure Ws (c : C0) (F F' H' : Hp) : Prop where
  f : Same F F'
  w : Wd c.F0 c.H0 F' H'
theorem Ws.trans {c : C0} {F F1 H1 F2 H2 : Hp} (a : Ws c F F1 H1) (b : Ws c F1 F2 H2) : Ws c F F2 H2 := ⟨a.f.trans b.f, b.w⟩
theorem Ws.of {c : C0} {F H F1 H1 : Hp} (w : Wd c.F0 c.H0 F H) (a : Wd F H F1 H1) : Ws c F F1 H1 := ⟨a.f, w.trans a⟩
theorem Ws.refl {c : C0} {F H : Hp} (w : Wd c.F0 c.H0 F H) : Ws c F F H := ⟨Same.refl _, w⟩
/-- the slots that a statement may store into -/
structure Ag (M : Nat → Bool) (σ σ' : St) : Prop where
  at_ : ∀ i : Nat, M i = false → σ'[i]? = σ[i]?
  len : σ'.length = σ.length
theorem Ag.refl {M : Nat → Bool} {σ : St} : Ag M σ σ := ⟨fun _ _ => rfl, rfl⟩
theorem Ag.trans {M : Nat → Bool} {σ σ1 σ2 : St} (a : Ag M σ σ1) (b : Ag M σ1 σ2) : Ag M σ σ2 := ⟨fun i h => (b.at_ i h).trans (a.at_ i h), b.len.trans a.len⟩
theorem Ag.set {M : Nat → Bool} {σ : St} {i : Nat} {v : Option V} (h : M i = true) : Ag M σ (σ.set i v) := ⟨fun j hj => by
  by_cases e : i = j
  · subst e; rw [h] at hj; cases hj
  · rw [List.getElem?_set_ne e], List.length_set⟩
theorem Ag.imp {M M' : Nat → Bool} {σ σ' : St} (a : Ag M σ σ') (h : ∀ i, M i = true → M' i = true) : Ag M' σ σ' := ⟨fun i hi => a.at_ i (by
  cases e : M i with
  | false => rfl
  | true => rw [h i e] at hi; cases hi), a.len⟩
/-- .. with what statements lean on -/
structure C1 extends C0 where
  M : Nat → Bool
section
variable {γ γ' γ1 γ2 : Type}
/-- the outcome of a statement that only goes on -/
def PoN (K : PySem.W.Frag) (c : C1) (G' : EnvT γ') (D : Ends) (F H : Hp) (σ : St) (m : Xc γ') : Prop := match m with
  | .ok g' => ∀ σ' F' H', Ws c.toC0 F F' H' → Ag c.M σ σ' → G'.rel K c.H0 F' H' σ' g' → D.nx σ' H'
  | .er cc fs => ∀ σ' F' H', Ws c.toC0 F F' H' → Ag c.M σ σ' → ErP K F' H' (WE c.W σ') cc fs
  | .no => False
def tN (K : PySem.W.Frag) (c : C1) (G : EnvT γ) (G' : EnvT γ') (m : γ → Xc γ') : TS := fun D σ H => ∃ F g, Wd c.F0 c.H0 F H ∧ G.rel K c.H0 F H σ g ∧ PoN K c G' D F H σ (m g)
/-- a statement (a block) that goes on: what the slots hold behind it -/
def FN (X : Cx) (c : C1) (G : EnvT γ) (st : Stmt) (G' : EnvT γ') (m : γ → Xc γ') : Prop := PS X st (tN X.K c G G' m)
def FNs (X : Cx) (c : C1) (G : EnvT γ) (sts : List Stmt) (G' : EnvT γ') (m : γ → Xc γ') : Prop := PSs X sts (tN X.K c G G' m)
theorem PS.imp {X : Cx} {st : Stmt} {t t' : TS} (h : PS X st t) (i : ∀ D σ H, t' D σ H → t D σ H) : PS X st t' := ⟨fun pins s σ H D I q => h.run pins s σ H D I (i D σ H q)⟩
theorem PSs.imp {X : Cx} {st : List Stmt} {t t' : TS} (h : PSs X st t) (i : ∀ D σ H, t' D σ H → t D σ H) : PSs X st t' := ⟨fun pins s σ H D I q => h.run pins s σ H D I (i D σ H q)⟩
theorem PoN.on {K : PySem.W.Frag} {c : C1} {G' : EnvT γ'} {D : Ends} {F H F1 H1 : Hp} {σ σ1 : St} {m : Xc γ'} (h : PoN K c G' D F H σ m) (s : Same F F1) (a : Ag c.M σ σ1) : PoN K c G' D F1 H1 σ1 m := by
  cases m with
  | ok g => exact fun σ' F' H' w b r => h σ' F' H' ⟨s.trans w.f, w.w⟩ (a.trans b) r
  | er cc fs => exact fun σ' F' H' w b => h σ' F' H' ⟨s.trans w.f, w.w⟩ (a.trans b)
  | no => exact h
/-- an exception of an expression within -/
theorem PoN.er {K : PySem.W.Frag} {c : C1} {G' : EnvT γ'} {D : Ends} {F H : Hp} {σ : St} {cc : Str} {fs : List (Str × V)} (h : PoN K c G' D F H σ (.er cc fs)) (w : Wd c.F0 c.H0 F H) : ErP K F H (WE c.W σ) cc fs :=
  h σ F H (Ws.refl w) Ag.refl
end
section
variable {X : Cx} {c : C1} {γ γ' γ1 γ2 α β ρ αs : Type} {G : EnvT γ} {G' : EnvT γ'} {G1 : EnvT γ1} {G2 : EnvT γ2} [Rp α] [Rp β] [Rp ρ] [Rps αs] {a b e : Expr} {st : Stmt} {sts : List Stmt} {pos p p2 : Pos}
theorem FN.cast {m m' : γ → Xc γ'} (h : FN X c G st G' m) (i : ∀ g, m' g = m g) : FN X c G st G' m' := by rw [show m' = m from funext i]; exact h
theorem FNs.cast {m m' : γ → Xc γ'} (h : FNs X c G sts G' m) (i : ∀ g, m' g = m g) : FNs X c G sts G' m' := by rw [show m' = m from funext i]; exact h
theorem fns_nil : FNs X c G [] G (fun g => Xc.ok g) := PSs.imp pss_nil fun D σ H ⟨F, g, w, q, h⟩ => h σ F H (Ws.refl w) Ag.refl q
theorem fns_one {m : γ → Xc γ'} (h : FN X c G st G' m) : FNs X c G [st] G' m := pss_one h
theorem fns_cons {m1 : γ → Xc γ1} {m2 : γ1 → Xc γ2} (h1 : FN X c G st G1 m1) (h2 : FNs X c G1 sts G2 m2) : FNs X c G (st :: sts) G2 (fun g => (m1 g).bind m2) :=
  PSs.imp (pss_cons h1 h2) fun D σ H ⟨F, g, w, q, h⟩ => by
    refine ⟨F, g, w, q, ?_⟩
    cases e1 : m1 g with
    | ok g1 =>
      intro σ1 F1 H1 w1 a1 q1
      simp only [e1] at h
      exact ⟨F1, g1, w1.w, q1, PoN.on (show PoN X.K c G2 D F H σ (m2 g1) from h) w1.f a1⟩
    | er c' fs => simp only [e1] at h; exact h
    | no => simp only [e1] at h; exact h
/-- x = e -/
theorem fn_set (i : Nat) {x : Str} {p' : Pos} {ψ : γ → α → γ'} [P : Put G i α G' ψ] {fa : γ → Xc α} (hM : c.M i = true) (ha : FE X c.toC0 G e fa) (hN : X.N.Nodup) (hi : X.N[i]? = some x := by rfl) (hx : Loc X.env.scope x := by first | exact Or.inl rfl | exact Or.inr rfl)
    (hs : swapsWith e (some (.Name x p')) pos.line X.env = pure false := by rfl) (hf : X.fn x = true ∨ X.env.scope.names.lookup x = some .local := by first | exact .inl rfl | exact .inr rfl) :
    FN X c G (.Assign [.Name x p'] e pos) G' (fun g => (fa g).bind fun v => Xc.ok (ψ g v)) :=
  PS.imp (ps_set hN hi hx ha hs hf) fun D σ H ⟨F, g, w, q, h⟩ => by
    refine ⟨F, g, w, q, ?_⟩
    cases e1 : fa g with
    | ok v =>
      intro u F1 H1 w1 r1
      simp only [e1] at h
      exact h (σ.set i (some u)) F1 H1 (Ws.of w w1) (Ag.set hM) (P.put (G.mono q w1) r1)
    | er c' fs => simp only [e1] at h; exact PoN.er h w
    | no => simp only [e1] at h; exact h
theorem fn_expr {fa : γ → Xc α} (ha : FE X c.toC0 G e fa) (hs : swapsWith e none pos.line X.env = pure false := by rfl) : FN X c G (.Expr e pos) G (fun g => (fa g).bind fun _ => Xc.ok g) :=
  PS.imp (ps_expr ha hs) fun D σ H ⟨F, g, w, q, h⟩ => by
    refine ⟨F, g, w, q, ?_⟩
    cases e1 : fa g with
    | ok v => intro u F1 H1 w1 r1; simp only [e1] at h; exact h σ F1 H1 (Ws.of w w1) Ag.refl (G.mono q w1)
    | er c' fs => simp only [e1] at h; exact PoN.er h w
    | no => simp only [e1] at h; exact h
theorem fn_pass : FN X c G (.Pass pos) G (fun g => Xc.ok g) := PS.imp ps_pass fun D σ H ⟨F, g, w, q, h⟩ => h σ F H (Ws.refl w) Ag.refl q
theorem fn_if {ft : γ → Xc Bool} {mA mB : γ → Xc γ'} {tA tB : List Stmt} (ht : FT X c.toC0 G e ft) (hA : FNs X c G tA G' mA) (hB : FNs X c G tB G' mB) : FN X c G (.If e tA tB pos) G' (fun g => (ft g).bind fun b => if b = true then mA g else mB g) :=
  PS.imp (ps_if ht hA hB) fun D σ H ⟨F, g, w, q, h⟩ => by
    refine ⟨F, g, w, q, ?_⟩
    cases e1 : ft g with
    | ok b =>
      intro F1 H1 w1
      simp only [e1] at h
      cases b with
      | true => exact iteT ⟨F1, g, w.trans w1, G.mono q w1, PoN.on h w1.f Ag.refl⟩
      | false => exact iteF ⟨F1, g, w.trans w1, G.mono q w1, PoN.on h w1.f Ag.refl⟩
    | er c' fs => simp only [e1] at h; exact PoN.er h w
    | no => simp only [e1] at h; exact h
end

/-! ### weakening of the slots -/
class Sub {γ γ' : Type} (G : EnvT γ) (G' : EnvT γ') (h : outParam (γ → γ')) : Prop where
  sub : ∀ {K H0 F H σ g}, G.rel K H0 F H σ g → G'.rel K H0 F H σ (h g)
  own : ∀ {K H0 F H σ g p}, G.rel K H0 F H σ g → p ∈ G'.own σ → p ∈ G.own σ
instance subNl : Sub nl nl (fun g => g) := ⟨fun h => h, fun _ h => h⟩
section
variable {α β γ γ' : Type} [Rp α] [Rp β] (G : EnvT γ) (G' : EnvT γ') (h : γ → γ') [S : Sub G G' h]
instance subVa : Sub (va α G) (va α G') (fun g => (g.1, h g.2)) := ⟨fun ⟨v, σ', e, r, q⟩ => ⟨v, σ', e, r, S.sub q⟩, fun ⟨v, σ', e, r, q⟩ m => by subst e; exact S.own q m⟩
instance subUn : Sub (un G) (un G') (fun g => h g) := ⟨fun ⟨v, σ', e, q⟩ => ⟨v, σ', e, S.sub q⟩, fun ⟨v, σ', e, q⟩ m => by subst e; exact S.own q m⟩
instance subOw : Sub (ow α G) (ow α G') (fun g => (g.1, h g.2)) := ⟨fun ⟨p, σ', xs, e, h0, f, hh, z, r, n, q⟩ => ⟨p, σ', xs, e, h0, f, hh, z, r, fun m => n (S.own q m), S.sub q⟩, fun ⟨p, σ', xs, e, h0, f, hh, z, r, n, q⟩ m => by
  subst e
  rcases List.mem_append.mp m with m | m
  · exact List.mem_append_left _ m
  · exact List.mem_append_right _ (S.own q m)⟩
instance subVaUn : Sub (va α G) (un G') (fun g => h g.2) := ⟨fun ⟨v, σ', e, r, q⟩ => ⟨_, σ', e, S.sub q⟩, fun ⟨v, σ', e, r, q⟩ m => by subst e; exact S.own q m⟩
instance subOwUn : Sub (ow α G) (un G') (fun g => h g.2) := ⟨fun ⟨p, σ', xs, e, h0, f, hh, z, r, n, q⟩ => ⟨_, σ', e, S.sub q⟩, fun ⟨p, σ', xs, e, h0, f, hh, z, r, n, q⟩ m => by subst e; exact List.mem_append_right _ (S.own q m)⟩
instance subOpt [NotNone α] : Sub (va α G) (va (Option α) G') (fun g => (some g.1, h g.2)) := ⟨fun ⟨v, σ', e, r, q⟩ => ⟨v, σ', e, ⟨NotNone.ne r, r⟩, S.sub q⟩, fun ⟨v, σ', e, r, q⟩ m => by subst e; exact S.own q m⟩
instance subNon : Sub (va Unit G) (va (Option α) G') (fun g => (none, h g.2)) := ⟨fun ⟨v, σ', e, r, q⟩ => ⟨v, σ', e, r, S.sub q⟩, fun ⟨v, σ', e, r, q⟩ m => by subst e; exact S.own q m⟩
end
section
variable {X : Cx} {c : C1} {γ γ' γ1 γ2 : Type} {G : EnvT γ} {G' : EnvT γ'} {G1 : EnvT γ1} {st : Stmt} {sts : List Stmt}
theorem PoN.sub {K : PySem.W.Frag} {h : γ1 → γ'} [S : Sub G1 G' h] {D : Ends} {F H : Hp} {σ : St} {m : Xc γ1} (p : PoN K c G' D F H σ (m.bind fun g => Xc.ok (h g))) : PoN K c G1 D F H σ m := by
  cases m with
  | ok g => exact fun σ' F' H' w a r => p σ' F' H' w a (S.sub r)
  | er cc fs => exact p
  | no => exact p
theorem fns_sub {m : γ → Xc γ1} {h : γ1 → γ'} (H : FNs X c G sts G1 m) [S : Sub G1 G' h] : FNs X c G sts G' (fun g => (m g).bind fun r => Xc.ok (h r)) :=
  PSs.imp H fun D σ H ⟨F, g, w, q, p⟩ => ⟨F, g, w, q, PoN.sub p⟩
theorem fn_pre {m : γ1 → Xc γ'} {h : γ → γ1} (H : FN X c G1 st G' m) [S : Sub G G1 h] : FN X c G st G' (fun g => m (h g)) :=
  PS.imp H fun D σ H ⟨F, g, w, q, p⟩ => ⟨F, h g, w, S.sub q, p⟩
theorem fns_pre {m : γ1 → Xc γ'} {h : γ → γ1} (H : FNs X c G1 sts G' m) [S : Sub G G1 h] : FNs X c G sts G' (fun g => m (h g)) :=
  PSs.imp H fun D σ H ⟨F, g, w, q, p⟩ => ⟨F, h g, w, S.sub q, p⟩
end

/-! ### statements that may return (or leave a loop's turn): with what follows -/
/-- what a return hands out -/
structure Rt (ρ : Type) where
  rr : PySem.W.Frag → Hp → Hp → Hp → V → ρ → Prop
def rtF (ρ : Type) [Rp ρ] : Rt ρ := ⟨fun K _ F _ v r => Rp.is K F v r⟩
def rtO (α : Type) [Rp α] : Rt (List α) := ⟨fun K H0 F H v l => ∃ p xs, v = .ref p ∧ H0 p = none ∧ F p = none ∧ H p = some (.lst xs) ∧ l.length ≤ sizeLine ∧ Al K F xs l⟩
/-- outcomes -/
structure Out (τ ρ β : Type) where
  sem : τ → (ρ → Prop) → (β → Prop) → (β → Prop) → Prop
  mono : ∀ {t P P' B B' C C'}, (∀ r, P r → P' r) → (∀ b, B b → B' b) → (∀ b, C b → C' b) → sem t P B C → sem t P' B' C'
  ret : ρ → τ
  hret : ∀ {r P B C}, sem (ret r) P B C → P r
/-- a def's: it returns -/
def outD (ρ : Type) : Out ρ ρ Unit := ⟨fun r P _ _ => P r, fun h _ _ p => h _ p, id, fun h => h⟩
/-- a loop's turn -/
inductive Lp (β ρ : Type) where
  | ct (b : β)
  | bk (b : β)
  | rt (r : ρ)
def Lp.sem {β ρ : Type} (t : Lp β ρ) (P : ρ → Prop) (B C : β → Prop) : Prop := match t with
  | .ct b => C b
  | .bk b => B b
  | .rt r => P r
def outL (β ρ : Type) : Out (Lp β ρ) ρ β := ⟨Lp.sem, fun {t _ _ _ _ _ _} h1 h2 h3 p => by cases t with
  | ct b => exact h3 _ p
  | bk b => exact h2 _ p
  | rt r => exact h1 _ p, .rt, fun h => h⟩
structure C2 (τ ρ β : Type) extends C1 where
  O : Out τ ρ β
  R : Rt ρ
  GB : EnvT β
section
variable {τ ρ β γ γ' γ1 γ2 : Type}
def Done (K : PySem.W.Frag) (c : C2 τ ρ β) (D : Ends) (F : Hp) (σ : St) (m : Xc τ) : Prop := match m with
  | .ok t => c.O.sem t (fun r => ∀ v F' H', Ws c.toC0 F F' H' → c.R.rr K c.H0 F' H' v r → D.rt v H') (fun b => ∀ σ' F' H', Ws c.toC0 F F' H' → Ag c.M σ σ' → c.GB.rel K c.H0 F' H' σ' b → D.bk σ' H') (fun b => ∀ σ' F' H', Ws c.toC0 F F' H' → Ag c.M σ σ' → c.GB.rel K c.H0 F' H' σ' b → D.ct σ' H')
  | .er cc fs => ∀ σ' F' H', Ws c.toC0 F F' H' → Ag c.M σ σ' → ErP K F' H' (WE c.W σ') cc fs
  | .no => False
theorem Done.on {K : PySem.W.Frag} {c : C2 τ ρ β} {D : Ends} {F F1 : Hp} {σ σ1 : St} {m : Xc τ} (h : Done K c D F σ m) (s : Same F F1) (a : Ag c.M σ σ1) : Done K c D F1 σ1 m := by
  cases m with
  | ok t => exact c.O.mono (fun r p v F' H' w => p v F' H' ⟨s.trans w.f, w.w⟩) (fun b p σ' F' H' w b => p σ' F' H' ⟨s.trans w.f, w.w⟩ (a.trans b)) (fun b p σ' F' H' w b => p σ' F' H' ⟨s.trans w.f, w.w⟩ (a.trans b)) h
  | er cc fs => exact fun σ' F' H' w b => h σ' F' H' ⟨s.trans w.f, w.w⟩ (a.trans b)
  | no => exact h
theorem Done.er {K : PySem.W.Frag} {c : C2 τ ρ β} {D : Ends} {F H : Hp} {σ : St} {cc : Str} {fs : List (Str × V)} (h : Done K c D F σ (.er cc fs)) (w : Wd c.F0 c.H0 F H) : ErP K F H (WE c.W σ) cc fs := h σ F H (Ws.refl w) Ag.refl
def tS (K : PySem.W.Frag) (c : C2 τ ρ β) (G : EnvT γ) (G' : EnvT γ') (f : γ → (γ' → Xc τ) → Xc τ) : TS := fun D σ H => ∃ F g k, Wd c.F0 c.H0 F H ∧ G.rel K c.H0 F H σ g ∧ Done K c D F σ (f g k) ∧
  ∀ g' σ' F' H', Ws c.toC0 F F' H' → Ag c.M σ σ' → G'.rel K c.H0 F' H' σ' g' → Done K c D F' σ' (k g') → D.nx σ' H'
def FS (X : Cx) (c : C2 τ ρ β) (G : EnvT γ) (st : Stmt) (G' : EnvT γ') (f : γ → (γ' → Xc τ) → Xc τ) : Prop := PS X st (tS X.K c G G' f)
def FSs (X : Cx) (c : C2 τ ρ β) (G : EnvT γ) (sts : List Stmt) (G' : EnvT γ') (f : γ → (γ' → Xc τ) → Xc τ) : Prop := PSs X sts (tS X.K c G G' f)
end
section
variable {X : Cx} {τ ρ β γ γ' γ1 γ2 α αs : Type} {c : C2 τ ρ β} {G : EnvT γ} {G' : EnvT γ'} {G1 : EnvT γ1} {G2 : EnvT γ2} [Rp α] [Rps αs] {a b e : Expr} {st : Stmt} {sts : List Stmt} {pos p p2 : Pos}
theorem FS.cast {f f' : γ → (γ' → Xc τ) → Xc τ} (h : FS X c G st G' f) (i : ∀ g k, f' g k = f g k) : FS X c G st G' f' := by rw [show f' = f from funext fun g => funext (i g)]; exact h
theorem FSs.cast {f f' : γ → (γ' → Xc τ) → Xc τ} (h : FSs X c G sts G' f) (i : ∀ g k, f' g k = f g k) : FSs X c G sts G' f' := by rw [show f' = f from funext fun g => funext (i g)]; exact h
theorem fs_n {m : γ → Xc γ'} (h : FN X c.toC1 G st G' m) : FS X c G st G' (fun g k => (m g).bind k) :=
  PS.imp h fun D σ H ⟨F, g, k, w, q, d, n⟩ => by
    refine ⟨F, g, w, q, ?_⟩
    cases e1 : m g with
    | ok g' => intro σ' F' H' w1 a1 q1; simp only [e1] at d; exact n g' σ' F' H' w1 a1 q1 (Done.on (show Done X.K c D F σ (k g') from d) w1.f a1)
    | er c' fs => simp only [e1] at d; exact d
    | no => simp only [e1] at d; exact d
theorem fss_n {m : γ → Xc γ'} (h : FNs X c.toC1 G sts G' m) : FSs X c G sts G' (fun g k => (m g).bind k) :=
  PSs.imp h fun D σ H ⟨F, g, k, w, q, d, n⟩ => by
    refine ⟨F, g, w, q, ?_⟩
    cases e1 : m g with
    | ok g' => intro σ' F' H' w1 a1 q1; simp only [e1] at d; exact n g' σ' F' H' w1 a1 q1 (Done.on (show Done X.K c D F σ (k g') from d) w1.f a1)
    | er c' fs => simp only [e1] at d; exact d
    | no => simp only [e1] at d; exact d
theorem fss_nil : FSs X c G [] G (fun g k => k g) := PSs.imp pss_nil fun D σ H ⟨F, g, k, w, q, d, n⟩ => n g σ F H (Ws.refl w) Ag.refl q d
theorem fss_one {f : γ → (γ' → Xc τ) → Xc τ} (h : FS X c G st G' f) : FSs X c G [st] G' f := pss_one h
theorem fss_cons {f1 : γ → (γ1 → Xc τ) → Xc τ} {f2 : γ1 → (γ2 → Xc τ) → Xc τ} (h1 : FS X c G st G1 f1) (h2 : FSs X c G1 sts G2 f2) : FSs X c G (st :: sts) G2 (fun g k => f1 g fun g1 => f2 g1 k) :=
  PSs.imp (pss_cons h1 h2) fun D σ H ⟨F, g, k, w, q, d, n⟩ =>
    ⟨F, g, fun g1 => f2 g1 k, w, q, d, fun g1 σ1 F1 H1 w1 a1 q1 d1 => ⟨F1, g1, k, w1.w, q1, d1, fun g' σ' F' H' w2 a2 q2 d2 => n g' σ' F' H' (w1.trans w2) (a1.trans a2) q2 d2⟩⟩
theorem fs_set (i : Nat) {x : Str} {p' : Pos} {ψ : γ → α → γ'} [P : Put G i α G' ψ] {fa : γ → Xc α} (hM : c.M i = true) (ha : FE X c.toC0 G e fa) (hN : X.N.Nodup) (hi : X.N[i]? = some x := by rfl) (hx : Loc X.env.scope x := by first | exact Or.inl rfl | exact Or.inr rfl)
    (hs : swapsWith e (some (.Name x p')) pos.line X.env = pure false := by rfl) (hf : X.fn x = true ∨ X.env.scope.names.lookup x = some .local := by first | exact .inl rfl | exact .inr rfl) :
    FS X c G (.Assign [.Name x p'] e pos) G' (fun g k => (fa g).bind fun v => k (ψ g v)) :=
  FS.cast (fs_n (fn_set i hM ha hN hi hx hs hf)) fun g k => by
    cases fa g <;> rfl
theorem fs_expr {fa : γ → Xc α} (ha : FE X c.toC0 G e fa) (hs : swapsWith e none pos.line X.env = pure false := by rfl) : FS X c G (.Expr e pos) G (fun g k => (fa g).bind fun _ => k g) :=
  FS.cast (fs_n (fn_expr ha hs)) fun g k => by cases fa g <;> rfl
theorem fs_if {ft : γ → Xc Bool} {fA fB : γ → (γ' → Xc τ) → Xc τ} {tA tB : List Stmt} (ht : FT X c.toC0 G e ft) (hA : FSs X c G tA G' fA) (hB : FSs X c G tB G' fB) :
    FS X c G (.If e tA tB pos) G' (fun g k => (ft g).bind fun b => if b = true then fA g k else fB g k) :=
  PS.imp (ps_if ht hA hB) fun D σ H ⟨F, g, k, w, q, d, n⟩ => by
    refine ⟨F, g, w, q, ?_⟩
    cases e1 : ft g with
    | ok b =>
      intro F1 H1 w1
      simp only [e1] at d
      have n' : ∀ g' σ' F' H', Ws c.toC0 F1 F' H' → Ag c.M σ σ' → G'.rel X.K c.H0 F' H' σ' g' → Done X.K c D F' σ' (k g') → D.nx σ' H' := fun g' σ' F' H' w2 => n g' σ' F' H' ⟨w1.f.trans w2.f, w2.w⟩
      cases b with
      | true => exact iteT ⟨F1, g, k, w.trans w1, G.mono q w1, Done.on d w1.f Ag.refl, n'⟩
      | false => exact iteF ⟨F1, g, k, w.trans w1, G.mono q w1, Done.on d w1.f Ag.refl, n'⟩
    | er c' fs => simp only [e1] at d; exact Done.er d w
    | no => simp only [e1] at d; exact d
theorem fs_retG [Rp ρ] {fa : γ → Xc ρ} {rt : ρ → τ} (hO : c.O.ret = rt) (hR : c.R = rtF ρ) (ha : FE X c.toC0 G e fa) : FS X c G (.Return (some e) pos) G' (fun g _ => (fa g).bind fun v => Xc.ok (rt v)) :=
  PS.imp (ps_ret ha) fun D σ H ⟨F, g, k, w, q, d, n⟩ => by
    refine ⟨F, g, w, q, ?_⟩
    subst hO
    cases e1 : fa g with
    | ok v => intro u F1 H1 w1 r1; simp only [e1] at d; exact c.O.hret d u F1 H1 (Ws.of w w1) (by rw [hR]; exact r1)
    | er c' fs => simp only [e1] at d; exact Done.er d w
    | no => simp only [e1] at d; exact d
theorem fs_retGO {fa : γ → Xc (List α)} {c : C2 τ (List α) β} {rt : List α → τ} (hO : c.O.ret = rt) (hR : c.R = rtO α) (ha : FO X c.toC0 G e fa) : FS X c G (.Return (some e) pos) G' (fun g _ => (fa g).bind fun v => Xc.ok (rt v)) :=
  PS.imp (ps_ret ha) fun D σ H ⟨F, g, k, w, q, d, n⟩ => by
    refine ⟨F, g, w, q, ?_⟩
    subst hO
    cases e1 : fa g with
    | ok v => intro p xs F1 H1 w1 n1 f1 h1 z r1; simp only [e1] at d; exact c.O.hret d _ F1 H1 (Ws.of w w1) (by rw [hR]; exact ⟨p, xs, rfl, w.h.free n1, f1, h1, z, r1⟩)
    | er c' fs => simp only [e1] at d; exact Done.er d w
    | no => simp only [e1] at d; exact d
/-- a def's return; a return out of a loop's turn -/
theorem fs_ret {c : C2 ρ ρ Unit} [Rp ρ] {fa : γ → Xc ρ} (ha : FE X c.toC0 G e fa) (hO : c.O.ret = id := by rfl) (hR : c.R = rtF ρ := by rfl) : FS X c G (.Return (some e) pos) G' (fun g _ => fa g) :=
  FS.cast (fs_retG hO hR ha) fun g k => by cases fa g <;> rfl
theorem fs_retO {c : C2 (List α) (List α) Unit} {fa : γ → Xc (List α)} (ha : FO X c.toC0 G e fa) (hO : c.O.ret = id := by rfl) (hR : c.R = rtO α := by rfl) : FS X c G (.Return (some e) pos) G' (fun g _ => fa g) :=
  FS.cast (fs_retGO hO hR ha) fun g k => by cases fa g <;> rfl
theorem fs_retL {c : C2 (Lp β ρ) ρ β} [Rp ρ] {fa : γ → Xc ρ} (ha : FE X c.toC0 G e fa) (hO : c.O.ret = Lp.rt := by rfl) (hR : c.R = rtF ρ := by rfl) : FS X c G (.Return (some e) pos) G' (fun g _ => (fa g).bind fun v => Xc.ok (Lp.rt v)) := fs_retG hO hR ha
theorem fs_retLO {c : C2 (Lp β (List α)) (List α) β} {fa : γ → Xc (List α)} (ha : FO X c.toC0 G e fa) (hO : c.O.ret = Lp.rt := by rfl) (hR : c.R = rtO α := by rfl) : FS X c G (.Return (some e) pos) G' (fun g _ => (fa g).bind fun v => Xc.ok (Lp.rt v)) := fs_retGO hO hR ha
/-- behind a return nothing matters -/
theorem fss_sub {f : γ → (γ1 → Xc τ) → Xc τ} {h : γ1 → γ'} (H : FSs X c G sts G1 f) [S : Sub G1 G' h] : FSs X c G sts G' (fun g k => f g fun r => k (h r)) :=
  PSs.imp H fun D σ H ⟨F, g, k, w, q, d, n⟩ => ⟨F, g, fun r => k (h r), w, q, d, fun g' σ' F' H' w1 a1 q1 d1 => n (h g') σ' F' H' w1 a1 (S.sub q1) d1⟩
theorem fs_pre {f : γ1 → (γ' → Xc τ) → Xc τ} {h : γ → γ1} (H : FS X c G1 st G' f) [S : Sub G G1 h] : FS X c G st G' (fun g k => f (h g) k) :=
  PS.imp H fun D σ H ⟨F, g, k, w, q, d, n⟩ => ⟨F, h g, k, w, S.sub q, d, n⟩
theorem fss_pre {f : γ1 → (γ' → Xc τ) → Xc τ} {h : γ → γ1} (H : FSs X c G1 sts G' f) [S : Sub G G1 h] : FSs X c G sts G' (fun g k => f (h g) k) :=
  PSs.imp H fun D σ H ⟨F, g, k, w, q, d, n⟩ => ⟨F, h g, k, w, S.sub q, d, n⟩
end
end FL

/-! FL6: defs, calls, exceptions raised, loops. -/
namespace FL
open PySem L2
/-! ### a def's promise -/
/-- from a frozen heap F: the arguments stand for as; what comes back stands for m as -/
def PoR {ρ : Type} (R : Rt ρ) (K : PySem.W.Frag) (F H : Hp) (Q : VK) (E : XK) (m : Xc ρ) : Prop := match m with
  | .ok r => ∀ v F' H', Wd F H F' H' → R.rr K H F' H' v r → Q v H'
  | .er c fs => ErP K F H E c fs
  | .no => False
def spF {αs ρ : Type} [Rps αs] (K : PySem.W.Frag) (R : Rt ρ) (m : αs → Xc ρ) : Sp := fun vs H Q E => ∃ F as, Same F H ∧ Rps.isL K F vs as ∧ PoR R K F H Q E (m as)
/-- the number of arguments -/
class RpsN (αs : Type) [Rps αs] (n : outParam Nat) : Prop where
  len : ∀ {K F vs} {as : αs}, Rps.isL K F vs as → vs.length = n
instance : RpsN Unit 0 := ⟨fun h => by subst h; rfl⟩
instance {α αs : Type} [Rp α] [Rps αs] {n : Nat} [N : RpsN αs n] : RpsN (α × αs) (n + 1) := ⟨fun ⟨v, r, e, h, t⟩ => by subst e; simp [N.len t]⟩
/-- the slots at a def's entry: its arguments, then what has no value yet -/
class StartT (αs : Type) [Rps αs] {γ : outParam Type} (G : outParam (EnvT γ)) (h : outParam (αs → γ)) : Prop where
  st : ∀ {K H0 F H vs as k}, Rps.isL K F vs as → G.rel K H0 F H (vs.map some ++ List.replicate k none) (h as)
instance : StartT Unit nl (fun _ => ()) := ⟨fun _ => trivial⟩
instance {α αs γ : Type} [Rp α] [Rps αs] (G : EnvT γ) (h : αs → γ) [S : StartT αs G h] : StartT (α × αs) (va α G) (fun a => (a.1, h a.2)) := ⟨fun ⟨v, r, e, q, t⟩ => by subst e; exact ⟨v, _, rfl, q, S.st t⟩⟩
/-- n further slots -/
def uns : Nat → EnvT Unit
  | 0 => nl
  | n + 1 => un (uns n)
theorem uns_rel {K : PySem.W.Frag} {H0 F H : Hp} : ∀ (n : Nat) (σ : St), n ≤ σ.length → (uns n).rel K H0 F H σ ()
  | 0, _, _ => trivial
  | n + 1, [], h => by simp at h
  | n + 1, x :: σ, h => ⟨x, σ, rfl, uns_rel n σ (by simpa using h)⟩
/-- the slots at a def's entry, given by the arguments' kinds and the rest -/
class EntryT (αs : Type) [Rps αs] (n : Nat) {γ : outParam Type} (G : outParam (EnvT γ)) (h : outParam (αs → γ)) : Prop where
  st : ∀ {K H0 F H vs as k}, Rps.isL K F vs as → n ≤ k → G.rel K H0 F H (vs.map some ++ List.replicate k none) (h as)
instance entry0 : EntryT Unit 0 nl (fun _ => ()) := ⟨fun _ _ => trivial⟩
instance entryU {n : Nat} {γ : Type} {G : EnvT γ} {h : Unit → γ} [S : EntryT Unit n G h] : EntryT Unit (n + 1) (un G) (fun a => h a) := ⟨fun {K H0 F H vs as k} q hk => by
  have q : vs = [] := q
  subst q
  cases k with
  | zero => simp at hk
  | succ k => exact ⟨none, List.replicate k none, rfl, S.st (as := as) (show ([] : List V) = [] from rfl) (by omega)⟩⟩
instance entryA {α αs γ : Type} [Rp α] [Rps αs] {n : Nat} {G : EnvT γ} {h : αs → γ} [S : EntryT αs n G h] : EntryT (α × αs) n (va α G) (fun a => (a.1, h a.2)) := ⟨fun ⟨v, r, e, q, t⟩ hk => by subst e; exact ⟨v, _, rfl, q, S.st t hk⟩⟩

section
variable {P : Program} {w : World} {K : PySem.W.Frag} {mg : Str → Option Value} {base : Heap} {αs ρ γ γ' : Type} [Rps αs] {G : EnvT γ} {G' : EnvT γ'} {h : αs → γ}
/-- the context of a def's body -/
def cD (ρ : Type) (R : Rt ρ) (F H : Hp) (E : XK) : C2 ρ ρ Unit := { F0 := F, H0 := H, W := fun cls d _ H => E cls d H, M := fun _ => true, O := outD ρ, R := R, GB := nl }
/-- THE RULE for a def: its body by a derivation for any context of such a kind -/
theorem fn_def {x qual : Str} {params : Arguments} {body : List Stmt} {scope : Scope} {dvs : List V} {kws : List (Str × V)} {f : Addr} {fd : FuncData} {N ps : List Str} {k n pn : Nat} {R : Rt ρ} {m : αs → Xc ρ} {fm : γ → (γ' → Xc ρ) → Xc ρ}
    (Fd : FunD K x qual params body scope dvs kws f fd) (S : FnScope N ps scope) [RN : RpsN αs pn] (hpn : ps.length = pn) [ET : EntryT αs n G h] (hn : N.length = pn + n)
    (hb : ∀ (cdv : Value) (A : Around) (outer : List Env) (s : Shared) (F H : Hp) (E : XK), Room k (A.deeper (PyProof.Rows.envOfC qual scope s.heap.objs.size f cdv)) → 
      Takes (cxOf (L2.CX P w) P w K mg base N qual scope f cdv A outer s H E) (cD ρ R F H E).W →
      FSs (cxOf (L2.CX P w) P w K mg base N qual scope f cdv A outer s H E) (cD ρ R F H E) G body G' fm)
    (hm : ∀ as, m as = fm (h as) fun _ => .no) : FnOk P w K mg base (L2.CX P w) (k + 1) f fd ps (spF K R m) := by
  refine Fd.ok S (fun vs H Q E ⟨F, as, _, r, _⟩ => by rw [hpn]; exact RN.len r) fun cdv A outer s H vs Q E hr ⟨F, as, sm, r, p⟩ => ?_
  refine ⟨_, hb cdv A outer s F H E hr (takes_of rfl rfl rfl rfl), F, h as, fun _ => .no, Wd.refl sm, ?_, ?_, fun g' σ' F' H' _ _ _ d => d.elim⟩
  · unfold L2.start
    have e : N.length - vs.length = n := by rw [RN.len r, hn]; omega
    rw [e]
    exact ET.st r (Nat.le_refl _)
  · rw [hm as] at p
    revert p
    cases fm (h as) (fun _ => .no) with
    | ok t => exact fun p v F' H' w1 rr => p v F' H' w1.w rr
    | er cc fs => exact fun p σ' F' H' w1 _ => ErP.on p w1.w
    | no => exact fun p => p
end

/-! ### calls -/
section
variable {X : Cx} {c : C0} {γ α ρ αs : Type} {G : EnvT γ} [Rp α] [Rp ρ] [Rps αs] {a b e : Expr} {pos p : Pos} {es : List Expr} {k : Nat} {f : Addr} {fd : FuncData} {ps : List Str} {x : Str}
theorem fe_call {m : αs → Xc ρ} {fs : γ → Xc αs} (F : FnOk X.prog X.w X.K X.mg X.base (L2.CX X.prog X.w) k f fd ps (spF X.K (rtF ρ) m)) (tk : Takes X c.W) (hr : Room k X.A) (hm : X.mg x = some (.ref f)) (hk : PySem.W.keepIn X.K (.ref f) = true) (hb : Binds X.K fd ps [])
    (ha : FA X c G (e :: es) fs) (hg : Gl X x := by rfl) (hdb : (x == ("__debug__" : Str)) = false := by decide) (he : starEach (e :: es) X.env = (false, eval e X.env) :: starEach es X.env := by rfl) (hpl : (backTo pos (starEach es X.env)).any (·.1) = false := by rfl) :
    FE X c G (.Call (.Name x p) (e :: es) [] pos) (fun g => (fs g).bind m) :=
  PE.imp (pe_callS (E := WE c.W) F hr hg hm hk hb (fun σ => passAt tk σ) ha hdb he hpl) fun σ H Q ⟨F, g, w, q, h⟩ => by
    refine ⟨F, g, w, q, ?_⟩
    cases e1 : fs g with
    | ok as =>
      intro vs F1 H1 w1 r1
      simp only [e1] at h
      have h : Po X.K F H Q (WE c.W σ) (m as) := h
      refine ⟨F1, as, w1.s, r1, ?_⟩
      revert h
      cases m as with
      | ok r => exact fun h v F2 H2 w2 rr => h v F2 H2 (w1.trans w2) rr
      | er cc fs => exact fun h => ErP.on h w1
      | no => exact fun h => h
    | er c' fs => simp only [e1] at h; exact h
    | no => simp only [e1] at h; exact h
theorem fo_call {m : αs → Xc (List ρ)} {fs : γ → Xc αs} (F : FnOk X.prog X.w X.K X.mg X.base (L2.CX X.prog X.w) k f fd ps (spF X.K (rtO ρ) m)) (tk : Takes X c.W) (hr : Room k X.A) (hm : X.mg x = some (.ref f)) (hk : PySem.W.keepIn X.K (.ref f) = true) (hb : Binds X.K fd ps [])
    (ha : FA X c G (e :: es) fs) (hg : Gl X x := by rfl) (hdb : (x == ("__debug__" : Str)) = false := by decide) (he : starEach (e :: es) X.env = (false, eval e X.env) :: starEach es X.env := by rfl) (hpl : (backTo pos (starEach es X.env)).any (·.1) = false := by rfl) :
    FO X c G (.Call (.Name x p) (e :: es) [] pos) (fun g => (fs g).bind m) :=
  PE.imp (pe_callS (E := WE c.W) F hr hg hm hk hb (fun σ => passAt tk σ) ha hdb he hpl) fun σ H Q ⟨F, g, w, q, h⟩ => by
    refine ⟨F, g, w, q, ?_⟩
    cases e1 : fs g with
    | ok as =>
      intro vs F1 H1 w1 r1
      simp only [e1] at h
      have h : PoO X.K F H Q (WE c.W σ) (m as) := h
      refine ⟨F1, as, w1.s, r1, ?_⟩
      revert h
      cases m as with
      | ok r =>
        intro h v F2 H2 w2 rr
        obtain ⟨p, xs, e, n, f1, h1, z, al⟩ := rr
        subst e
        exact h p xs F2 H2 (w1.trans w2) (w1.h.free n) f1 h1 z al
      | er cc fs => exact fun h => ErP.on h w1
      | no => exact fun h => h
    | er c' fs => simp only [e1] at h; exact h
    | no => simp only [e1] at h; exact h
end

/-! ### raise -/
section
variable {X : Cx} {τ ρ β γ γ' : Type} {c : C2 τ ρ β} {G : EnvT γ} {G' : EnvT γ'} {pos pos2 p p2 : Pos} {j : Nat}
/-- raise X('..'), X a plain class over ValueError -/
theorem fs_raise {x m : Str} (hc : X.calm = true) (tk : Takes X c.W) (q : PySem.W.excIn X.K (He.ga X.K x) He.veBase "ValueError.__new__" = true) (gC : X.mg x = some (.ref (He.ga X.K x))) (kC : PySem.W.keepIn X.K (.ref (He.ga X.K x)) = true)
    (h1 : PySem.W.subIn X.K (.ref (He.ga X.K x)) (.type "BaseException") = some true) (h2 : PySem.W.typeIn X.K (.ref (He.ga X.K x)) = some (.type "type")) (hg : Gl X x := by rfl) (hdb : (x == ("__debug__" : Str)) = false := by decide) :
    FS X c G (.Raise (some (.Call (.Name x p) [.Constant (.str m) j p2] [] pos)) none pos2) G' (fun _ _ => Xc.er x []) :=
  PS.imp (ps_raise hc tk (pmk_own PySem.F.excBase_ValueError q gC kC (raises_own h1 h2) hg hdb)) fun D σ H ⟨F, g, k, w, q, d, n⟩ => by
    exact d σ F H (Ws.refl w) Ag.refl F H (Wd.refl w.s)
end
end FL

/-! FL7: defs by their names. -/
namespace FL
open PySem L2
/-- the module's def x keeps the promise sp -/
structure Dk (P : Program) (w : World) (K : PySem.W.Frag) (mg : Str → Option Value) (base : Heap) (x : Str) (ps : List Str) (k : Nat) (sp : Sp) : Prop where
  ex : ∃ fd, FnOk P w K mg base (L2.CX P w) k (He.ga K x) fd ps sp ∧ Binds K fd ps []
  mg : mg x = some (.ref (He.ga K x))
  kp : PySem.W.keepIn K (.ref (He.ga K x)) = true
section
variable {X : Cx} {c : C0} {γ α ρ αs : Type} {G : EnvT γ} [Rp α] [Rp ρ] [Rps αs] {a b e : Expr} {pos p : Pos} {es : List Expr} {k j : Nat} {ps : List Str} {x : Str}
theorem fe_cal {m : αs → Xc ρ} {fs : γ → Xc αs} (D : Dk X.prog X.w X.K X.mg X.base x ps j (spF X.K (rtF ρ) m)) (tk : Takes X c.W) (hr : Room k X.A) (ha : FA X c G (e :: es) fs) (hjk : j ≤ k := by decide)
    (hg : Gl X x := by rfl) (hdb : (x == ("__debug__" : Str)) = false := by decide) (he : starEach (e :: es) X.env = (false, eval e X.env) :: starEach es X.env := by rfl) (hpl : (backTo pos (starEach es X.env)).any (·.1) = false := by rfl) :
    FE X c G (.Call (.Name x p) (e :: es) [] pos) (fun g => (fs g).bind m) := by
  obtain ⟨⟨fd, F, B⟩, h1, h2⟩ := D
  exact fe_call F tk (hr.mono hjk) h1 h2 B ha hg hdb he hpl
theorem fo_cal {m : αs → Xc (List ρ)} {fs : γ → Xc αs} (D : Dk X.prog X.w X.K X.mg X.base x ps j (spF X.K (rtO ρ) m)) (tk : Takes X c.W) (hr : Room k X.A) (ha : FA X c G (e :: es) fs) (hjk : j ≤ k := by decide)
    (hg : Gl X x := by rfl) (hdb : (x == ("__debug__" : Str)) = false := by decide) (he : starEach (e :: es) X.env = (false, eval e X.env) :: starEach es X.env := by rfl) (hpl : (backTo pos (starEach es X.env)).any (·.1) = false := by rfl) :
    FO X c G (.Call (.Name x p) (e :: es) [] pos) (fun g => (fs g).bind m) := by
  obtain ⟨⟨fd, F, B⟩, h1, h2⟩ := D
  exact fo_call F tk (hr.mono hjk) h1 h2 B ha hg hdb he hpl
end
/-- a plain class of errors over ValueError -/
structure Xk (K : PySem.W.Frag) (mg : Str → Option Value) (x : Str) : Prop where
  q : PySem.W.excIn K (He.ga K x) He.veBase "ValueError.__new__" = true
  kp : PySem.W.keepIn K (.ref (He.ga K x)) = true
  h1 : PySem.W.subIn K (.ref (He.ga K x)) (.type "BaseException") = some true
  h2 : PySem.W.typeIn K (.ref (He.ga K x)) = some (.type "type")
  mg : mg x = some (.ref (He.ga K x))
section
variable {X : Cx} {τ ρ β γ γ' : Type} {c : C2 τ ρ β} {G : EnvT γ} {G' : EnvT γ'} {pos pos2 p p2 : Pos} {j : Nat}
theorem fs_rai {x m : Str} (tk : Takes X c.W) (k : Xk X.K X.mg x) (hc : X.calm = true := by rfl) (hg : Gl X x := by rfl) (hdb : (x == ("__debug__" : Str)) = false := by decide) :
    FS X c G (.Raise (some (.Call (.Name x p) [.Constant (.str m) j p2] [] pos)) none pos2) G' (fun _ _ => Xc.er x []) := fs_raise hc tk k.q k.mg k.kp k.h1 k.h2 hg hdb
end
end FL

/-! FL8: lists of one's own: stored, read, grown, changed by place, returned. -/
namespace FL
open PySem L2
/-- the slot i holds a list of one's own -/
class AtO {γ : Type} (G : EnvT γ) (i : Nat) (α : outParam Type) (r : outParam (Rp α)) (π : outParam (γ → List α)) (put : outParam (γ → List α → γ)) : Prop where
  get : ∀ {K H0 F H σ g}, G.rel K H0 F H σ g → ∃ p xs, σ[i]? = some (some (.ref p)) ∧ p ∈ G.own σ ∧ H p = some (.lst xs) ∧ (π g).length ≤ sizeLine ∧ @Al α r K F xs (π g)
  set : ∀ {K H0 F H σ g p ys l}, G.rel K H0 F H σ g → σ[i]? = some (some (.ref p)) → l.length ≤ sizeLine → @Al α r K F ys l → G.rel K H0 F (upd H p (.lst ys)) σ (put g l)
instance {α γ : Type} [r : Rp α] (G : EnvT γ) : AtO (ow α G) 0 α r (fun g => g.1) (fun g l => (l, g.2)) := ⟨fun ⟨p, σ', xs, e, h0, f, h, z, q, n, t⟩ => ⟨p, xs, by subst e; rfl, by subst e; simp [ow, adr], h, z, q⟩,
  fun {K H0 F H σ g b ys l} ⟨p, σ', xs, e, h0, f, h, z, q, n, t⟩ e2 hz hl => by
    subst e
    have e3 : p = b := by simpa using e2
    subst e3
    exact ⟨p, σ', ys, rfl, h0, f, upd_same, hz, hl, n, G.mu t n⟩⟩
instance {α β γ : Type} [Rp β] [r : Rp α] (G : EnvT γ) (i : Nat) (π : γ → List α) (put : γ → List α → γ) [a : AtO G i α r π put] : AtO (va β G) (i + 1) α r (fun g => π g.2) (fun g l => (g.1, put g.2 l)) := ⟨fun ⟨v, σ', e, _, q⟩ => by
  obtain ⟨p, xs, e2, m, q2⟩ := a.get q
  exact ⟨p, xs, by subst e; exact e2, by subst e; exact m, q2⟩, fun ⟨v, σ', e, w, q⟩ e2 hz hl => ⟨v, σ', e, w, a.set q (by subst e; exact e2) hz hl⟩⟩
instance {α γ : Type} [r : Rp α] (G : EnvT γ) (i : Nat) (π : γ → List α) (put : γ → List α → γ) [a : AtO G i α r π put] : AtO (un G) (i + 1) α r (fun g => π g) (fun g l => put g l) := ⟨fun ⟨v, σ', e, q⟩ => by
  obtain ⟨p, xs, e2, m, q2⟩ := a.get q
  exact ⟨p, xs, by subst e; exact e2, by subst e; exact m, q2⟩, fun ⟨v, σ', e, q⟩ e2 hz hl => ⟨v, σ', e, a.set q (by subst e; exact e2) hz hl⟩⟩
instance {α β γ : Type} [Rp β] [r : Rp α] (G : EnvT γ) (i : Nat) (π : γ → List α) (put : γ → List α → γ) [a : AtO G i α r π put] : AtO (ow β G) (i + 1) α r (fun g => π g.2) (fun g l => (g.1, put g.2 l)) := ⟨fun ⟨p, σ', xs, e, h0, f, h, z, w, n, q⟩ => by
  obtain ⟨b, ys, e2, m, q2⟩ := a.get q
  exact ⟨b, ys, by subst e; exact e2, by subst e; exact List.mem_append_right _ m, q2⟩, fun {K H0 F H σ g b ys l} ⟨p, σ', xs, e, h0, f, h, z, w, n, q⟩ e2 hz hl => by
  subst e
  obtain ⟨b', _, e3, m, _⟩ := a.get q
  have e4 : b' = b := by
    have e2 : σ'[i]? = some (some (.ref b)) := e2
    rw [e3] at e2
    injection e2 with e2
    injection e2 with e2
    injection e2
  subst e4
  have ne : p ≠ b' := fun z => n (by rw [z]; exact m)
  exact ⟨p, σ', xs, rfl, h0, f, by rw [upd_ne ne]; exact h, z, w, n, a.set q e3 hz hl⟩⟩
/-- a new list of one's own goes to the slot i -/
class PutO {γ : Type} (G : EnvT γ) (i : Nat) (α : Type) [Rp α] {δ : outParam Type} (G' : outParam (EnvT δ)) (ψ : outParam (γ → List α → δ)) : Prop where
  put : ∀ {K H0 F H σ g p xs l}, G.rel K H0 F H σ g → p ∉ G.own σ → H0 p = none → F p = none → H p = some (.lst xs) → l.length ≤ sizeLine → Al K F xs l → G'.rel K H0 F H (σ.set i (some (.ref p))) (ψ g l)
  own : ∀ {K H0 F H σ g p} {b : Addr}, G.rel K H0 F H σ g → p ∈ G'.own (σ.set i (some (.ref b))) → p = b ∨ p ∈ G.own σ
instance {α β γ : Type} [Rp α] [Rp β] (G : EnvT γ) : PutO (va β G) 0 α (ow α G) (fun g l => (l, g.2)) := ⟨fun ⟨v, σ', e, _, q⟩ n h0 f h z r => ⟨_, σ', _, by subst e; rfl, h0, f, h, z, r, by subst e; exact n, q⟩,
  fun ⟨v, σ', e, _, q⟩ m => by
    subst e
    rcases List.mem_append.mp m with m | m
    · exact .inl (by simpa [adr] using m)
    · exact .inr m⟩
instance {α γ : Type} [Rp α] (G : EnvT γ) : PutO (un G) 0 α (ow α G) (fun g l => (l, g)) := ⟨fun ⟨v, σ', e, q⟩ n h0 f h z r => ⟨_, σ', _, by subst e; rfl, h0, f, h, z, r, by subst e; exact n, q⟩,
  fun ⟨v, σ', e, q⟩ m => by
    subst e
    rcases List.mem_append.mp m with m | m
    · exact .inl (by simpa [adr] using m)
    · exact .inr m⟩
instance {α β γ : Type} [Rp α] [Rp β] (G : EnvT γ) : PutO (ow β G) 0 α (ow α G) (fun g l => (l, g.2)) := ⟨fun ⟨p, σ', xs, e, _, _, _, _, _, nn, q⟩ n h0 f h z r => ⟨_, σ', _, by subst e; rfl, h0, f, h, z, r, by subst e; exact fun m => n (List.mem_append_right _ m), q⟩,
  fun ⟨p, σ', xs, e, _, _, _, _, _, nn, q⟩ m => by
    subst e
    rcases List.mem_append.mp m with m | m
    · exact .inl (by simpa [adr] using m)
    · exact .inr (List.mem_append_right _ m)⟩
instance {α β γ δ : Type} [Rp α] [Rp β] (G : EnvT γ) (i : Nat) (G' : EnvT δ) (ψ : γ → List α → δ) [P : PutO G i α G' ψ] : PutO (va β G) (i + 1) α (va β G') (fun g a => (g.1, ψ g.2 a)) :=
  ⟨fun ⟨v, σ', e, w, q⟩ n h0 f h z r => ⟨v, σ'.set i _, by subst e; rfl, w, P.put q (by subst e; exact n) h0 f h z r⟩, fun ⟨v, σ', e, w, q⟩ h => by subst e; exact P.own q h⟩
instance {α γ δ : Type} [Rp α] (G : EnvT γ) (i : Nat) (G' : EnvT δ) (ψ : γ → List α → δ) [P : PutO G i α G' ψ] : PutO (un G) (i + 1) α (un G') (fun g a => ψ g a) :=
  ⟨fun ⟨v, σ', e, q⟩ n h0 f h z r => ⟨v, σ'.set i _, by subst e; rfl, P.put q (by subst e; exact n) h0 f h z r⟩, fun ⟨v, σ', e, q⟩ h => by subst e; exact P.own q h⟩
instance {α β γ δ : Type} [Rp α] [Rp β] (G : EnvT γ) (i : Nat) (G' : EnvT δ) (ψ : γ → List α → δ) [P : PutO G i α G' ψ] : PutO (ow β G) (i + 1) α (ow β G') (fun g a => (g.1, ψ g.2 a)) :=
  ⟨fun ⟨p, σ', xs, e, h0', f', h', z', w, nn, q⟩ n h0 f h z r => by
    subst e
    refine ⟨p, σ'.set i _, xs, rfl, h0', f', h', z', w, fun m => ?_, P.put q (fun m => n (List.mem_append_right _ m)) h0 f h z r⟩
    rcases P.own q m with m | m
    · exact n (List.mem_append_left _ (by simp [adr, m]))
    · exact nn m, fun ⟨p, σ', xs, e, _, _, _, _, _, nn, q⟩ h => by
    subst e
    rcases List.mem_append.mp h with h | h
    · exact .inr (List.mem_append_left _ h)
    · rcases P.own q h with h | h
      · exact .inl h
      · exact .inr (List.mem_append_right _ h)⟩

section
variable {X : Cx} {c : C1} {γ γ' α β : Type} {G : EnvT γ} {G' : EnvT γ'} [Rp α] [Rp β] {a b e : Expr} {pos p1 p2 : Pos} {x : Str}
/-- x = [..], x's list one's own -/
theorem fn_setO (i : Nat) {p' : Pos} {ψ : γ → List α → γ'} [P : PutO G i α G' ψ] {fa : γ → Xc (List α)} (hM : c.M i = true) (ha : FO X c.toC0 G e fa) (hN : X.N.Nodup) (hi : X.N[i]? = some x := by rfl) (hx : Loc X.env.scope x := by first | exact Or.inl rfl | exact Or.inr rfl)
    (hs : swapsWith e (some (.Name x p')) pos.line X.env = pure false := by rfl) (hf : X.fn x = true ∨ X.env.scope.names.lookup x = some .local := by first | exact .inl rfl | exact .inr rfl) :
    FN X c G (.Assign [.Name x p'] e pos) G' (fun g => (fa g).bind fun v => Xc.ok (ψ g v)) :=
  PS.imp (ps_set hN hi hx ha hs hf) fun D σ H ⟨F, g, w, q, h⟩ => by
    refine ⟨F, g, w, q, ?_⟩
    cases e1 : fa g with
    | ok v =>
      intro p xs F1 H1 w1 n f1 h1 z r1
      simp only [e1] at h
      have q1 := G.mono q w1
      refine h (σ.set i (some (.ref p))) F1 H1 (Ws.of w w1) (Ag.set hM) (P.put q1 (fun m => ?_) (w.h.free n) f1 h1 z r1)
      obtain ⟨_, _, ys, hy⟩ := G.al q m
      rw [n] at hy
      cases hy
    | er c' fs => simp only [e1] at h; exact PoN.er h w
    | no => simp only [e1] at h; exact h
/-- x = [.. for ..] on one line, where the block stores it -/
theorem fn_setOL (i : Nat) {tx : γ → Xc (List α)} {st : Stmt} {te : TE} {ψ : γ → List α → γ'} [P : PutO G i α G' ψ] (hM : c.M i = true) (ha : ∀ σ H Q, tO X.K c.toC0 G tx σ H Q → te σ H Q) (hs : PS X st (tAsg te (gName i))) :
    FN X c G st G' (fun g => (tx g).bind fun v => Xc.ok (ψ g v)) :=
  PS.imp hs fun D σ H ⟨F, g, w, q, h⟩ => by
    refine ha σ H _ ⟨F, g, w, q, ?_⟩
    cases e1 : tx g with
    | ok v =>
      intro p xs F1 H1 w1 n f1 h1 z r1
      simp only [e1] at h
      have q1 := G.mono q w1
      refine h (σ.set i (some (.ref p))) F1 H1 (Ws.of w w1) (Ag.set hM) (P.put q1 (fun m => ?_) (w.h.free n) f1 h1 z r1)
      obtain ⟨_, _, ys, hy⟩ := G.al q m
      rw [n] at hy
      cases hy
    | er c' fs => simp only [e1] at h; exact PoN.er h w
    | no => simp only [e1] at h; exact h
theorem fn_setL (i : Nat) {tx : γ → Xc (List α)} {st : Stmt} {te : TE} {ψ : γ → List α → γ'} [P : Put G i (List α) G' ψ] (hM : c.M i = true) (ha : ∀ σ H Q, tO X.K c.toC0 G tx σ H Q → te σ H Q) (hs : PS X st (tAsg te (gName i))) :
    FN X c G st G' (fun g => (tx g).bind fun v => Xc.ok (ψ g v)) :=
  PS.imp hs fun D σ H ⟨F, g, w, q, h⟩ => by
    refine ha σ H _ ⟨F, g, w, q, ?_⟩
    cases e1 : tx g with
    | ok v =>
      intro p xs F1 H1 w1 n f1 h1 z r1
      simp only [e1] at h
      have w2 := w1.fz n f1 h1
      exact h (σ.set i (some (.ref p))) _ H1 (Ws.of w w2) (Ag.set hM) (P.put (G.mono q w2) ⟨p, xs, rfl, SqL.of upd_same, z, r1.mono (same_new f1)⟩)
    | er c' fs => simp only [e1] at h; exact PoN.er h w
    | no => simp only [e1] at h; exact h
/-- the world behind a change of a list of one's own -/
theorem Wd.mutd {F H F' H' : Hp} {p : Addr} {o : HO} (w : Wd F H F' H') (h0 : H p = none) (f : F' p = none) : Wd F H F' (upd H' p o) :=
  ⟨w.f, fun b u e => by rw [upd_ne (ne_of_none e h0)]; exact w.h b u e, fun b u e => by rw [upd_ne (ne_of_none e f)]; exact w.s b u e, w.n⟩
@[irreducible] def appX {α : Type} (l : List α) (a : α) : Xc (List α) := if l.length < sizeLine then .ok (l ++ [a]) else .no
/-- x.append(e) -/
theorem fn_append (i : Nat) {τ : Type} {r : Rp τ} {π : γ → List τ} {put : γ → List τ → γ} [A : AtO G i τ r π put] {fa : γ → Xc τ} {apos cpos : Pos} (ha : FE X c.toC0 G e fa) (hN : X.N[i]? = some x := by rfl) (hv : Vis X.env.scope x := by first | exact Or.inl rfl | exact Or.inr (Or.inl rfl) | exact Or.inr (Or.inr rfl))
    (hd : (x == ("__debug__" : Str)) = false := by decide) (hcd : (x == ("__classdict__" : Str)) = false := by decide) (hbase : attributeBase (.Name x p1) "append" X.env (eval (.Name x p1) X.env) = eval (.Name x p1) X.env := by rfl)
    (hfew : ((backTo cpos (starEach [e] X.env)).all (fun x => !x.1) && (backToKw cpos (keywordEach [] X.env)).all (fun x => x.1.isSome) && decide ([e].length + ([] : List Keyword).length + (if ([] : List Keyword).isEmpty then 0 else 1) < 30)) = true := by rfl)
    (hline : (apos.endLine == cpos.line) = true := by rfl) (hs : starEach [e] X.env = (false, eval e X.env) :: starEach [] X.env := by rfl) (hplain : (backTo cpos (starEach [] X.env)).any (·.1) = false := by rfl)
    (hsw : swapsWith (.Call (.Attribute (.Name x p1) "append" apos) [e] [] cpos) none pos.line X.env = pure false := by rfl) :
    FN X c G (.Expr (.Call (.Attribute (.Name x p1) "append" apos) [e] [] cpos) pos) G (fun g => (fa g).bind fun v => (appX (π g) v).bind fun l => Xc.ok (put g l)) :=
  PS.imp (ps_expr (pe_bm PySem.F.plainAttrs_list PySem.F.slot_list_append PySem.F.type_list_append mt_append (pe_var hN hv hd hcd) (pa_cons ha pa_nil hs) hbase hfew hline hs hplain) hsw) fun D σ H ⟨F, g, w, q, h⟩ => by
    obtain ⟨p, xs, e1, m, hp, z, al⟩ := A.get q
    refine ⟨.ref p, e1, .inl ⟨rfl, _, SqL.of hp⟩, F, g, w, q, ?_⟩
    cases e2 : fa g with
    | ok v =>
      intro u F1 H1 w1 r1
      simp only [e2] at h
      have h : PoN X.K c G D F H σ ((appX (π g) v).bind fun l => Xc.ok (put g l)) := h
      unfold appX at h
      by_cases hz : (π g).length < sizeLine
      · rw [if_pos hz] at h
        refine ⟨p, xs, u, rfl, rfl, w1.h _ _ hp, by rw [al.len]; exact hz, ?_⟩
        obtain ⟨h0, hf, _⟩ := G.al q m
        have q1 := G.mono q w1
        obtain ⟨_, hf1, _⟩ := G.al q1 m
        refine h σ F1 _ ⟨w1.f, (w.trans w1).mutd h0 hf1⟩ Ag.refl ?_
        exact A.set q1 e1 (by simp; omega) ((al.mono w1.f).snoc r1)
      · rw [if_neg hz] at h; exact h.elim
    | er c' fs => simp only [e2] at h; exact PoN.er h w
    | no => simp only [e2] at h; exact h
@[irreducible] def setX {α : Type} (l : List α) (i : Int) (a : α) : Xc (List α) := match ixN l.length i with
  | some j => .ok (l.set j a)
  | none => .no
/-- x[k] = e, x a list of one's own -/
theorem fn_setix (i : Nat) {τ : Type} {r : Rp τ} {π : γ → List τ} {put : γ → List τ → γ} [A : AtO G i τ r π put] {fa : γ → Xc τ} {fk : γ → Xc Int} {spos : Pos} {k : Expr} (ha : FE X c.toC0 G e fa) (hk : FE X c.toC0 G k fk) (hN : X.N[i]? = some x := by rfl)
    (hv : Vis X.env.scope x := by first | exact Or.inl rfl | exact Or.inr (Or.inl rfl) | exact Or.inr (Or.inr rfl))
    (hd : (x == ("__debug__" : Str)) = false := by decide) (hcd : (x == ("__classdict__" : Str)) = false := by decide)
    (hs : swapsWithSole [.Subscript (.Name x p1) k spos] e pos.line X.env = pure false := by rfl) (hw : swappedStores [.Subscript (.Name x p1) k spos] e X.env = pure none := by rfl)
    (h1 : (assignEach [.Subscript (.Name x p1) k spos] X.env).map (·.2) = [assign (.Subscript (.Name x p1) k spos) X.env] := by rfl) (hps : PG X (.Subscript (.Name x p1) k spos) (gSub (tVar i) (tF X.K c.toC0 G fk) rSetL)) :
    FN X c G (.Assign [.Subscript (.Name x p1) k spos] e pos) G (fun g => (fa g).bind fun v => (fk g).bind fun j => (setX (π g) j v).bind fun l => Xc.ok (put g l)) :=
  PS.imp (ps_asg ha hps hs hw h1) fun D σ H ⟨F, g, w, q, h⟩ => by
    refine ⟨F, g, w, q, ?_⟩
    cases e2 : fa g with
    | ok v =>
      intro u F1 H1 w1 r1
      simp only [e2] at h
      have h : PoN X.K c G D F H σ ((fk g).bind fun j => (setX (π g) j v).bind fun l => Xc.ok (put g l)) := h
      have q1 := G.mono q w1
      obtain ⟨p, xs, e1, m, hp, z, al⟩ := A.get q1
      refine ⟨.ref p, e1, F1, g, w.trans w1, q1, ?_⟩
      cases e3 : fk g with
      | ok j =>
        intro jv F2 H2 w2 r2
        simp only [e3] at h
        have h : PoN X.K c G D F H σ ((setX (π g) j v).bind fun l => Xc.ok (put g l)) := h
        unfold setX at h
        have q2 := G.mono q1 w2
        obtain ⟨h0, hf2, _⟩ := G.al q2 m
        cases e4 : ixN (π g).length j with
        | none => rw [e4] at h; exact h.elim
        | some n =>
          rw [e4] at h
          refine ⟨p, xs, j, n, rfl, r2, w2.h _ _ hp, by rw [al.len]; exact e4, ?_⟩
          refine h σ F2 _ ⟨w1.f.trans w2.f, ((w.trans w1).trans w2).mutd h0 hf2⟩ Ag.refl ?_
          exact A.set q2 e1 (by simp; exact z) ((al.mono w2.f).set (Rp.mono w2.f r1) n)
      | er c' fs =>
        simp only [e3] at h
        exact ErP.on (PoN.er h w) w1
      | no => simp only [e3] at h; exact h
    | er c' fs => simp only [e2] at h; exact PoN.er h w
    | no => simp only [e2] at h; exact h
end
end FL

/-! FL9: lists of one's own lent, returned; what is walked; for; comprehensions. -/
namespace FL
open PySem L2
/-! ### data without lists: it leans on no list -/
class RpT (α : Type) [Rp α] : Prop where
  down : ∀ {K F F' v} {a : α}, (∀ p o, F p = some o → (∀ xs, o ≠ HO.lst xs) → F' p = some o) → Rp.is K F v a → Rp.is K F' v a
instance : RpT Int := ⟨fun _ h => h⟩
instance : RpT Bool := ⟨fun _ h => h⟩
instance : RpT Str := ⟨fun _ h => h⟩
instance : RpT Unit := ⟨fun _ h => h⟩
instance {α : Type} [Rp α] [RpT α] : RpT (Option α) := ⟨fun {K F F' v a} s h => by
  cases a with
  | none => exact h
  | some a => exact ⟨h.1, RpT.down s h.2⟩⟩
theorem sqT_down {K : PySem.W.Frag} {F F' : Hp} {p : Addr} {xs : List V} (s : ∀ p o, F p = some o → (∀ xs, o ≠ HO.lst xs) → F' p = some o) (h : SqT K F p xs) : SqT K F' p xs := by
  rcases h with (h | ⟨o, h⟩) | h
  · exact .inl (.inl (s _ _ h fun _ z => nomatch z))
  · exact .inl (.inr ⟨o, s _ _ h fun _ z => nomatch z⟩)
  · exact .inr h
theorem al_down {α : Type} [Rp α] [RpT α] {K : PySem.W.Frag} {F F' : Hp} {vs : List V} {as : List α} (s : ∀ p o, F p = some o → (∀ xs, o ≠ HO.lst xs) → F' p = some o) (h : Al K F vs as) : Al K F' vs as := by
  induction h with
  | nil => exact .nil
  | cons h _ ih => exact .cons (RpT.down s h) ih
instance {α : Type} [Rp α] [RpT α] : RpT (Tu α) := ⟨fun s ⟨p, xs, e, h, z, r⟩ => ⟨p, xs, e, sqT_down s h, z, al_down s r⟩⟩
instance {α β : Type} [Rp α] [Rp β] [RpT α] [RpT β] : RpT (α × β) := ⟨fun s ⟨p, x, y, e, h, r1, r2⟩ => ⟨p, x, y, e, sqT_down s h, RpT.down s r1, RpT.down s r2⟩⟩
instance {α β γ : Type} [Rp α] [Rp β] [Rp γ] [RpT α] [RpT β] [RpT γ] : RpT (T3 α β γ) := ⟨fun s ⟨p, x, y, z, e, h, r1, r2, r3⟩ => ⟨p, x, y, z, e, sqT_down s h, RpT.down s r1, RpT.down s r2, RpT.down s r3⟩⟩
instance {α β γ δ : Type} [Rp α] [Rp β] [Rp γ] [Rp δ] [RpT α] [RpT β] [RpT γ] [RpT δ] : RpT (T4 α β γ δ) := ⟨fun s ⟨p, x, y, z, u, e, h, r1, r2, r3, r4⟩ => ⟨p, x, y, z, u, e, sqT_down s h, RpT.down s r1, RpT.down s r2, RpT.down s r3, RpT.down s r4⟩⟩
/-- the slots with the lists of one's own lent -/
class Bor {γ : Type} (G : EnvT γ) {δ : outParam Type} (G' : outParam (EnvT δ)) (h : outParam (γ → δ)) : Prop where
  bor : ∀ {K H0 F H F' σ g}, G.rel K H0 F H σ g → Same F F' → (∀ p, p ∈ G.own σ → F' p = H p) → G'.rel K H0 F' H σ (h g)
instance : Bor nl nl (fun g => g) := ⟨fun h _ _ => h⟩
section
variable {α γ δ : Type} [Rp α] (G : EnvT γ) (G' : EnvT δ) (h : γ → δ) [B : Bor G G' h]
instance : Bor (va α G) (va α G') (fun g => (g.1, h g.2)) := ⟨fun ⟨v, σ', e, r, q⟩ s m => by subst e; exact ⟨v, σ', rfl, Rp.mono s r, B.bor q s m⟩⟩
instance : Bor (un G) (un G') (fun g => h g) := ⟨fun ⟨v, σ', e, q⟩ s m => by subst e; exact ⟨v, σ', rfl, B.bor q s m⟩⟩
instance : Bor (ow α G) (va (List α) G') (fun g => (g.1, h g.2)) := ⟨fun {K H0 F H F' σ g} ⟨p, σ', xs, e, h0, f, hh, z, r, n, q⟩ s m => by
  subst e
  have hp : F' p = some (.lst xs) := by rw [m p (List.mem_append_left _ (by simp [adr])), hh]
  exact ⟨.ref p, σ', rfl, ⟨p, xs, rfl, SqL.of hp, z, r.mono s⟩, B.bor q s fun b hb => m b (List.mem_append_right _ hb)⟩⟩
end
section
variable {X : Cx} {c : C0} {γ δ α β : Type} {G : EnvT γ} {G' : EnvT δ} {h : γ → δ} [Rp α] [Rp β] {e : Expr}
open Classical in
theorem lend {K : PySem.W.Frag} {F H : Hp} {σ : St} {g : γ} [B : Bor G G' h] (w : Wd c.F0 c.H0 F H) (q : G.rel K c.H0 F H σ g) : ∃ F1, Wd c.F0 c.H0 F1 H ∧ G'.rel K c.H0 F1 H σ (h g) ∧
    (∀ F2 H2, Wd F1 H F2 H2 → ∃ F3, Wd F H F3 H2 ∧ (∀ p o, F2 p = some o → (∀ xs, o ≠ HO.lst xs) → F3 p = some o) ∧ ∀ p, F2 p = none → F3 p = none) ∧ Same F F1 := by
  have s1 : Same F fun a => if a ∈ G.own σ then H a else F a := fun b o e => by
    by_cases m : b ∈ G.own σ
    · obtain ⟨_, f, _⟩ := G.al q m
      rw [e] at f; cases f
    · simp only [if_neg m]; exact e
  refine ⟨fun a => if a ∈ G.own σ then H a else F a, ⟨w.f.trans s1, w.h, fun b o e => ?_, fun b hb e => ?_⟩, B.bor q s1 fun p m => by simp only [if_pos m], fun F2 H2 w2 => ⟨fun a => if a ∈ G.own σ then none else F2 a, ⟨fun b o e => ?_, w2.h, fun b o e => ?_, fun b hb e => ?_⟩, fun p o e hl => ?_, fun p e => ?_⟩, s1⟩
  · by_cases m : b ∈ G.own σ
    · simp only [if_pos m] at e; exact e
    · simp only [if_neg m] at e; exact w.s b o e
  · by_cases m : b ∈ G.own σ
    · exact (G.al q m).1
    · simp only [if_neg m] at hb; exact w.n b hb e
  · by_cases m : b ∈ G.own σ
    · obtain ⟨_, f, _⟩ := G.al q m
      rw [e] at f; cases f
    · simp only [if_neg m]; exact w2.f b o (s1 b o e)
  · by_cases m : b ∈ G.own σ
    · simp only [if_pos m] at e; cases e
    · simp only [if_neg m] at e; exact w2.s b o e
  · by_cases m : b ∈ G.own σ
    · simp only [if_pos m] at hb; exact absurd rfl hb
    · simp only [if_neg m] at hb
      exact w2.n b hb (by simp only [if_neg m]; exact e)
  · by_cases m : p ∈ G.own σ
    · obtain ⟨_, _, xs, hx⟩ := G.al q m
      have : F2 p = some (.lst xs) := w2.f p _ (by simp only [if_pos m]; exact hx)
      rw [this] at e
      exact absurd (Option.some.inj e).symm (hl xs)
    · simp only [if_neg m]; exact e
  · by_cases m : p ∈ G.own σ
    · simp only [if_pos m]
    · simp only [if_neg m]; exact e
theorem ErP.lend {K : PySem.W.Frag} {F H F1 : Hp} {E : XK} {cc : Str} {fs : List (Str × V)} (h : ErP K F H E cc fs) (k : ∀ F2 H2, Wd F1 H F2 H2 → ∃ F3, Wd F H F3 H2) : ErP K F1 H E cc fs := by
  cases fs with
  | nil => exact fun F' H' w => by obtain ⟨F3, w3⟩ := k F' H' w; exact h F3 H' w3
  | cons f fs => exact fun F' H' d w => by obtain ⟨F3, w3⟩ := k F' H' w; exact h F3 H' d w3
theorem fe_br [B : Bor G G' h] [RpT α] {f : δ → Xc α} (ha : FE X c G' e f) : FE X c G e (fun g => f (h g)) :=
  PE.imp ha fun σ H Q ⟨F, g, w, q, p⟩ => by
    obtain ⟨F1, w1, q1, k, _⟩ := lend (B := B) w q
    refine ⟨F1, h g, w1, q1, ?_⟩
    have p : Po X.K F H Q (WE c.W σ) (f (h g)) := p
    revert p
    cases f (h g) with
    | ok a =>
      intro p v F2 H2 w2 r2
      obtain ⟨F3, w3, d⟩ := k F2 H2 w2
      exact p v F3 H2 w3 (RpT.down d.1 r2)
    | er cc fs => exact fun p => ErP.lend p fun F2 H2 w2 => let ⟨F3, w3, _⟩ := k F2 H2 w2; ⟨F3, w3⟩
    | no => exact fun p => p
theorem ft_br [B : Bor G G' h] {f : δ → Xc Bool} (ha : FT X c G' e f) : FT X c G e (fun g => f (h g)) :=
  PT.imp ha fun σ H Q ⟨F, g, w, q, p⟩ => by
    obtain ⟨F1, w1, q1, k, _⟩ := lend (B := B) w q
    refine ⟨F1, h g, w1, q1, ?_⟩
    have p : PoB X.K F H Q (WE c.W σ) (f (h g)) := p
    revert p
    cases f (h g) with
    | ok a =>
      intro p F2 H2 w2
      obtain ⟨F3, w3, d⟩ := k F2 H2 w2
      exact p F3 H2 w3
    | er cc fs => exact fun p => ErP.lend p fun F2 H2 w2 => let ⟨F3, w3, _⟩ := k F2 H2 w2; ⟨F3, w3⟩
    | no => exact fun p => p
theorem fo_br [B : Bor G G' h] [RpT α] {f : δ → Xc (List α)} (ha : FO X c G' e f) : FO X c G e (fun g => f (h g)) :=
  PE.imp ha fun σ H Q ⟨F, g, w, q, p⟩ => by
    obtain ⟨F1, w1, q1, k, _⟩ := lend (B := B) w q
    refine ⟨F1, h g, w1, q1, ?_⟩
    have p : PoO X.K F H Q (WE c.W σ) (f (h g)) := p
    revert p
    cases f (h g) with
    | ok a =>
      intro p b xs F2 H2 w2 n f2 h2 z r2
      obtain ⟨F3, w3, d⟩ := k F2 H2 w2
      exact p b xs F3 H2 w3 n (d.2 b f2) h2 z (al_down d.1 r2)
    | er cc fs => exact fun p => ErP.lend p fun F2 H2 w2 => let ⟨F3, w3, _⟩ := k F2 H2 w2; ⟨F3, w3⟩
    | no => exact fun p => p
end
end FL

/-! FL10: what is walked; targets; for; comprehensions; returns of lists of one's own. -/
namespace FL
open PySem L2
/-- the walk J over the items of l, in the frozen heap F -/
structure Wk {α : Type} [Rp α] (K : PySem.W.Frag) (J : It) (F : Hp) (l : List α) : Prop where
  len : l.length ≤ sizeLine
  stop : ∀ F' H', Same F F' → Same F' H' → J.stop l.length H'
  go : ∀ i F' H', i < l.length → Same F F' → Same F' H' → J.go i H'
  yld : ∀ i a F' H' x H'', l[i]? = some a → Same F F' → Same F' H' → J.yld i H' x H'' → ∃ F'', Wd F' H' F'' H'' ∧ Rp.is K F'' x a
def PoI {α : Type} [Rp α] (K : PySem.W.Frag) (F H : Hp) (R : It → Hp → Prop) (E : XK) (m : Xc (List α)) : Prop := match m with
  | .ok l => ∀ J F' H', Wd F H F' H' → Wk K J F' l → R J H'
  | .er c fs => ErP K F H E c fs
  | .no => False
section
variable {X : Cx} {c : C0} {γ α β : Type} {G : EnvT γ} [Rp α] [Rp β] {e a b tg : Expr} {pos p : Pos}
def FI (X : Cx) (c : C0) (G : EnvT γ) (tg iter : Expr) (f : γ → Xc (List α)) : Prop := PI X tg iter fun σ H R => ∃ F g, Wd c.F0 c.H0 F H ∧ G.rel X.K c.H0 F H σ g ∧ PoI X.K F H R (WE c.W σ) (f g)
theorem PI.imp {iter : Expr} {t t' : TI} (h : PI X tg iter t) (i : ∀ σ H R, t' σ H R → t σ H R) : PI X tg iter t' := ⟨fun pins s σ H R I q => h.run pins s σ H R I (i σ H R q)⟩
theorem FI.cast {f f' : γ → Xc (List α)} (h : FI X c G tg e f) (i : ∀ g, f' g = f g) : FI X c G tg e f' := by rw [show f' = f from funext i]; exact h
theorem sqL_one {K : PySem.W.Frag} {H : Hp} {q : Addr} {xs ys : List V} {F : Hp} (s : Same F H) (h : SqL K F q xs) : SqL K H q xs := Same.seq s h
theorem fi_list {f : γ → Xc (List α)} (h : FE X c G e f) : FI X c G tg e f :=
  PI.imp (pi_list h) fun σ H R ⟨F, g, w, q, p⟩ => by
    refine ⟨F, g, w, q, ?_⟩
    cases e1 : f g with
    | ok l =>
      rintro v F1 H1 w1 ⟨b, xs, rfl, hx, hz, r⟩
      rw [e1] at p
      refine ⟨b, rfl, ⟨xs, Same.seq w1.s hx⟩, p (Itl X.K b) F1 H1 w1 ⟨hz, fun F' H' s1 s2 => ⟨xs, Same.seq (s1.trans s2) hx, Nat.le_of_eq r.len⟩, fun i F' H' hi s1 s2 => ?_, fun i a F' H' x H'' e2 s1 s2 y => ?_⟩⟩
      · obtain ⟨v, hv, _⟩ := r.get' (List.getElem?_eq_getElem hi)
        exact ⟨xs, v, Same.seq (s1.trans s2) hx, hv⟩
      · obtain ⟨rfl, y⟩ := y
        obtain ⟨v, hv, rv⟩ := r.get' e2
        have := y xs (Same.seq (s1.trans s2) hx)
        rw [hv] at this
        cases this
        exact ⟨F', Wd.refl s2, Rp.mono s1 rv⟩
    | er c' fs => rw [e1] at p; exact p
    | no => rw [e1] at p; exact p
theorem fi_tup {f : γ → Xc (Tu α)} (h : FE X c G e f) : FI X c G tg e (fun g => (f g).bind fun t => Xc.ok t.l) :=
  PI.imp (pi_tup h) fun σ H R ⟨F, g, w, q, p⟩ => by
    refine ⟨F, g, w, q, ?_⟩
    cases e1 : f g with
    | ok l =>
      rintro v F1 H1 w1 ⟨b, xs, rfl, hx, hz, r⟩
      simp only [e1] at p
      refine ⟨b, rfl, ⟨xs, Same.seqT w1.s hx⟩, p (Itt X.K b) F1 H1 w1 ⟨hz, fun F' H' s1 s2 => ⟨xs, Same.seqT (s1.trans s2) hx, Nat.le_of_eq r.len⟩, fun i F' H' hi s1 s2 => ?_, fun i a F' H' x H'' e2 s1 s2 y => ?_⟩⟩
      · obtain ⟨v, hv, _⟩ := r.get' (List.getElem?_eq_getElem hi)
        exact ⟨xs, v, Same.seqT (s1.trans s2) hx, hv⟩
      · obtain ⟨rfl, y⟩ := y
        obtain ⟨v, hv, rv⟩ := r.get' e2
        have := y xs (Same.seqT (s1.trans s2) hx)
        rw [hv] at this
        cases this
        exact ⟨F', Wd.refl s2, Rp.mono s1 rv⟩
    | er c' fs => simp only [e1] at p; exact p
    | no => simp only [e1] at p; exact p
/-- lo, lo + 1, .. below hi -/
@[irreducible] def rangeL (lo hi : Int) : List Int := (List.range (hi - lo).toNat).map fun i => lo + (i : Nat)
@[irreducible] def rngX (lo hi : Int) : Xc (List Int) := if -(2 ^ 62) ≤ lo ∧ lo < 2 ^ 62 ∧ -(2 ^ 62) ≤ hi ∧ hi < 2 ^ 62 ∧ (hi - lo).toNat ≤ sizeLine then .ok (rangeL lo hi) else .no
theorem rangeL_len (lo hi : Int) : (rangeL lo hi).length = (hi - lo).toNat := by simp [rangeL]
theorem rangeL_get {lo hi : Int} {i : Nat} {a : Int} (h : (rangeL lo hi)[i]? = some a) : a = lo + (i : Nat) ∧ i < (hi - lo).toNat := by
  have hi' : i < (rangeL lo hi).length := (List.getElem?_eq_some_iff.mp h).1
  rw [rangeL_len] at hi'
  unfold rangeL at h
  rw [List.getElem?_map, List.getElem?_range hi'] at h
  exact ⟨(Option.some.inj h).symm, hi'⟩
theorem wk_range {K : PySem.W.Frag} {F : Hp} {lo hi : Int} (hz : (hi - lo).toNat ≤ sizeLine) : Wk K (Itr lo (hi - lo).toNat) F (rangeL lo hi) :=
  ⟨by rw [rangeL_len]; exact hz, fun F' H' _ _ => by rw [rangeL_len]; exact Nat.le_refl _, fun i F' H' h _ _ => by rw [rangeL_len] at h; exact h, fun i a F' H' x H'' e s1 s2 y => by
    obtain ⟨rfl, rfl⟩ := y
    obtain ⟨rfl, _⟩ := rangeL_get e
    exact ⟨F', Wd.refl s2, rfl⟩⟩
theorem fi_range1 {f : γ → Xc Int} (h : FE X c G a f) (hm : X.mg "range" = none) (hg : Gl X "range" := by rfl) (hs : starEach [a] X.env = (false, eval a X.env) :: starEach [] X.env := by rfl) :
    FI X c G tg (.Call (.Name "range" p) [a] [] pos) (fun g => (f g).bind fun i => rngX 0 i) :=
  PI.imp (pi_range1 hg hm (pa_cons h pa_nil hs) (hs := hs)) fun σ H R ⟨F, g, w, q, p⟩ => by
    refine ⟨F, g, w, q, ?_⟩
    cases e1 : f g with
    | ok n =>
      intro v F1 H1 w1 r1
      have r1 : v = .int n := r1
      simp only [e1] at p
      have p : PoI X.K F H R (WE c.W σ) (rngX 0 n) := p
      unfold rngX at p
      by_cases hz : -(2 ^ 62) ≤ (0 : Int) ∧ (0 : Int) < 2 ^ 62 ∧ -(2 ^ 62) ≤ n ∧ n < 2 ^ 62 ∧ (n - 0).toNat ≤ sizeLine
      · rw [if_pos hz] at p
        refine ⟨n, by rw [r1], hz.2.2.1, hz.2.2.2.1, ?_⟩
        have k := p (Itr 0 (n - 0).toNat) F1 H1 w1 (wk_range hz.2.2.2.2)
        rw [Int.sub_zero] at k
        exact k
      · rw [if_neg hz] at p; exact p.elim
    | er c' fs => simp only [e1] at p; exact p
    | no => simp only [e1] at p; exact p
theorem fi_range2 {f1 f2 : γ → Xc Int} (h1 : FE X c G a f1) (h2 : FE X c G b f2) (hm : X.mg "range" = none) (hg : Gl X "range" := by rfl) (hs : starEach [a, b] X.env = (false, eval a X.env) :: starEach [b] X.env := by rfl)
    (hs2 : starEach [b] X.env = (false, eval b X.env) :: starEach [] X.env := by rfl) : FI X c G tg (.Call (.Name "range" p) [a, b] [] pos) (fun g => (f1 g).bind fun i => (f2 g).bind fun j => rngX i j) :=
  PI.imp (pi_range2 hg hm (pa_cons h1 (pa_cons h2 pa_nil hs2) hs) (hs := hs.trans (congrArg _ hs2)) (hs2 := hs2)) fun σ H R ⟨F, g, w, q, p⟩ => by
    refine ⟨F, g, w, q, ?_⟩
    cases e1 : f1 g with
    | ok i =>
      intro v F1 H1 w1 r1
      have r1 : v = .int i := r1
      simp only [e1] at p
      have p : PoI X.K F H R (WE c.W σ) ((f2 g).bind fun j => rngX i j) := p
      refine ⟨F1, g, w.trans w1, G.mono q w1, ?_⟩
      cases e2 : f2 g with
      | ok j =>
        intro u F2 H2 w2 r2
        have r2 : u = .int j := r2
        simp only [e2] at p
        have p : PoI X.K F H R (WE c.W σ) (rngX i j) := p
        unfold rngX at p
        by_cases hz : -(2 ^ 62) ≤ i ∧ i < 2 ^ 62 ∧ -(2 ^ 62) ≤ j ∧ j < 2 ^ 62 ∧ (j - i).toNat ≤ sizeLine
        · rw [if_pos hz] at p
          exact ⟨i, j, by rw [r1, r2], ⟨hz.1, hz.2.1, hz.2.2.1, hz.2.2.2.1⟩, p (Itr i (j - i).toNat) F2 H2 (w1.trans w2) (wk_range hz.2.2.2.2)⟩
        · rw [if_neg hz] at p; exact p.elim
      | er c' fs => simp only [e2] at p; exact ErP.on (show ErP X.K F H (WE c.W σ) c' fs from p) w1
      | no => simp only [e2] at p; exact p
    | er c' fs => simp only [e1] at p; exact p
    | no => simp only [e1] at p; exact p
/-- the signs of a text, one by one -/
@[irreducible] def signs (z : Str) : List Str := z.cps.toList.map fun k => (⟨#[k]⟩ : Str)
end
/-! ### targets -/
section
variable {X : Cx} {γ γ' α β : Type} {G : EnvT γ} {G' : EnvT γ'} [Rp α] [Rp β] {pos : Pos} {x y : Str}
/-- the target tg stores an item -/
def FG (X : Cx) (M : Nat → Bool) (G : EnvT γ) (tg : Expr) (G' : EnvT γ') (vs : List Nat) (ψ : γ → α → γ') : Prop := ∃ t, PG X tg t ∧ ∀ H0 F H σ g v a (Q : St → Hp → Prop), Same F H → G.rel X.K H0 F H σ g → Rp.is X.K F v a →
  (∀ σ', Ag M σ σ' → wipe σ' vs = wipe σ vs → G'.rel X.K H0 F H σ' (ψ g a) → Q σ' H) → t v σ H Q
theorem fg_name (i : Nat) {M : Nat → Bool} {p : Pos} {ψ : γ → α → γ'} [P : Put G i α G' ψ] (hM : M i = true) (hN : X.N.Nodup) (hi : X.N[i]? = some x := by rfl) (hx : Loc X.env.scope x := by first | exact Or.inl rfl | exact Or.inr rfl)
    (hf : X.fn x = true ∨ X.env.scope.names.lookup x = some .local := by first | exact .inl rfl | exact .inr rfl) : FG X M G (.Name x p) G' [i] ψ :=
  ⟨_, pg_name hN hi hx hf, fun H0 F H σ g v a Q s q r k => k _ (Ag.set hM) (by unfold wipe wipe; rw [List.set_set]) (P.put q r)⟩
theorem fg_pair (i j : Nat) {M : Nat → Bool} {p p1 p2 : Pos} {kk} {γ1 : Type} {G1 : EnvT γ1} {ψ1 : γ → α → γ1} {ψ2 : γ1 → β → γ'} [P1 : Put G i α G1 ψ1] [P2 : Put G1 j β G' ψ2] (hM : M i = true ∧ M j = true) (hc : X.calm = true) (hN : X.N.Nodup)
    (hi : X.N[i]? = some x := by rfl) (hx : Loc X.env.scope x := by first | exact Or.inl rfl | exact Or.inr rfl) (hj : X.N[j]? = some y := by rfl) (hy : Loc X.env.scope y := by first | exact Or.inl rfl | exact Or.inr rfl)
    (hf : X.fn x = true ∨ X.env.scope.names.lookup x = some .local := by first | exact .inl rfl | exact .inr rfl) (hf2 : X.fn y = true ∨ X.env.scope.names.lookup y = some .local := by first | exact .inl rfl | exact .inr rfl)
    (pt : PG X (.Tuple [.Name x p1, .Name y p2] kk p) (gTup X.K 2 (gCons (gName i) (gCons (gName j) gNil)))) : FG X M G (.Tuple [.Name x p1, .Name y p2] kk p) G' [i, j] (fun g (a : α × β) => ψ2 (ψ1 g a.1) a.2) :=
  ⟨_, pt, fun H0 F H σ g v a Q s q r k => by
    obtain ⟨b, u, z, rfl, h, r1, r2⟩ := r
    refine ⟨b, [u, z], rfl, Same.seqT s h, rfl, u, [z], rfl, z, [], rfl, rfl, ?_⟩
    refine k _ ((Ag.set hM.1).trans (Ag.set hM.2)) ?_ (P2.put (P1.put q r1) r2)
    show ((((σ.set i (some u)).set j (some z)).set j none).set i none) = (σ.set j none).set i none
    rw [List.set_set]
    by_cases e : i = j
    · subst e; rw [List.set_set, List.set_set, List.set_set]
    · rw [List.set_comm _ _ (fun z => e z.symm), List.set_comm _ _ e, List.set_comm (some u) none e, List.set_set, List.set_comm _ _ (fun z => e z.symm)]⟩
end
/-! ### for -/
def foldX {γ α : Type} (f : γ → α → Xc γ) : List α → γ → Xc γ
  | [], g => .ok g
  | a :: l, g => (f g a).bind (foldX f l)
def forX {γ α ρ : Type} (f : γ → α → Xc (Lp γ ρ)) : List α → γ → Xc (Sum γ ρ)
  | [], g => .ok (.inl g)
  | a :: l, g => (f g a).bind fun t => match t with
    | .ct g' => forX f l g'
    | .bk g' => .ok (.inl g')
    | .rt r => .ok (.inr r)
section
variable {X : Cx} {γ γb α β ρ τ : Type} {G : EnvT γ} {Gb : EnvT γb} [Rp α] {tg iter : Expr} {body : List Stmt} {pos : Pos} {vs : List Nat}
theorem fn_for {c : C1} {ψ : γ → α → γb} {fl : γ → Xc (List α)} {mb : γb → Xc γ} (po : PassesOwn (model X.prog X.w) X.A X.env X.xe) (hi : FI X c.toC0 G tg iter fl) (hg : FG X c.M G tg Gb vs ψ) (hb : FNs X c Gb body G mb)
    (hc : X.calm = true := by rfl) (hs : ∀ x, foldedSetIterable iter X.env x = pure x := by intro _; rfl) : FN X c G (.For tg iter body [] pos) G (fun g => (fl g).bind fun l => foldX (fun g a => mb (ψ g a)) l g) := by
  obtain ⟨t, pg, ht⟩ := hg
  refine PS.imp (ps_for po hc hi pg hb hs) fun D σ H ⟨F, g, w, q, p⟩ => ⟨F, g, w, q, ?_⟩
  cases e1 : fl g with
  | er c' fs => simp only [e1] at p; exact PoN.er p w
  | no => simp only [e1] at p; exact p
  | ok l =>
    intro J F1 H1 w1 wk
    simp only [e1] at p
    have p : PoN X.K c G D F H σ (foldX (fun g a => mb (ψ g a)) l g) := p
    refine ⟨fun i m σ' H' => m = l.length - i ∧ i ≤ l.length ∧ ∃ F' g', Ws c.toC0 F1 F' H' ∧ Ag c.M σ σ' ∧ G.rel X.K c.H0 F' H' σ' g' ∧ PoN X.K c G D F' H' σ' (foldX (fun g a => mb (ψ g a)) (l.drop i) g'),
      ⟨l.length, by simp, Nat.zero_le _, F1, g, Ws.refl (w.trans w1), Ag.refl, G.mono q w1, by simpa using p.on w1.f Ag.refl⟩, ?_⟩
    rintro i m σ' H' ⟨rfl, hi', F', g', ws, ag, q', p'⟩
    by_cases hlt : i < l.length
    · refine .inr ⟨wk.go i F' H' hlt ws.f ws.w.s, fun σ'' H'' => ∃ F' g', Ws c.toC0 F1 F' H'' ∧ Ag c.M σ σ'' ∧ G.rel X.K c.H0 F' H'' σ'' g' ∧ PoN X.K c G D F' H'' σ'' (foldX (fun g a => mb (ψ g a)) (l.drop (i + 1)) g'),
        fun σ'' H'' z => ⟨l.length - (i + 1), by omega, rfl, hlt, z⟩, fun x H'' y => ?_⟩
      obtain ⟨F2, w2, r2⟩ := wk.yld i l[i] F' H' x H'' (List.getElem?_eq_getElem hlt) ws.f ws.w.s y
      refine ht c.H0 F2 H'' σ' g' x l[i] _ w2.s (G.mono q' w2) r2 fun σ2 ag2 _ q2 => ?_
      refine ⟨F2, ψ g' l[i], ws.w.trans w2, q2, ?_⟩
      rw [List.drop_eq_getElem_cons hlt] at p'
      have p' : PoN X.K c G D F' H' σ' ((mb (ψ g' l[i])).bind (foldX (fun g a => mb (ψ g a)) (l.drop (i + 1)))) := p'
      revert p'
      cases mb (ψ g' l[i]) with
      | ok g3 =>
        intro p' σ3 F3 H3 w3 a3 q3
        exact ⟨F3, g3, ⟨(ws.f.trans w2.f).trans w3.f, w3.w⟩, (ag.trans ag2).trans a3, q3, PoN.on (show PoN X.K c G D F' H' σ' (foldX (fun g a => mb (ψ g a)) (l.drop (i + 1)) g3) from p') (w2.f.trans w3.f) (ag2.trans a3)⟩
      | er cc fs => exact fun p' σ3 F3 H3 w3 a3 => p' σ3 F3 H3 ⟨w2.f.trans w3.f, w3.w⟩ (ag2.trans a3)
      | no => exact fun p' => p'
    · have e : i = l.length := by omega
      subst e
      refine .inl ⟨wk.stop F' H' ws.f ws.w.s, ?_⟩
      rw [List.drop_length] at p'
      exact p' σ' F' H' (Ws.refl ws.w) Ag.refl q'
/-- the context of a loop's turn that may leave the loop -/
def cL (c : C2 τ ρ β) (G : EnvT γ) : C2 (Lp γ ρ) ρ γ := { toC1 := c.toC1, O := outL γ ρ, R := c.R, GB := G }
theorem fs_for {c : C2 τ ρ β} {rt : ρ → τ} {ψ : γ → α → γb} {fl : γ → Xc (List α)} {fb : γb → (γ → Xc (Lp γ ρ)) → Xc (Lp γ ρ)} (po : PassesOwn (model X.prog X.w) X.A X.env X.xe) (hi : FI X c.toC0 G tg iter fl) (hg : FG X c.M G tg Gb vs ψ) (hb : FSs X (cL c G) Gb body G fb)
    (hO : ∀ r P B C, P r → c.O.sem (rt r) P B C) (hR' : ∀ r P B C, c.O.sem (rt r) P B C → P r) (hc : X.calm = true := by rfl) (hs : ∀ x, foldedSetIterable iter X.env x = pure x := by intro _; rfl) :
    FS X c G (.For tg iter body [] pos) G (fun g k => (fl g).bind fun l => (forX (fun g a => fb (ψ g a) fun g' => Xc.ok (Lp.ct g')) l g).bind fun t => match t with
      | .inl g' => k g'
      | .inr r => Xc.ok (rt r)) := by
  obtain ⟨t, pg, ht⟩ := hg
  refine PS.imp (ps_for po hc hi pg hb hs) fun D σ H ⟨F, g, k, w, q, d, n⟩ => ⟨F, g, w, q, ?_⟩
  cases e1 : fl g with
  | er c' fs => simp only [e1] at d; exact Done.er d w
  | no => simp only [e1] at d; exact d
  | ok l =>
    intro J F1 H1 w1 wk
    simp only [e1] at d
    let fin : Sum γ ρ → Xc τ := fun t => match t with
      | .inl g' => k g'
      | .inr r => Xc.ok (rt r)
    have d : Done X.K c D F σ ((forX (fun g a => fb (ψ g a) fun g' => Xc.ok (Lp.ct g')) l g).bind fin) := d
    refine ⟨fun i m σ' H' => m = l.length - i ∧ i ≤ l.length ∧ ∃ F' g', Ws c.toC0 F1 F' H' ∧ Ag c.M σ σ' ∧ G.rel X.K c.H0 F' H' σ' g' ∧ Done X.K c D F' σ' ((forX (fun g a => fb (ψ g a) fun g' => Xc.ok (Lp.ct g')) (l.drop i) g').bind fin),
      ⟨l.length, by simp, Nat.zero_le _, F1, g, Ws.refl (w.trans w1), Ag.refl, G.mono q w1, by simpa using d.on w1.f Ag.refl⟩, ?_⟩
    rintro i m σ' H' ⟨rfl, hi', F', g', ws, ag, q', d'⟩
    by_cases hlt : i < l.length
    · refine .inr ⟨wk.go i F' H' hlt ws.f ws.w.s, fun σ'' H'' => ∃ F' g', Ws c.toC0 F1 F' H'' ∧ Ag c.M σ σ'' ∧ G.rel X.K c.H0 F' H'' σ'' g' ∧ Done X.K c D F' σ'' ((forX (fun g a => fb (ψ g a) fun g' => Xc.ok (Lp.ct g')) (l.drop (i + 1)) g').bind fin),
        fun σ'' H'' z => ⟨l.length - (i + 1), by omega, rfl, hlt, z⟩, fun x H'' y => ?_⟩
      obtain ⟨F2, w2, r2⟩ := wk.yld i l[i] F' H' x H'' (List.getElem?_eq_getElem hlt) ws.f ws.w.s y
      refine ht c.H0 F2 H'' σ' g' x l[i] _ w2.s (G.mono q' w2) r2 fun σ2 ag2 _ q2 => ?_
      rw [List.drop_eq_getElem_cons hlt] at d'
      have d' : Done X.K c D F' σ' (((fb (ψ g' l[i]) fun g' => Xc.ok (Lp.ct g')).bind fun t => match t with
        | .ct g' => forX (fun g a => fb (ψ g a) fun g' => Xc.ok (Lp.ct g')) (l.drop (i + 1)) g'
        | .bk g' => .ok (.inl g')
        | .rt r => .ok (.inr r)).bind fin) := d'
      refine ⟨F2, ψ g' l[i], fun g' => Xc.ok (Lp.ct g'), ws.w.trans w2, q2, ?_, fun g3 σ3 F3 H3 w3 a3 q3 d3 => ?_⟩
      · revert d'
        cases fb (ψ g' l[i]) fun g' => Xc.ok (Lp.ct g') with
        | ok t =>
          intro d'
          cases t with
          | ct b =>
            have d' : Done X.K c D F' σ' ((forX (fun g a => fb (ψ g a) fun g' => Xc.ok (Lp.ct g')) (l.drop (i + 1)) b).bind fin) := d'
            intro σ3 F3 H3 w3 a3 q3
            exact ⟨F3, b, ⟨(ws.f.trans w2.f).trans w3.f, w3.w⟩, (ag.trans ag2).trans a3, q3, d'.on (w2.f.trans w3.f) (ag2.trans a3)⟩
          | bk b =>
            have d' : Done X.K c D F' σ' (k b) := d'
            intro σ3 F3 H3 w3 a3 q3
            exact n b σ3 F3 H3 ⟨((w1.f.trans ws.f).trans w2.f).trans w3.f, w3.w⟩ ((ag.trans ag2).trans a3) q3 (d'.on (w2.f.trans w3.f) (ag2.trans a3))
          | rt r =>
            have d' : Done X.K c D F' σ' (Xc.ok (rt r)) := d'
            intro v F3 H3 w3 r3
            exact hR' r _ _ _ d' v F3 H3 ⟨w2.f.trans w3.f, w3.w⟩ r3
        | er cc fs => exact fun d' σ3 F3 H3 w3 a3 => d' σ3 F3 H3 ⟨w2.f.trans w3.f, w3.w⟩ (ag2.trans a3)
        | no => exact fun d' => d'
      · exact d3 σ3 F3 H3 (Ws.refl w3.w) Ag.refl q3
    · have e : i = l.length := by omega
      subst e
      refine .inl ⟨wk.stop F' H' ws.f ws.w.s, ?_⟩
      rw [List.drop_length] at d'
      exact n g' σ' F' H' ⟨w1.f.trans ws.f, ws.w⟩ ag q' d'
theorem fs_break {c : C2 (Lp β ρ) ρ β} {γ' : Type} {G : EnvT γ} {G' : EnvT γ'} {h : γ → β} [S : Sub G c.GB h] (hO : c.O = outL β ρ := by rfl) : FS X c G (.Break pos) G' (fun g _ => Xc.ok (Lp.bk (h g))) :=
  PS.imp ps_break fun D σ H ⟨F, g, k, w, q, d, n⟩ => by
    unfold Done at d
    rw [hO] at d
    exact d σ F H (Ws.refl w) Ag.refl (S.sub q)
theorem fs_cont {c : C2 (Lp β ρ) ρ β} {γ' : Type} {G : EnvT γ} {G' : EnvT γ'} {h : γ → β} [S : Sub G c.GB h] (hO : c.O = outL β ρ := by rfl) : FS X c G (.Continue pos) G' (fun g _ => Xc.ok (Lp.ct (h g))) :=
  PS.imp ps_continue fun D σ H ⟨F, g, k, w, q, d, n⟩ => by
    unfold Done at d
    rw [hO] at d
    exact d σ F H (Ws.refl w) Ag.refl (S.sub q)
end
end FL

/-! FL11: comprehensions. -/
namespace FL
open PySem L2
/-! ### slots forgotten -/
class Wi1 {γ : Type} (G : EnvT γ) (i : Nat) {δ : outParam Type} (G' : outParam (EnvT δ)) (h : outParam (γ → δ)) : Prop where
  wi : ∀ {K H0 F H σ g} (x : Option V), G.rel K H0 F H σ g → G'.rel K H0 F H (σ.set i x) (h g)
  own : ∀ {K H0 F H σ g p} (x : Option V), G.rel K H0 F H σ g → p ∈ G'.own (σ.set i x) → p ∈ G.own σ
section
variable {α β γ δ : Type} [Rp α] [Rp β] (G : EnvT γ) (G' : EnvT δ) (h : γ → δ) (i : Nat)
instance : Wi1 nl i nl (fun g => g) := ⟨fun _ _ => trivial, fun _ _ m => by cases m⟩
instance : Wi1 (va α G) 0 (un G) (fun g => g.2) := ⟨fun x ⟨v, σ', e, _, q⟩ => ⟨x, σ', by subst e; rfl, q⟩, fun x ⟨v, σ', e, _, q⟩ m => by subst e; exact m⟩
instance : Wi1 (un G) 0 (un G) (fun g => g) := ⟨fun x ⟨v, σ', e, q⟩ => ⟨x, σ', by subst e; rfl, q⟩, fun x ⟨v, σ', e, q⟩ m => by subst e; exact m⟩
instance : Wi1 (ow α G) 0 (un G) (fun g => g.2) := ⟨fun x ⟨p, σ', xs, e, _, _, _, _, _, _, q⟩ => ⟨x, σ', by subst e; rfl, q⟩, fun x ⟨p, σ', xs, e, _, _, _, _, _, _, q⟩ m => by subst e; exact List.mem_append_right _ m⟩
instance [W : Wi1 G i G' h] : Wi1 (va α G) (i + 1) (va α G') (fun g => (g.1, h g.2)) := ⟨fun x ⟨v, σ', e, r, q⟩ => ⟨v, σ'.set i x, by subst e; rfl, r, W.wi x q⟩, fun x ⟨v, σ', e, r, q⟩ m => by subst e; exact W.own x q m⟩
instance [W : Wi1 G i G' h] : Wi1 (un G) (i + 1) (un G') (fun g => h g) := ⟨fun x ⟨v, σ', e, q⟩ => ⟨v, σ'.set i x, by subst e; rfl, W.wi x q⟩, fun x ⟨v, σ', e, q⟩ m => by subst e; exact W.own x q m⟩
instance [W : Wi1 G i G' h] : Wi1 (ow α G) (i + 1) (ow α G') (fun g => (g.1, h g.2)) := ⟨fun x ⟨p, σ', xs, e, h0, f, hh, z, r, n, q⟩ => ⟨p, σ'.set i x, xs, by subst e; rfl, h0, f, hh, z, r, fun m => n (W.own x q m), W.wi x q⟩, fun x ⟨p, σ', xs, e, _, _, _, _, _, _, q⟩ m => by
  subst e
  rcases List.mem_append.mp m with m | m
  · exact List.mem_append_left _ m
  · exact List.mem_append_right _ (W.own x q m)⟩
end
class Wip {γ : Type} (G : EnvT γ) (vs : List Nat) {δ : outParam Type} (G' : outParam (EnvT δ)) (h : outParam (γ → δ)) : Prop where
  wi : ∀ {K H0 F H σ g}, G.rel K H0 F H σ g → G'.rel K H0 F H (wipe σ vs) (h g)
instance {γ : Type} (G : EnvT γ) : Wip G [] G (fun g => g) := ⟨fun h => h⟩
instance {γ δ ε : Type} (G : EnvT γ) (G1 : EnvT δ) (G2 : EnvT ε) (i : Nat) (vs : List Nat) (h1 : γ → δ) (h2 : δ → ε) [W : Wip G vs G1 h1] [W1 : Wi1 G1 i G2 h2] : Wip G (i :: vs) G2 (fun g => h2 (h1 g)) := ⟨fun q => W1.wi none (W.wi q)⟩
theorem wipe_set {σ : St} {i : Nat} : ∀ {vs : List Nat}, wipe (σ.set i none) vs = (wipe σ vs).set i none
  | [] => rfl
  | v :: vs => by
    show (wipe (σ.set i none) vs).set v none = ((wipe σ vs).set v none).set i none
    rw [wipe_set]
    by_cases e : i = v
    · subst e; rfl
    · rw [List.set_comm _ _ e]
theorem wipe_wipe {σ : St} : ∀ {vs : List Nat}, wipe (wipe σ vs) vs = wipe σ vs
  | [] => rfl
  | v :: vs => by
    show (wipe ((wipe σ vs).set v none) vs).set v none = (wipe σ vs).set v none
    rw [wipe_set, wipe_wipe, List.set_set]
/-- exceptions do not leave a comprehension -/
def nx {α : Type} (m : Xc α) : Xc α := match m with
  | .ok a => .ok a
  | _ => .no
/-- [f a for a in l if t a] -/
def compX {α β : Type} (t : α → Xc Bool) (f : α → Xc β) : List α → Xc (List β)
  | [] => .ok []
  | a :: l => (nx (t a)).bind fun b => if b = true then (nx (f a)).bind fun y => (compX t f l).bind fun ys => .ok (y :: ys) else compX t f l
/-- the world of a block's code: no exception leaves it -/
abbrev cB (c : C0) : C0 := { c with W := fun _ _ _ _ => False }
section
variable {X : Cx} {γ γb γw α β : Type} {G : EnvT γ} {Gw : EnvT γw} {Gb : EnvT γb} [Rp α] [Rp β] {tg iter elt : Expr} {ifs : List Expr} {pos : Pos} {vs : List Nat} {scope : Scope} {own : List (Str × Nat)} {c : C0}
/-- the target of a block -/
def FGB (X : Cx) (scope : Scope) (G : EnvT γ) (tg : Expr) (G' : EnvT γb) (vs : List Nat) (ψ : γ → α → γb) : Prop := ∃ t, (∀ (s : Shared) (H : Hp) (C : Addr) (cl : List (Str × Addr)) (fp : List Addr), PG (X.blk s H scope (compEnvC scope cl C X.env) fp) tg t) ∧
  ∀ H0 F H σ g v a (Q : St → Hp → Prop), Same F H → G.rel X.K H0 F H σ g → Rp.is X.K F v a → (∀ σ', wipe σ' vs = wipe σ vs → G'.rel X.K H0 F H σ' (ψ g a) → Q σ' H) → t v σ H Q
theorem tO_lc {ψ : γw → α → γb} {h : γ → γw} {fl : γ → Xc (List α)} {ft : γb → Xc Bool} {f : γb → Xc β} {g : TG} [W : Wip G vs Gw h]
    (hg : ∀ H0 F H σ g' v a (Q : St → Hp → Prop), Same F H → Gw.rel X.K H0 F H σ g' → Rp.is X.K F v a → (∀ σ', wipe σ' vs = wipe σ vs → Gb.rel X.K H0 F H σ' (ψ g' a) → Q σ' H) → g v σ H Q) {σ : St} {H : Hp} {Q : VK}
    (p : tO X.K c G (fun g => (fl g).bind fun l => compX (fun a => ft (ψ (h g) a)) (fun a => f (ψ (h g) a)) l) σ H Q) :
    tLc (fun σ H R => ∃ F g, Wd c.F0 c.H0 F H ∧ G.rel X.K c.H0 F H σ g ∧ PoI X.K F H R (WE c.W σ) (fl g)) g (tT X.K (cB c) Gb ft) (tF X.K (cB c) Gb f) vs σ H Q := by
  obtain ⟨F, gg, w, q, p⟩ := p
  refine ⟨F, gg, w, q, ?_⟩
  cases e1 : fl gg with
  | er c' fs => simp only [e1] at p; exact p
  | no => simp only [e1] at p; exact p
  | ok l =>
    simp only [e1] at p
    have p : PoO X.K F H Q (WE c.W σ) (compX (fun a => ft (ψ (h gg) a)) (fun a => f (ψ (h gg) a)) l) := p
    intro J F1 H1 w1 wk D hD
    refine ⟨fun i m H' => m = l.length - i ∧ i ≤ l.length ∧ ∃ F' acc ys, Wd F1 H1 F' H' ∧ F' D = none ∧ H' D = some (.lst acc) ∧ ys.length ≤ i ∧ Al X.K F' acc ys ∧
      (PoO X.K F H Q (WE c.W σ) ((compX (fun a => ft (ψ (h gg) a)) (fun a => f (ψ (h gg) a)) (l.drop i)).bind fun zs => .ok (ys ++ zs))), ⟨l.length, by simp, Nat.zero_le _, F1, [], [], Wd.newO w1.s hD, w1.s.free hD, upd_same, Nat.le_refl _, .nil, ?_⟩, ?_⟩
    · simpa [bind_pure] using p
    rintro i m H' ⟨rfl, hi', F', acc, ys, w2, fD, hD', hy, al, p'⟩
    have HD : H D = none := by
      cases z : H D with
      | none => rfl
      | some o => rw [w1.h _ _ z] at hD; cases hD
    by_cases hlt : i < l.length
    · refine .inr ⟨wk.go i F' H' hlt w2.f w2.s, fun H'' => ∃ F' acc ys, Wd F1 H1 F' H'' ∧ F' D = none ∧ H'' D = some (.lst acc) ∧ ys.length ≤ i + 1 ∧ Al X.K F' acc ys ∧
        (PoO X.K F H Q (WE c.W σ) ((compX (fun a => ft (ψ (h gg) a)) (fun a => f (ψ (h gg) a)) (l.drop (i + 1))).bind fun zs => .ok (ys ++ zs))), fun H'' z => ⟨l.length - (i + 1), by omega, rfl, hlt, z⟩, fun x H'' y => ?_⟩
      obtain ⟨F2, w3, r2⟩ := wk.yld i l[i] F' H' x H'' (List.getElem?_eq_getElem hlt) w2.f w2.s y
      have fD2 : F2 D = none := w3.own fD hD'
      have hD2 : H'' D = some (.lst acc) := w3.h _ _ hD'
      refine hg c.H0 F2 H'' (wipe σ vs) (h gg) x l[i] _ w3.s (W.wi (G.mono q ((w1.trans w2).trans w3))) r2 fun σ2 hw q2 => ⟨by rw [hw, wipe_wipe], ?_⟩
      rw [List.drop_eq_getElem_cons hlt] at p'
      have wt := ((w.trans w1).trans w2).trans w3
      refine ⟨F2, ψ (h gg) l[i], wt, q2, ?_⟩
      cases e2 : ft (ψ (h gg) l[i]) with
      | er c' fs => simp only [compX, e2] at p'; exact p'.elim
      | no => simp only [compX, e2] at p'; exact p'.elim
      | ok b =>
        simp only [compX, e2, nx, bind_ok] at p'
        intro F3 H3 w4
        have fD3 : F3 D = none := w4.own fD2 hD2
        have hD3 : H3 D = some (.lst acc) := w4.h _ _ hD2
        cases b with
        | false =>
          simp only [Bool.false_eq_true, if_false] at p' ⊢
          exact ⟨F3, acc, ys, (w2.trans w3).trans w4, fD3, hD3, by omega, (al.mono w3.f).mono w4.f, p'⟩
        | true =>
          simp only [if_true] at p' ⊢
          refine ⟨F3, ψ (h gg) l[i], wt.trans w4, Gb.mono q2 w4, ?_⟩
          cases e3 : f (ψ (h gg) l[i]) with
          | er c' fs => simp only [e3] at p'; exact p'.elim
          | no => simp only [e3] at p'; exact p'.elim
          | ok z =>
            simp only [e3] at p'
            intro v F4 H4 w5 r5
            have fD4 : F4 D = none := w5.own fD3 hD3
            have hD4 : H4 D = some (.lst acc) := w5.h _ _ hD3
            have wl := wk.len
            refine ⟨acc, hD4, by rw [al.len]; omega, F4, acc ++ [v], ys ++ [z], ((((w2.trans w3).trans w4).trans w5).mutd hD fD4), fD4, upd_same, by simp; omega, (((al.mono w3.f).mono w4.f).mono w5.f).snoc r5, ?_⟩
            revert p'
            generalize compX (fun a => ft (ψ (h gg) a)) (fun a => f (ψ (h gg) a)) (l.drop (i + 1)) = cm
            intro p'
            cases cm with
            | ok zs => simpa [bind_ok] using p'
            | er _ _ => exact p'
            | no => exact p'
    · have e : i = l.length := by omega
      subst e
      refine .inl ⟨wk.stop F' H' w2.f w2.s, ?_⟩
      rw [List.drop_length] at p'
      have p' : PoO X.K F H Q (WE c.W σ) (.ok (ys ++ [])) := p'
      rw [List.append_nil] at p'
      exact p' D acc F' H' (w1.trans w2) HD fD hD' (Nat.le_trans hy wk.len) al
/-- a clause's tests -/
def FTs (X : Cx) (scope : Scope) (c : C0) (G : EnvT γ) (ifs : List Expr) (f : γ → Xc Bool) : Prop := ∀ (s : Shared) (H : Hp) (C : Addr) (cl : List (Str × Addr)) (fp : List Addr), PTs (X.blk s H scope (compEnvC scope cl C X.env) fp) ifs (tT X.K c G f)
theorem fts_nil : FTs X scope c G [] (fun _ => Xc.ok true) := fun s H C cl fp => ⟨fun pins s σ H Q I ⟨F, g, w, q, h⟩ => pts_nil.run pins s σ H Q I (h F H (Wd.refl w.s))⟩
theorem fts_one {e : Expr} {f : γ → Xc Bool} (h : ∀ (s : Shared) (H : Hp) (C : Addr) (cl : List (Str × Addr)) (fp : List Addr), FT (X.blk s H scope (compEnvC scope cl C X.env) fp) c G e f) : FTs X scope c G [e] f := fun s H C cl fp => pts_one (h s H C cl fp)
theorem fo_lc {ψ : γw → α → γb} {h : γ → γw} {fl : γ → Xc (List α)} {ft : γb → Xc Bool} {f : γb → Xc β} [W : Wip G vs Gw h] (hvs : own.map (·.2) = vs) (ok : BlkOk X.N X.env.scope scope own) (hN : X.N.Nodup) (hi : FI X c G tg iter fl) (hg : FGB X scope Gw tg Gb vs ψ)
    (ht : FTs X scope (cB c) Gb ifs ft) (he : ∀ (s : Shared) (H : Hp) (C : Addr) (cl : List (Str × Addr)) (fp : List Addr), FE (X.blk s H scope (compEnvC scope cl C X.env) fp) (cB c) Gb elt f) (hc : X.calm = true := by rfl) (hs : ∀ x, foldedSetIterable iter X.env x = pure x := by intro _; rfl) :
    FO X c G (.ListComp elt [⟨tg, iter, ifs, 0⟩] scope pos) (fun g => (fl g).bind fun l => compX (fun a => ft (ψ (h g) a)) (fun a => f (ψ (h g) a)) l) := by
  subst hvs
  obtain ⟨t, pg, ht'⟩ := hg
  exact PE.imp (pe_lc (te := tF X.K (cB c) Gb f) hc hN hi ok pg ht he hs) fun σ H Q p => tO_lc (W := W) ht' p
theorem fn_setLc {c : C1} {γ' : Type} {G' : EnvT γ'} (k : Nat) {y : Str} {py spos : Pos} {ψ' : γ → List β → γ'} [P : PutO G k β G' ψ'] {ψ : γw → α → γb} {h : γ → γw} {fl : γ → Xc (List α)} {ft : γb → Xc Bool} {f : γb → Xc β} [W : Wip G vs Gw h] (hvs : own.map (·.2) = vs) (hM : c.M k = true) (ok : BlkOk X.N X.env.scope scope own) (hN : X.N.Nodup) (hi : FI X c.toC0 G tg iter fl) (hg : FGB X scope Gw tg Gb vs ψ)
    (ht : FTs X scope (cB c.toC0) Gb ifs ft) (he : ∀ (s : Shared) (H : Hp) (C : Addr) (cl : List (Str × Addr)) (fp : List Addr), FE (X.blk s H scope (compEnvC scope cl C X.env) fp) (cB c.toC0) Gb elt f) (hy : X.N[k]? = some y := by rfl) (hyl : X.env.scope.names.lookup y = some .local := by rfl)
    (hsw : swapsWith (.ListComp elt [⟨tg, iter, ifs, 0⟩] scope pos) (some (.Name y py)) spos.line X.env = pure true := by exact sw_true rfl rfl rfl rfl) (hc : X.calm = true := by rfl) (hs : ∀ x, foldedSetIterable iter X.env x = pure x := by intro _; rfl) :
    FN X c G (.Assign [.Name y py] (.ListComp elt [⟨tg, iter, ifs, 0⟩] scope pos) spos) G' (fun g => ((fl g).bind fun l => compX (fun a => ft (ψ (h g) a)) (fun a => f (ψ (h g) a)) l).bind fun v => Xc.ok (ψ' g v)) := by
  subst hvs
  obtain ⟨t, pg, ht'⟩ := hg
  exact fn_setOL k hM (fun σ H Q p => tO_lc (W := W) ht' p) (ps_setLc (te := tF X.K (cB c.toC0) Gb f) hc hN hy hyl hsw hi ok pg ht he hs)
theorem fgb_name (i : Nat) {x : Str} {p : Pos} {ψ : γ → α → γb} [P : Put G i α Gb ψ] (hN : X.N.Nodup) (hi : X.N[i]? = some x := by rfl) (hx : Loc scope x := by first | exact Or.inl rfl | exact Or.inr rfl)
    (hxe : ∀ C cl, Loc (compEnvC scope cl C X.env).scope x := by intro _ _; first | exact Or.inl rfl | exact Or.inr rfl)
    (hf : ∀ C cl, (scope.names.lookup x == some .cell) = true ∨ (compEnvC scope cl C X.env).scope.names.lookup x = some .local := by intro _ _; first | exact .inl rfl | exact .inr rfl) : FGB X scope G (.Name x p) Gb [i] ψ :=
  ⟨gName i, fun s H C cl fp => pg_name hN hi (hxe C cl) (hf C cl), fun H0 F H σ g v a Q s q r k => k _ (by unfold wipe wipe; rw [List.set_set]) (P.put q r)⟩
end
end FL

/-! FL12: more of expressions and statements. -/
namespace FL
open PySem L2
/-! ### conversions -/
section
variable {X : Cx} {c : C0} {γ α β ρ : Type} {G : EnvT γ} [Rp α] [Rp β] [Rp ρ] {a b d e : Expr} {pos p : Pos}
theorem fe_to {φ : α → β} {fa : γ → Xc α} (hφ : ∀ {K F v a}, Rp.is K F v a → Rp.is K F v (φ a)) (ha : FE X c G e fa) : FE X c G e (fun g => (fa g).bind fun a => Xc.ok (φ a)) :=
  PE.imp ha fun σ H Q ⟨F, g, w, q, h⟩ => by
    refine ⟨F, g, w, q, ?_⟩
    cases e1 : fa g with
    | ok i => simp only [e1] at h; exact fun v F1 H1 w1 r1 => h v F1 H1 w1 (hφ r1)
    | er c' fs => simp only [e1] at h; exact h
    | no => simp only [e1] at h; exact h
theorem fe_from {φ : α → Xc β} {fa : γ → Xc α} (hφ : ∀ {K F v a b}, φ a = .ok b → Rp.is K F v a → Rp.is K F v b) (hn : ∀ a c fs, φ a ≠ .er c fs) (ha : FE X c G e fa) : FE X c G e (fun g => (fa g).bind φ) :=
  PE.imp ha fun σ H Q ⟨F, g, w, q, h⟩ => by
    refine ⟨F, g, w, q, ?_⟩
    cases e1 : fa g with
    | ok i =>
      simp only [e1] at h
      cases e2 : φ i with
      | ok b => intro v F1 H1 w1 r1; simp only [bind_ok, e2] at h; exact h v F1 H1 w1 (hφ e2 r1)
      | er c' fs => exact absurd e2 (hn _ _ _)
      | no => simp only [bind_ok, e2] at h; exact h.elim
    | er c' fs => simp only [e1] at h; exact h
    | no => simp only [e1] at h; exact h
end
class ToD (α : Type) [Rp α] where
  d : α → PyData
  is : ∀ {K F v} {a : α}, Rp.is K F v a → Dp K F v (d a)
instance : ToD Int := ⟨.int, fun h => by have h : _ = V.int _ := h; subst h; exact .int _⟩
instance : ToD Bool := ⟨.bool, fun h => by have h : _ = V.bl _ := h; subst h; exact .bl _⟩
instance : ToD Str := ⟨.str, fun h => by have h : _ = V.str _ := h.1; subst h; exact .str _⟩
instance : ToD Unit := ⟨fun _ => .none, fun h => by have h : _ = V.non := h; subst h; exact .non⟩
instance : ToD PyData := ⟨id, fun h => h.1⟩
theorem al_dp {α : Type} [Rp α] [ToD α] {K : PySem.W.Frag} {F : Hp} {vs : List V} {as : List α} (h : Al K F vs as) : DpAll K F vs (as.map ToD.d) := by
  induction h with
  | nil => exact .nil
  | cons h _ ih => exact .cons (ToD.is h) ih
instance {α : Type} [Rp α] [ToD α] : ToD (Option α) := ⟨fun a => match a with
  | none => .none
  | some a => ToD.d a, fun {K F v a} h => by
    cases a with
    | none => have h : _ = V.non := h; subst h; exact .non
    | some a => exact ToD.is h.2⟩
instance {α : Type} [Rp α] [ToD α] : ToD (List α) := ⟨fun l => .list (l.map ToD.d), fun ⟨p, xs, e, h, z, r⟩ => by subst e; exact .lst h (al_dp r)⟩
instance {α : Type} [Rp α] [ToD α] : ToD (Tu α) := ⟨fun l => .tuple (l.l.map ToD.d), fun ⟨p, xs, e, h, z, r⟩ => by subst e; exact .tup h (al_dp r)⟩
instance {α β : Type} [Rp α] [Rp β] [ToD α] [ToD β] : ToD (α × β) := ⟨fun t => .tuple [ToD.d t.1, ToD.d t.2], fun ⟨p, x, y, e, h, r1, r2⟩ => by subst e; exact .tup h (.cons (ToD.is r1) (.cons (ToD.is r2) .nil))⟩
instance {α β γ : Type} [Rp α] [Rp β] [Rp γ] [ToD α] [ToD β] [ToD γ] : ToD (T3 α β γ) := ⟨fun t => .tuple [ToD.d t.a, ToD.d t.b, ToD.d t.c], fun ⟨p, x, y, z, e, h, r1, r2, r3⟩ => by subst e; exact .tup h (.cons (ToD.is r1) (.cons (ToD.is r2) (.cons (ToD.is r3) .nil)))⟩
instance {α β γ δ : Type} [Rp α] [Rp β] [Rp γ] [Rp δ] [ToD α] [ToD β] [ToD γ] [ToD δ] : ToD (T4 α β γ δ) := ⟨fun t => .tuple [ToD.d t.a, ToD.d t.b, ToD.d t.c, ToD.d t.d], fun ⟨p, x, y, z, u, e, h, r1, r2, r3, r4⟩ => by subst e; exact .tup h (.cons (ToD.is r1) (.cons (ToD.is r2) (.cons (ToD.is r3) (.cons (ToD.is r4) .nil))))⟩
/-- as data -/
@[irreducible] def datX {α : Type} [Rp α] [ToD α] (a : α) : Xc PyData := if SeqAt.shaped (ToD.d a) = true then .ok (ToD.d a) else .no
/-- data as an int, as a tuple -/
@[irreducible] def asI (d : PyData) : Xc Int := match d with
  | .int i => .ok i
  | _ => .no
@[irreducible] def asT (d : PyData) : Xc (Tu PyData) := match d with
  | .tuple l => if l.length ≤ sizeLine ∧ l.all SeqAt.shaped = true then .ok (tu l) else .no
  | _ => .no
theorem dp_al {K : PySem.W.Frag} {F : Hp} : ∀ {ds : List PyData} {vs : List V}, DpAll K F vs ds → ds.all SeqAt.shaped = true → Al K F vs ds
  | [], vs, h, _ => by cases h; exact .nil
  | d :: ds, vs, h, s => by
    cases h with
    | cons h1 h2 =>
      simp only [List.all_cons, Bool.and_eq_true] at s
      exact .cons ⟨h1, s.1⟩ (dp_al h2 s.2)
section
variable {X : Cx} {c : C0} {γ α β ρ : Type} {G : EnvT γ} [Rp α] [Rp β] [Rp ρ] {a b d e : Expr} {pos p p2 : Pos}
theorem fe_dat [ToD α] {fa : γ → Xc α} (ha : FE X c G e fa) : FE X c G e (fun g => (fa g).bind datX) :=
  fe_from (fun {K F v a b} h r => by
    unfold datX at h
    by_cases z : SeqAt.shaped (ToD.d a) = true
    · rw [if_pos z] at h; cases h; exact ⟨ToD.is r, z⟩
    · rw [if_neg z] at h; cases h) (fun a c fs h => by
    unfold datX at h
    by_cases z : SeqAt.shaped (ToD.d a) = true
    · rw [if_pos z] at h; cases h
    · rw [if_neg z] at h; cases h) ha
theorem fe_asI {fa : γ → Xc PyData} (ha : FE X c G e fa) : FE X c G e (fun g => (fa g).bind asI) :=
  fe_from (fun {K F v a b} h r => by
    unfold asI at h
    split at h
    · cases h; obtain ⟨r, _⟩ := r; cases r; exact rfl
    · cases h) (fun a c fs h => by
    unfold asI at h
    split at h <;> cases h) ha
theorem fe_asT {fa : γ → Xc PyData} (ha : FE X c G e fa) : FE X c G e (fun g => (fa g).bind asT) :=
  fe_from (fun {K F v a b} h r => by
    unfold asT at h
    split at h
    · rename_i l
      by_cases z : l.length ≤ sizeLine ∧ l.all SeqAt.shaped = true
      · rw [if_pos z] at h
        cases h
        obtain ⟨r, _⟩ := r
        cases r with
        | tup hq hr => exact ⟨_, _, rfl, hq, z.1, dp_al hr z.2⟩
      · rw [if_neg z] at h; cases h
    · cases h) (fun a c fs h => by
    unfold asT at h
    split at h
    · split at h <;> cases h
    · cases h) ha
/-! == of data -/
@[irreducible] def eqdX {α β : Type} [Rp α] [Rp β] [ToD α] [ToD β] (a : α) (b : β) : Xc Bool := if SeqAt.shaped (ToD.d a) = true ∧ SeqAt.shaped (ToD.d b) = true then .ok (PyData.eqv (ToD.d a) (ToD.d b)) else .no
theorem dp_on {K : PySem.W.Frag} {F H : Hp} {v : V} {d : PyData} (s : Same F H) (h : Dp K F v d) : Dp K H v d := dp_mono s h
theorem fe_eqd [ToD α] [ToD β] {fa : γ → Xc α} {fb : γ → Xc β} {k : Nat} (hr : Room k X.A) (ha : FE X c G a fa) (hb : FE X c G b fb) : FE X c G (.Compare a [.Eq] [b] pos) (fun g => (fa g).bind fun i => (fb g).bind fun j => eqdX i j) :=
  two (fun h1 h2 => pe_cmpR (op_eqD hr.units) h1 h2 (nomark _)) ha hb fun {F H x y i j Q E} s r1 r2 p => by
    unfold eqdX at p
    by_cases z : SeqAt.shaped (ToD.d i) = true ∧ SeqAt.shaped (ToD.d j) = true
    · rw [if_pos z] at p; exact ⟨_, _, dp_mono s (ToD.is r1), dp_mono s (ToD.is r2), z.1, z.2, p.ret s rfl⟩
    · rw [if_neg z] at p; exact p.elim
theorem fe_ned [ToD α] [ToD β] {fa : γ → Xc α} {fb : γ → Xc β} {k : Nat} (hr : Room k X.A) (ha : FE X c G a fa) (hb : FE X c G b fb) : FE X c G (.Compare a [.NotEq] [b] pos) (fun g => (fa g).bind fun i => (fb g).bind fun j => (eqdX i j).bind fun t => Xc.ok (!t)) :=
  two (fun h1 h2 => pe_cmpR (op_neD hr.units) h1 h2 (nomark _)) ha hb fun {F H x y i j Q E} s r1 r2 p => by
    unfold eqdX at p
    by_cases z : SeqAt.shaped (ToD.d i) = true ∧ SeqAt.shaped (ToD.d j) = true
    · rw [if_pos z] at p; exact ⟨_, _, dp_mono s (ToD.is r1), dp_mono s (ToD.is r2), z.1, z.2, p.ret s rfl⟩
    · rw [if_neg z] at p; exact p.elim
theorem ft_eqd [ToD α] [ToD β] {fa : γ → Xc α} {fb : γ → Xc β} {k : Nat} (hr : Room k X.A) (ha : FE X c G a fa) (hb : FE X c G b fb) : FT X c G (.Compare a [.Eq] [b] pos) (fun g => (fa g).bind fun i => (fb g).bind fun j => eqdX i j) :=
  twoT (fun h1 h2 => pt_cmpR (op_eqD hr.units) h1 h2 (nomark _)) ha hb fun {F H x y i j Q E} s r1 r2 p => by
    unfold eqdX at p
    by_cases z : SeqAt.shaped (ToD.d i) = true ∧ SeqAt.shaped (ToD.d j) = true
    · rw [if_pos z] at p; exact ⟨_, _, dp_mono s (ToD.is r1), dp_mono s (ToD.is r2), z.1, z.2, _, rfl, p.ret s⟩
    · rw [if_neg z] at p; exact p.elim
theorem ft_ned [ToD α] [ToD β] {fa : γ → Xc α} {fb : γ → Xc β} {k : Nat} (hr : Room k X.A) (ha : FE X c G a fa) (hb : FE X c G b fb) : FT X c G (.Compare a [.NotEq] [b] pos) (fun g => (fa g).bind fun i => (fb g).bind fun j => (eqdX i j).bind fun t => Xc.ok (!t)) :=
  twoT (fun h1 h2 => pt_cmpR (op_neD hr.units) h1 h2 (nomark _)) ha hb fun {F H x y i j Q E} s r1 r2 p => by
    unfold eqdX at p
    by_cases z : SeqAt.shaped (ToD.d i) = true ∧ SeqAt.shaped (ToD.d j) = true
    · rw [if_pos z] at p; exact ⟨_, _, dp_mono s (ToD.is r1), dp_mono s (ToD.is r2), z.1, z.2, _, rfl, p.ret s⟩
    · rw [if_neg z] at p; exact p.elim
/-! lengths, places -/
instance {α β : Type} [Rp α] [Rp β] : HasLen (α × β) := ⟨fun _ => 2, fun {K F H v a} s h => by obtain ⟨q, x, y, e, hq, _⟩ := h; subst e; exact .inr ⟨_, Same.seqT s hq, rfl⟩⟩
instance {α β γ : Type} [Rp α] [Rp β] [Rp γ] : HasLen (T3 α β γ) := ⟨fun _ => 3, fun {K F H v a} s h => by obtain ⟨q, x, y, z, e, hq, _⟩ := h; subst e; exact .inr ⟨_, Same.seqT s hq, rfl⟩⟩
theorem fe_ixP {fa : γ → Xc (α × α)} {fi : γ → Xc Int} (ha : FE X c G a fa) (hb : FE X c G b fi) (hs : PlainIx b := by exact fun _ _ => rfl) : FE X c G (.Subscript a b pos) (fun g => (fa g).bind fun t => (fi g).bind fun i => getX [t.1, t.2] i) :=
  two (fun h1 h2 => pe_ix ix_tup h1 h2 hs) ha hb fun {F H v u t i Q E} s r1 r2 h => by
    obtain ⟨q, x, y, e, hq, ra, rb⟩ := r1
    have r2 : u = .int i := r2
    subst r2
    unfold getX at h
    cases e2 : atI [t.1, t.2] i with
    | none => rw [e2] at h; exact h.elim
    | some z =>
      rw [e2] at h
      obtain ⟨w', hw, rw'⟩ := atI_al (.cons ra (.cons rb .nil)) e2
      exact ⟨q, _, i, w', e, rfl, Same.seqT s hq, hw, h.ret s rw'⟩
/-! list(..), text times int -/
theorem fo_list {fa : γ → Xc (List α)} (ha : FE X c G a fa) (hm : X.mg "list" = none) (hg : Gl X "list" := by rfl) (hs : starEach [a] X.env = (false, eval a X.env) :: starEach [] X.env := by rfl) :
    FO X c G (.Call (.Name "list" p) [a] [] pos) (fun g => (fa g).bind fun l => Xc.ok l) :=
  PE.imp (pe_callTy call_list_of hg hm (by decide +kernel) (pa_cons ha pa_nil hs) (he := hs)) fun σ H Q ⟨F, g, w, q, h⟩ => by
    refine ⟨F, g, w, q, ?_⟩
    cases e1 : fa g with
    | ok l =>
      simp only [e1] at h
      rintro v F1 H1 w1 ⟨b, xs, rfl, hx, hz, r⟩
      exact ⟨b, xs, rfl, .inl (Same.seq w1.s hx), fun l' hl => h l' xs F1 _ (w1.trans (Wd.newO w1.s hl)) (w1.h.free hl) (w1.s.free hl) upd_same hz r⟩
    | er c' fs => simp only [e1] at h; exact h
    | no => simp only [e1] at h; exact h
theorem fo_listT {fa : γ → Xc (Tu α)} (ha : FE X c G a fa) (hm : X.mg "list" = none) (hg : Gl X "list" := by rfl) (hs : starEach [a] X.env = (false, eval a X.env) :: starEach [] X.env := by rfl) :
    FO X c G (.Call (.Name "list" p) [a] [] pos) (fun g => (fa g).bind fun l => Xc.ok l.l) :=
  PE.imp (pe_callTy call_list_of hg hm (by decide +kernel) (pa_cons ha pa_nil hs) (he := hs)) fun σ H Q ⟨F, g, w, q, h⟩ => by
    refine ⟨F, g, w, q, ?_⟩
    cases e1 : fa g with
    | ok l =>
      simp only [e1] at h
      rintro v F1 H1 w1 ⟨b, xs, rfl, hx, hz, r⟩
      exact ⟨b, xs, rfl, .inr (Same.seqT w1.s hx), fun l' hl => h l' xs F1 _ (w1.trans (Wd.newO w1.s hl)) (w1.h.free hl) (w1.s.free hl) upd_same hz r⟩
    | er c' fs => simp only [e1] at h; exact h
    | no => simp only [e1] at h; exact h
instance (x : Str) (n : Int) : Decidable (MulOk x n) := by unfold MulOk; infer_instance
@[irreducible] def mulS (x : Str) (n : Int) : Xc Str := if MulOk x n ∧ (Txt.mul x n).length ≤ sizeLine then .ok (Txt.mul x n) else .no
theorem op_mulS : OpR X (binaryOp .Mult) (fun x y H Q => ∃ z n, x = .str z ∧ y = .int n ∧ MulOk z n ∧ Q (.str (Txt.mul z n)) H) := by
  intro pins s σ H x y v u Q I rx ry h
  obtain ⟨i, j, rfl, rfl, hz, q⟩ := h
  obtain ⟨t, rfl⟩ := rx
  obtain ⟨t', rfl⟩ := ry
  exact PySem.SB.mul hz fun t' k => ⟨.str _, H, I.tok _, ⟨_, rfl⟩, q⟩
theorem fe_mulS {fa : γ → Xc Str} {fb : γ → Xc Int} (ha : FE X c G a fa) (hb : FE X c G b fb) : FE X c G (.BinOp a .Mult b pos) (fun g => (fa g).bind fun i => (fb g).bind fun j => mulS i j) :=
  two (fun h1 h2 => pe_op op_mulS h1 h2) ha hb fun {F H x y i j Q E} s r1 r2 p => by
    unfold mulS at p
    by_cases h : MulOk i j ∧ (Txt.mul i j).length ≤ sizeLine
    · rw [if_pos h] at p; exact ⟨_, _, r1.1, r2, h.1, p.ret s ⟨rfl, h.2⟩⟩
    · rw [if_neg h] at p; exact p.elim
/-! a <= b <= c -/
theorem fe_chainLe {f1 f2 f3 : γ → Xc Int} (ha : FE X c G a f1) (hb : FE X c G b f2) (hd : FE X c G d f3) (hm : lastMarks [.LtE, .LtE] [b, d] = false := by with_unfolding_all rfl) :
    FE X c G (.Compare a [.LtE, .LtE] [b, d] pos) (fun g => (f1 g).bind fun i => (f2 g).bind fun j => if i ≤ j then (f3 g).bind fun k => Xc.ok (decide (j ≤ k)) else Xc.ok false) :=
  PE.imp (pe_chain op_le op_le ha hb hd hm) fun σ H Q ⟨F, g, w, q, p⟩ => by
    refine ⟨F, g, w, q, ?_⟩
    cases e1 : f1 g with
    | ok i =>
      intro v F1 H1 w1 r1
      simp only [e1] at p
      have p : Po X.K F H Q (WE c.W σ) ((f2 g).bind fun j => if i ≤ j then (f3 g).bind fun k => Xc.ok (decide (j ≤ k)) else Xc.ok false) := p
      refine ⟨F1, g, w.trans w1, G.mono q w1, ?_⟩
      cases e2 : f2 g with
      | ok j =>
        intro u F2 H2 w2 r2
        simp only [e2] at p
        have p : Po X.K F H Q (WE c.W σ) (if i ≤ j then (f3 g).bind fun k => Xc.ok (decide (j ≤ k)) else Xc.ok false) := p
        refine ⟨i, j, r1, r2, decide (i ≤ j), rfl, ?_⟩
        by_cases hij : i ≤ j
        · rw [if_pos hij] at p
          rw [if_pos (decide_eq_true hij)]
          refine ⟨F2, g, (w.trans w1).trans w2, G.mono (G.mono q w1) w2, ?_⟩
          cases e3 : f3 g with
          | ok k =>
            intro z F3 H3 w3 r3
            simp only [e3] at p
            exact ⟨j, k, r2, r3, (Po.on p ((w1.trans w2).trans w3)).ret w3.s rfl⟩
          | er c' fs => simp only [e3] at p; exact ErP.on (show ErP X.K F H (WE c.W σ) c' fs from p) (w1.trans w2)
          | no => simp only [e3] at p; exact p
        · rw [if_neg hij] at p
          rw [if_neg (by simpa using hij)]
          exact (Po.on p (w1.trans w2)).ret w2.s rfl
      | er c' fs => simp only [e2] at p; exact ErP.on (show ErP X.K F H (WE c.W σ) c' fs from p) w1
      | no => simp only [e2] at p; exact p
    | er c' fs => simp only [e1] at p; exact p
    | no => simp only [e1] at p; exact p
theorem ft_chainLe {f1 f2 f3 : γ → Xc Int} (ha : FE X c G a f1) (hb : FE X c G b f2) (hd : FE X c G d f3) (hm : lastMarks [.LtE, .LtE] [b, d] = false := by with_unfolding_all rfl) :
    FT X c G (.Compare a [.LtE, .LtE] [b, d] pos) (fun g => (f1 g).bind fun i => (f2 g).bind fun j => if i ≤ j then (f3 g).bind fun k => Xc.ok (decide (j ≤ k)) else Xc.ok false) :=
  PT.imp (pt_chain op_le op_le ha hb hd hm) fun σ H Q ⟨F, g, w, q, p⟩ => by
    refine ⟨F, g, w, q, ?_⟩
    cases e1 : f1 g with
    | ok i =>
      intro v F1 H1 w1 r1
      simp only [e1] at p
      have p : PoB X.K F H Q (WE c.W σ) ((f2 g).bind fun j => if i ≤ j then (f3 g).bind fun k => Xc.ok (decide (j ≤ k)) else Xc.ok false) := p
      refine ⟨F1, g, w.trans w1, G.mono q w1, ?_⟩
      cases e2 : f2 g with
      | ok j =>
        intro u F2 H2 w2 r2
        simp only [e2] at p
        have p : PoB X.K F H Q (WE c.W σ) (if i ≤ j then (f3 g).bind fun k => Xc.ok (decide (j ≤ k)) else Xc.ok false) := p
        refine ⟨i, j, r1, r2, decide (i ≤ j), rfl, ?_⟩
        by_cases hij : i ≤ j
        · rw [if_pos hij] at p
          rw [if_pos (decide_eq_true hij)]
          refine ⟨F2, g, (w.trans w1).trans w2, G.mono (G.mono q w1) w2, ?_⟩
          cases e3 : f3 g with
          | ok k =>
            intro z F3 H3 w3 r3
            simp only [e3] at p
            exact ⟨j, k, r2, r3, _, rfl, (PoB.on p ((w1.trans w2).trans w3)).ret w3.s⟩
          | er c' fs => simp only [e3] at p; exact ErP.on (show ErP X.K F H (WE c.W σ) c' fs from p) (w1.trans w2)
          | no => simp only [e3] at p; exact p
        · rw [if_neg hij] at p
          rw [if_neg (by simpa using hij)]
          exact ⟨_, rfl, (PoB.on p (w1.trans w2)).ret w2.s⟩
      | er c' fs => simp only [e2] at p; exact ErP.on (show ErP X.K F H (WE c.W σ) c' fs from p) w1
      | no => simp only [e2] at p; exact p
    | er c' fs => simp only [e1] at p; exact p
    | no => simp only [e1] at p; exact p
end
/-! ### the signs of a text -/
section
variable {X : Cx} {c : C0} {γ α β ρ : Type} {G : EnvT γ} [Rp α] [Rp β] [Rp ρ] {a b d e tg : Expr} {pos p : Pos}
theorem fi_str {f : γ → Xc Str} (h : FE X c G e f) : FI X c G tg e (fun g => (f g).bind fun z => Xc.ok (signs z)) :=
  PI.imp (pi_str h) fun σ H R ⟨F, g, w, q, p⟩ => by
    refine ⟨F, g, w, q, ?_⟩
    cases e1 : f g with
    | ok z =>
      rintro v F1 H1 w1 ⟨rfl, hz⟩
      simp only [e1] at p
      have len : (signs z).length = z.cps.size := by simp [signs]
      refine ⟨z, rfl, p (Its z) F1 H1 w1 ⟨by rw [len]; exact hz, fun F' H' s1 s2 => by rw [len]; exact Nat.le_refl _, fun i F' H' hi s1 s2 => by rw [len] at hi; exact hi, fun i a F' H' x H'' e2 s1 s2 y => ?_⟩⟩
      obtain ⟨rfl, c, hc, rfl⟩ := y
      have : a = (⟨#[c]⟩ : Str) := by
        unfold signs at e2
        rw [List.getElem?_map] at e2
        rw [show z.cps.toList[i]? = some c by simpa using hc] at e2
        exact (Option.some.inj e2).symm
      subst this
      exact ⟨F', Wd.refl s2, rfl, one_le_line⟩
    | er c' fs => simp only [e1] at p; exact p
    | no => simp only [e1] at p; exact p
end
/-! ### returns of a list of one's own; dead code; lending for good -/
section
variable {X : Cx} {τ ρ β γ γ' γ1 γ2 δ α : Type} {c : C2 τ ρ β} {G : EnvT γ} {G' : EnvT γ'} {G1 : EnvT γ1} {G2 : EnvT γ2} {a b e : Expr} {st : Stmt} {sts : List Stmt} {pos p p2 : Pos} {x : Str}
theorem fs_retVG (i : Nat) {r : Rp α} {π : γ → List α} {put : γ → List α → γ} [A : AtO G i α r π put] {c : C2 τ (List α) β} {rt : List α → τ} (hO : c.O.ret = rt) (hR : c.R = rtO α) (hN : X.N[i]? = some x)
    (hv : Vis X.env.scope x) (hd : (x == ("__debug__" : Str)) = false) (hcd : (x == ("__classdict__" : Str)) = false) : FS X c G (.Return (some (.Name x p)) pos) G' (fun g _ => Xc.ok (rt (π g))) :=
  PS.imp (ps_ret (pe_var hN hv hd hcd)) fun D σ H ⟨F, g, k, w, q, d, n⟩ => by
    obtain ⟨p, xs, e1, m, hp, z, al⟩ := A.get q
    obtain ⟨h0, hf, _⟩ := G.al q m
    subst hO
    exact ⟨.ref p, e1, c.O.hret d _ F H (Ws.refl w) (by rw [hR]; exact ⟨p, xs, rfl, h0, hf, hp, z, al⟩)⟩
theorem fs_retV (i : Nat) {r : Rp α} {π : γ → List α} {put : γ → List α → γ} [A : AtO G i α r π put] {c : C2 (List α) (List α) Unit} (hO : c.O.ret = id := by rfl) (hR : c.R = rtO α := by rfl) (hN : X.N[i]? = some x := by rfl)
    (hv : Vis X.env.scope x := by first | exact Or.inl rfl | exact Or.inr (Or.inl rfl) | exact Or.inr (Or.inr rfl)) (hd : (x == ("__debug__" : Str)) = false := by decide) (hcd : (x == ("__classdict__" : Str)) = false := by decide) :
    FS X c G (.Return (some (.Name x p)) pos) G' (fun g _ => Xc.ok (π g)) := fs_retVG i hO hR hN hv hd hcd
theorem fss_dead : FSs X c G sts G' (fun _ _ => Xc.no) := ⟨fun pins s σ H D I ⟨F, g, k, w, q, d, n⟩ => d.elim⟩
theorem fss_lend {f : δ → (γ' → Xc τ) → Xc τ} {h : γ → δ} {Gl : EnvT δ} [B : Bor G Gl h] (hs : FSs X c Gl sts G' f) : FSs X c G sts G' (fun g k => f (h g) k) :=
  PSs.imp hs fun D σ H ⟨F, g, k, w, q, d, n⟩ => by
    obtain ⟨F1, w1, q1, _, s1⟩ := lend (B := B) w q
    exact ⟨F1, h g, k, w1, q1, d.on s1 Ag.refl, fun g' σ' F' H' w2 a2 q2 d2 => n g' σ' F' H' ⟨s1.trans w2.f, w2.w⟩ a2 q2 d2⟩
end
end FL

/-! FL13: try .. except; isinstance of what was caught; targets of three. -/
namespace FL
open PySem L2
/-! ### slots of which nothing is known any more -/
def setAll (σ : St) (f : Nat → Option V) : List Nat → St
  | [] => σ
  | v :: vs => (setAll σ f vs).set v (f v)
class Fgt {γ : Type} (G : EnvT γ) (vs : List Nat) {δ : outParam Type} (G' : outParam (EnvT δ)) (h : outParam (γ → δ)) : Prop where
  fg : ∀ {K H0 F H σ g} (f : Nat → Option V), G.rel K H0 F H σ g → G'.rel K H0 F H (setAll σ f vs) (h g)
instance {γ : Type} (G : EnvT γ) : Fgt G [] G (fun g => g) := ⟨fun _ h => h⟩
instance {γ δ ε : Type} (G : EnvT γ) (G1 : EnvT δ) (G2 : EnvT ε) (i : Nat) (vs : List Nat) (h1 : γ → δ) (h2 : δ → ε) [W : Fgt G vs G1 h1] [W1 : Wi1 G1 i G2 h2] : Fgt G (i :: vs) G2 (fun g => h2 (h1 g)) := ⟨fun f q => W1.wi (f i) (W.fg f q)⟩
theorem setAll_len {σ : St} {f : Nat → Option V} : ∀ {vs : List Nat}, (setAll σ f vs).length = σ.length
  | [] => rfl
  | v :: vs => by show ((setAll σ f vs).set v (f v)).length = _; rw [List.length_set, setAll_len]
theorem setAll_get {σ : St} {f : Nat → Option V} {j : Nat} : ∀ {vs : List Nat}, j < σ.length → (setAll σ f vs)[j]? = if j ∈ vs then some (f j) else σ[j]?
  | [], _ => by simp [setAll]
  | v :: vs, h => by
    show ((setAll σ f vs).set v (f v))[j]? = _
    by_cases e : v = j
    · subst e
      rw [List.getElem?_set_self (by rw [setAll_len]; exact h)]
      simp
    · rw [List.getElem?_set_ne e, setAll_get h]
      by_cases m : j ∈ vs
      · rw [if_pos m, if_pos (List.mem_cons_of_mem _ m)]
      · rw [if_neg m, if_neg (by simp only [List.mem_cons, not_or]; exact ⟨fun z => e z.symm, m⟩)]
def mOf (vs : List Nat) : Nat → Bool := fun i => decide (i ∈ vs)
theorem ag_setAll {vs : List Nat} {σ σ' : St} (a : Ag (mOf vs) σ σ') : σ' = setAll σ (fun j => σ'[j]?.join) vs := by
  apply List.ext_getElem?
  intro j
  by_cases hj : j < σ.length
  · rw [setAll_get hj]
    by_cases m : j ∈ vs
    · rw [if_pos m]
      have h' : j < σ'.length := by rw [a.len]; exact hj
      rw [List.getElem?_eq_getElem h']
      rfl
    · rw [if_neg m]
      exact a.at_ j (by unfold mOf; simp [m])
  · rw [List.getElem?_eq_none (by rw [a.len]; omega), List.getElem?_eq_none (by rw [setAll_len]; omega)]
/-- a slot with just this value -/
def xv (v : V) {γ : Type} (G : EnvT γ) : EnvT γ where
  rel := fun K H0 F H σ g => ∃ σ', σ = some v :: σ' ∧ G.rel K H0 F H σ' g
  own := fun σ => G.own σ.tail
  mono := fun ⟨σ', e, h⟩ w => ⟨σ', e, G.mono h w⟩
  mu := fun ⟨σ', e, h⟩ n => ⟨σ', e, G.mu h (by subst e; exact n)⟩
  al := fun ⟨σ', e, h⟩ n => G.al h (by subst e; exact n)
class PutX {γ : Type} (G : EnvT γ) (i : Nat) (v : V) {δ : outParam Type} (G' : outParam (EnvT δ)) (h : outParam (γ → δ)) : Prop where
  put : ∀ {K H0 F H σ g}, G.rel K H0 F H σ g → G'.rel K H0 F H (σ.set i (some v)) (h g)
  own : ∀ {K H0 F H σ g p}, G.rel K H0 F H σ g → p ∈ G'.own (σ.set i (some v)) → p ∈ G.own σ
section
variable {α β γ δ : Type} [Rp α] [Rp β] (G : EnvT γ) (G' : EnvT δ) (h : γ → δ) (i : Nat) (v : V)
instance : PutX (un G) 0 v (xv v G) (fun g => g) := ⟨fun ⟨u, σ', e, q⟩ => ⟨σ', by subst e; rfl, q⟩, fun ⟨u, σ', e, q⟩ m => by subst e; exact m⟩
instance : PutX (va α G) 0 v (xv v G) (fun g => g.2) := ⟨fun ⟨u, σ', e, _, q⟩ => ⟨σ', by subst e; rfl, q⟩, fun ⟨u, σ', e, _, q⟩ m => by subst e; exact m⟩
instance [W : PutX G i v G' h] : PutX (va α G) (i + 1) v (va α G') (fun g => (g.1, h g.2)) := ⟨fun ⟨u, σ', e, r, q⟩ => ⟨u, σ'.set i _, by subst e; rfl, r, W.put q⟩, fun ⟨u, σ', e, r, q⟩ m => by subst e; exact W.own q m⟩
instance [W : PutX G i v G' h] : PutX (un G) (i + 1) v (un G') (fun g => h g) := ⟨fun ⟨u, σ', e, q⟩ => ⟨u, σ'.set i _, by subst e; rfl, W.put q⟩, fun ⟨u, σ', e, q⟩ m => by subst e; exact W.own q m⟩
instance [W : PutX G i v G' h] : PutX (ow α G) (i + 1) v (ow α G') (fun g => (g.1, h g.2)) := ⟨fun ⟨p, σ', xs, e, h0, f, hh, z, r, n, q⟩ => ⟨p, σ'.set i _, xs, by subst e; rfl, h0, f, hh, z, r, fun m => n (W.own q m), W.put q⟩, fun ⟨p, σ', xs, e, _, _, _, _, _, _, q⟩ m => by
  subst e
  rcases List.mem_append.mp m with m | m
  · exact List.mem_append_left _ m
  · exact List.mem_append_right _ (W.own q m)⟩
end
class AtX {γ : Type} (G : EnvT γ) (i : Nat) (v : outParam V) : Prop where
  get : ∀ {K H0 F H σ g}, G.rel K H0 F H σ g → σ[i]? = some (some v)
section
variable {α γ : Type} [Rp α] (G : EnvT γ) (i : Nat) (v u : V)
instance : AtX (xv v G) 0 v := ⟨fun ⟨σ', e, q⟩ => by subst e; rfl⟩
instance [A : AtX G i v] : AtX (va α G) (i + 1) v := ⟨fun ⟨_, σ', e, _, q⟩ => by subst e; exact A.get q⟩
instance [A : AtX G i v] : AtX (un G) (i + 1) v := ⟨fun ⟨_, σ', e, q⟩ => by subst e; exact A.get q⟩
instance [A : AtX G i v] : AtX (xv u G) (i + 1) v := ⟨fun ⟨σ', e, q⟩ => by subst e; exact A.get q⟩
instance [A : AtX G i v] : AtX (ow α G) (i + 1) v := ⟨fun ⟨p, σ', xs, e, _, _, _, _, _, _, q⟩ => by subst e; exact A.get q⟩
end
instance {α γ : Type} [r : Rp α] (G : EnvT γ) (i : Nat) (π : γ → α) (v : V) [a : At G i α r π] : At (xv v G) (i + 1) α r (fun g => π g) := ⟨fun ⟨σ', e, q⟩ => by
  obtain ⟨u, e2, q2⟩ := a.get q
  exact ⟨u, by subst e; exact e2, q2⟩⟩
instance subXvUn {γ γ' : Type} (G : EnvT γ) (G' : EnvT γ') (h : γ → γ') (v : V) [S : Sub G G' h] : Sub (xv v G) (un G') (fun g => h g) := ⟨fun ⟨σ', e, q⟩ => ⟨_, σ', e, S.sub q⟩, fun ⟨σ', e, q⟩ m => by subst e; exact S.own q m⟩
/-! ### try .. except x as n -/
def outT {τ ρ β : Type} (γb : Type) (O : Out τ ρ β) (g0 : Option γb) : Out (Sum γb τ) ρ β := ⟨fun t P B C => match t with
  | .inl g => some g = g0
  | .inr t => O.sem t P B C, fun {t P P' B B' C C'} h1 h2 h3 p => by cases t with
  | inl g => exact p
  | inr t => exact O.mono h1 h2 h3 p, fun r => .inr (O.ret r), fun {r P B C} p => O.hret p⟩
def cT {τ ρ β : Type} {γb : Type} (c : C2 τ ρ β) (M : Nat → Bool) (W : WX) (g0 : Option γb) : C2 (Sum γb τ) ρ β := { F0 := c.F0, H0 := c.H0, W := W, M := M, O := outT γb c.O g0, R := c.R, GB := c.GB }
def joinM {γb τ : Type} (m : Xc (Sum γb τ)) (k : γb → Xc τ) : Xc τ := m.bind fun t => match t with
  | .inl g => k g
  | .inr t => .ok t
def catM {τ : Type} (catch_ : Str → Option Bool) (m : Xc τ) (h : Str → Xc τ) : Xc τ := match m with
  | .ok t => .ok t
  | .er cc fs => (match catch_ cc with
    | some true => if fs.isEmpty = true then h cc else .no
    | some false => .er cc fs
    | none => .no)
  | .no => .no
/-- an environment without lists of one's own: it leans on the frozen heap alone -/
class Frz {γ : Type} (G : EnvT γ) : Prop where
  fz : ∀ {K H0 F H F' H' σ g}, G.rel K H0 F H σ g → Same F F' → G.rel K H0 F' H' σ g
instance : Frz nl := ⟨fun h _ => h⟩
instance {α γ : Type} [Rp α] (G : EnvT γ) [Z : Frz G] : Frz (va α G) := ⟨fun ⟨v, σ', e, r, q⟩ s => ⟨v, σ', e, Rp.mono s r, Z.fz q s⟩⟩
instance {γ : Type} (G : EnvT γ) [Z : Frz G] : Frz (un G) := ⟨fun ⟨v, σ', e, q⟩ s => ⟨v, σ', e, Z.fz q s⟩⟩
section
variable {X : Cx} {τ ρ β γ γ' γf γh : Type} {c : C2 τ ρ β} {G : EnvT γ} {G' : EnvT γ'} {Gf : EnvT γf} {x n : Str} {i : Nat} {body suite : List Stmt} {b₀ : Stmt} {np pos pos' : Pos} {vs : List Nat} {cv : Value}
theorem fs_tryAs {Gh : Addr → EnvT γh} {catch_ : Str → Option Bool} {hf : γ → γf} {hp : γf → γh} [FG : Fgt G vs Gf hf] [FZ : Frz Gf] [PX : ∀ a, PutX Gf i (.ref a) (Gh a) hp] {fb : γ → (γ' → Xc (Sum γ' τ)) → Xc (Sum γ' τ)} {fh : Str → γh → (γ' → Xc (Sum γ' τ)) → Xc (Sum γ' τ)}
    [WJ : Wi1 G' i G' fun g => g] [WB : Wi1 c.GB i c.GB fun g => g] (tk : Takes X c.W) (hc : Names X x cv) (hx : ∀ cc b, catch_ cc = some b → PySem.W.exmOne X.K (.ref (He.ga X.K cc)) cv = some b) (hN : X.N.Nodup)
    (hb : ∀ W pn xe g0, Takes (X.tr pn xe) W → PassesOwn (model X.prog X.w) X.A X.env xe → FSs (X.tr pn xe) (cT c (mOf vs) W g0) G body G' fb)
    (hh : ∀ a oe cc pn g0, catch_ cc = some true → Zc (.ref (He.ga X.K cc)) none oe → (∃ vs, oe.data = .fields vs) → FSs (X.suite a ((a, oe) :: pn)) (cT c c.M c.W g0) (Gh a) (b₀ :: suite) G' (fh cc))
    (hi : X.N[i]? = some n := by rfl) (hln : X.env.kindOf n = some .local := by rfl) (hvM : ∀ j ∈ vs, c.M j = true := by intro _ _; rfl) (hiM : c.M i = true := by rfl) (hs : X.stack = X.env :: X.outer := by rfl) (hfr : X.env.frame = some X.env.locals := by rfl) :
    FS X c G (.Try body [.ExceptHandler (some (.Name x np)) (some n) (b₀ :: suite) pos'] [] [] pos) G' (fun g k => joinM (catM catch_ (fb g fun g' => Xc.ok (.inl g')) fun cc => fh cc (hp (hf g)) fun g' => Xc.ok (.inl g')) k) :=
  PS.imp (ps_try_as (tb := fun W D σ H => ∃ g0, tS X.K (cT c (mOf vs) W g0) G G' fb D σ H) (ts := fun a cls d D σ H => ∃ cc g0, cls = .ref (He.ga X.K cc) ∧ d = none ∧ catch_ cc = some true ∧ tS X.K (cT c c.M c.W g0) (Gh a) G' (fh cc) D σ H) hs hfr hN hi hln hc tk
    (fun W pn xe tk' po => ⟨fun pins s σ H D I ⟨g0, q⟩ => (hb W pn xe g0 tk' po).run pins s σ H D I q⟩)
    (fun a oe cls d pn hz hv => ⟨fun pins s σ H D I ⟨cc, g0, e1, e2, e3, q⟩ => by subst e1 e2; exact (hh a oe cc pn g0 e3 hz hv).run pins s σ H D I q⟩)) fun D σ H ⟨F, g, k, w, q, d, nn⟩ => by
    have agM : ∀ {σ σ' : St}, Ag (mOf vs) σ σ' → Ag c.M σ σ' := fun a => a.imp fun j hj => hvM j (by simpa [mOf] using hj)
    cases e1 : fb g fun g' => Xc.ok (.inl g') with
    | no => simp only [e1, joinM, catM] at d; exact d.elim
    | ok t =>
      cases t with
      | inl g1 =>
        simp only [e1, joinM, catM, bind_ok] at d
        refine ⟨some g1, F, g, fun g' => Xc.ok (.inl g'), w, q, by rw [e1]; exact (rfl : some g1 = some g1), fun g' σ' F' H' w' a' q' d' => ?_⟩
        have d' : some g' = some g1 := d'
        cases d'
        exact nn g1 σ' F' H' ⟨w'.f, w'.w⟩ (agM a') q' (d.on w'.f (agM a'))
      | inr t =>
        simp only [e1, joinM, catM, bind_ok] at d
        refine ⟨none, F, g, fun g' => Xc.ok (.inl g'), w, q, ?_, fun g' σ' F' H' w' a' q' d' => ?_⟩
        · rw [e1]
          have d : c.O.sem t _ _ _ := d
          refine c.O.mono (fun r p v F' H' w' rr => p v F' H' ⟨w'.f, w'.w⟩ rr) (fun b p σ' F' H' w' a' => p σ' F' H' ⟨w'.f, w'.w⟩ (agM a')) (fun b p σ' F' H' w' a' => p σ' F' H' ⟨w'.f, w'.w⟩ (agM a')) d
        · have d' : some g' = none := d'
          cases d'
    | er cc fs =>
      simp only [e1, catM] at d
      refine ⟨none, F, g, fun g' => Xc.ok (.inl g'), w, q, ?_, fun g' σ' F' H' w' a' q' d' => ?_⟩
      · rw [e1]
        intro σ' F' H' w' a'
        cases e2 : catch_ cc with
        | none => simp only [e2] at d; exact d.elim
        | some b =>
          cases b with
          | false =>
            simp only [e2] at d
            have d : Done X.K c D F σ (.er cc fs) := d
            have d := d σ' F' H' ⟨w'.f, w'.w⟩ (agM a')
            cases fs with
            | nil => exact fun F2 H2 w2 => ⟨false, hx cc _ e2, (fun z => absurd z Bool.false_ne_true), fun _ => d F2 H2 w2⟩
            | cons f fs => exact fun F2 H2 d2 w2 hd => ⟨false, hx cc _ e2, (fun z => absurd z Bool.false_ne_true), fun _ => d F2 H2 d2 w2 hd⟩
          | true =>
            simp only [e2] at d
            cases fs with
            | cons f fs => simp [joinM, bind_no] at d; exact d.elim
            | nil =>
              simp only [List.isEmpty_nil, if_true] at d
              refine fun F2 H2 w2 => ⟨true, hx cc _ e2, fun _ a ha => ?_, fun z => absurd z.symm Bool.false_ne_true⟩
              have q1 : Gf.rel X.K c.H0 F2 H2 σ' (hf g) := by
                rw [ag_setAll a']
                exact FZ.fz (FG.fg _ q) (w'.f.trans w2.f)
              have q2 := (PX a).put q1
              have sF : Same F F2 := w'.f.trans w2.f
              have wd : Wd c.F0 c.H0 F2 H2 := w'.w.trans w2
              have ag2 : ∀ σ3, Ag c.M (σ'.set i (some (.ref a))) σ3 → Ag c.M σ (σ3.set i none) := fun σ3 a3 => (((agM a').trans (Ag.set hiM)).trans a3).trans (Ag.set hiM)
              have ag3 : ∀ σ3, Ag c.M (σ'.set i (some (.ref a))) σ3 → Ag c.M σ σ3 := fun σ3 a3 => ((agM a').trans (Ag.set hiM)).trans a3
              cases e3 : fh cc (hp (hf g)) fun g' => Xc.ok (.inl g') with
              | no => simp only [e3, joinM, bind_no] at d; exact d.elim
              | er cc2 fs2 =>
                simp only [e3, joinM, bind_er] at d
                refine ⟨cc, none, rfl, rfl, e2, F2, hp (hf g), fun g' => Xc.ok (.inl g'), wd, q2, ?_, fun g' σ3 F3 H3 w3 a3 q3 d3 => ?_⟩
                · rw [e3]
                  exact fun σ3 F3 H3 w3 a3 => d σ3 F3 H3 ⟨sF.trans w3.f, w3.w⟩ (ag3 σ3 a3)
                · have d3 : some g' = none := d3
                  cases d3
              | ok t =>
                cases t with
                | inl g1 =>
                  simp only [e3, joinM, bind_ok] at d
                  refine ⟨cc, some g1, rfl, rfl, e2, F2, hp (hf g), fun g' => Xc.ok (.inl g'), wd, q2, by rw [e3]; exact (rfl : some g1 = some g1), fun g' σ3 F3 H3 w3 a3 q3 d3 => ?_⟩
                  have d3 : some g' = some g1 := d3
                  cases d3
                  exact nn g1 (σ3.set i none) F3 H3 ⟨sF.trans w3.f, w3.w⟩ (ag2 σ3 a3) (WJ.wi none q3) (d.on (sF.trans w3.f) (ag2 σ3 a3))
                | inr t =>
                  simp only [e3, joinM, bind_ok] at d
                  refine ⟨cc, none, rfl, rfl, e2, F2, hp (hf g), fun g' => Xc.ok (.inl g'), wd, q2, ?_, fun g' σ3 F3 H3 w3 a3 q3 d3 => ?_⟩
                  · rw [e3]
                    have d : c.O.sem t _ _ _ := d
                    refine c.O.mono (fun r p v F3 H3 w3 rr => p v F3 H3 ⟨sF.trans w3.f, w3.w⟩ rr) (fun b p σ3 F3 H3 w3 a3 r3 => p (σ3.set i none) F3 H3 ⟨sF.trans w3.f, w3.w⟩ (ag2 σ3 a3) (WB.wi none r3)) (fun b p σ3 F3 H3 w3 a3 r3 => p (σ3.set i none) F3 H3 ⟨sF.trans w3.f, w3.w⟩ (ag2 σ3 a3) (WB.wi none r3)) d
                  · have d3 : some g' = none := d3
                    cases d3
      · have d' : some g' = none := d'
        cases d'
/-- a return within a try or its suite -/
theorem fs_retT {c : C2 (Sum γ' ρ) ρ Unit} {γ2 : Type} {G2 : EnvT γ2} [Rp ρ] {e : Expr} {fa : γ → Xc ρ} (ha : FE X c.toC0 G e fa) (hO : c.O.ret = Sum.inr := by rfl) (hR : c.R = rtF ρ := by rfl) : FS X c G (.Return (some e) pos) G2 (fun g _ => (fa g).bind fun v => Xc.ok (Sum.inr v)) := fs_retG hO hR ha
end
/-! ### isinstance of the exception that a suite holds -/
section
variable {X : Cx} {c : C0} {γ : Type} {G : EnvT γ} {a D : Addr} {oe : Obj} {pn : List (Addr × Obj)} {n x : Str} {pos p p1 p2 : Pos}
theorem fe_isE (i : Nat) (b : Bool) {cv : Value} [A : AtX G i (.ref a)] (C : ExcC X.K D) (hz : Zc (.ref D) none oe) (hf : ∃ vs, oe.data = .fields vs) (hk : PySem.W.kitOne X.K (.ref D) cv = some b) {u : V} (hu : ∀ z, RelV u z → z = cv)
    (ht : PE (X.suite a ((a, oe) :: pn)) (.Name x p2) (fun σ H Q => Q u H))
    (hm : X.mg "isinstance" = none) (hN : X.N[i]? = some n := by rfl) (hv : Vis X.env.scope n := by first | exact Or.inl rfl | exact Or.inr (Or.inl rfl) | exact Or.inr (Or.inr rfl)) (hd : (n == ("__debug__" : Str)) = false := by decide) (hcd : (n == ("__classdict__" : Str)) = false := by decide)
    (hg : Gl X "isinstance" := by rfl)
    (hs : starEach [.Name n p1, .Name x p2] X.env = (false, eval (.Name n p1) X.env) :: starEach [.Name x p2] X.env := by rfl) (hs2 : starEach [.Name x p2] X.env = (false, eval (.Name x p2) X.env) :: starEach [] X.env := by rfl)
    (hpl : (backTo pos (starEach [.Name x p2] X.env)).any (·.1) = false := by rfl) : FE (X.suite a ((a, oe) :: pn)) c G (.Call (.Name "isinstance" p) [.Name n p1, .Name x p2] [] pos) (fun _ => Xc.ok b) :=
  PE.imp (pe_callB (call_isE (X := X) C hz hf) hg hm PyProof.Rows.boot_isinstance (pa_cons (pe_var hN hv hd hcd) (pa_cons ht pa_nil hs2) hs) (he := hs) (hpl := hpl)) fun σ H Q ⟨F, g, w, q, h⟩ =>
    ⟨.ref a, A.get q, u, cv, b, rfl, hu, hk, h.ret w.s rfl⟩
theorem pe_clsR {X : Cx} {x : Str} {p : Pos} (hm : X.mg x = some (.ref (He.ga X.K x))) (hg : Gl X x := by rfl) (hd : (x == ("__debug__" : Str)) = false := by decide) : PE X (.Name x p) (fun σ H Q => Q (.ref (He.ga X.K x)) H) :=
  PE.imp (pe_glob (v := .ref (He.ga X.K x)) hg hm rfl hd) fun σ H Q h => h
theorem pe_clsT {X : Cx} {x : Str} {U : String} {p : Pos} (hm : X.mg x = none) (hv : bootBuiltins x = some (.type U) := by decide +kernel) (hg : Gl X x := by rfl) (hn : x ≠ "__name__" := by decide) (hd : (x == ("__debug__" : Str)) = false := by decide) : PE X (.Name x p) (fun σ H Q => Q (.ty U) H) :=
  PE.imp (pe_bltn (v := .ty U) hg hm hv rfl hn hd) fun σ H Q h => h
end
end FL

/-! FL14: targets of several names. -/
namespace FL
open PySem L2
section
variable {X : Cx} {c : C1} {γ γ' γ1 γ2 α β δ : Type} {G : EnvT γ} {G' : EnvT γ'} {G1 : EnvT γ1} {G2 : EnvT γ2} [Rp α] [Rp β] [Rp δ] {pos p p1 p2 p3 : Pos} {x y z : Str} {tg e : Expr} {vs : List Nat}
theorem fn_asg {ψ : γ → α → γ'} {fa : γ → Xc α} (ha : FE X c.toC0 G e fa) (hg : FG X c.M G tg G' vs ψ) (hs : swapsWithSole [tg] e pos.line X.env = pure false := by rfl) (hw : swappedStores [tg] e X.env = pure none := by rfl)
    (h1 : (assignEach [tg] X.env).map (·.2) = [assign tg X.env] := by rfl) : FN X c G (.Assign [tg] e pos) G' (fun g => (fa g).bind fun v => Xc.ok (ψ g v)) := by
  obtain ⟨t, pg, ht⟩ := hg
  exact PS.imp (ps_asg ha pg hs hw h1) fun D σ H ⟨F, g, w, q, h⟩ => by
    refine ⟨F, g, w, q, ?_⟩
    cases e1 : fa g with
    | ok v =>
      intro u F1 H1 w1 r1
      simp only [e1] at h
      exact ht c.H0 F1 H1 σ g u v _ w1.s (G.mono q w1) r1 fun σ' ag _ q' => h σ' F1 H1 (Ws.of w w1) ag q'
    | er c' fs => simp only [e1] at h; exact PoN.er h w
    | no => simp only [e1] at h; exact h
end
section
variable {X : Cx} {γ γ' γ1 γ2 α β δ : Type} {G : EnvT γ} {G' : EnvT γ'} {G1 : EnvT γ1} {G2 : EnvT γ2} [Rp α] [Rp β] [Rp δ] {pos p p1 p2 p3 : Pos} {x y z : Str} {tg e : Expr} {vs : List Nat} {M : Nat → Bool} {kk : Nat}
theorem fg_two (i j : Nat) {ψ1 : γ → α → γ1} {ψ2 : γ1 → β → γ'} [P1 : Put G i α G1 ψ1] [P2 : Put G1 j β G' ψ2] (hM : M i = true ∧ M j = true) (hN : X.N.Nodup) (hc : X.calm = true := by rfl)
    (hi : X.N[i]? = some x := by rfl) (hx : Loc X.env.scope x := by first | exact Or.inl rfl | exact Or.inr rfl) (hj : X.N[j]? = some y := by rfl) (hy : Loc X.env.scope y := by first | exact Or.inl rfl | exact Or.inr rfl)
    (hf : X.fn x = true ∨ X.env.scope.names.lookup x = some .local := by first | exact .inl rfl | exact .inr rfl) (hf2 : X.fn y = true ∨ X.env.scope.names.lookup y = some .local := by first | exact .inl rfl | exact .inr rfl) :
    FG X M G (.Tuple [.Name x p1, .Name y p2] kk p) G' [i, j] (fun g (a : α × β) => ψ2 (ψ1 g a.1) a.2) :=
  fg_pair i j hM hc hN hi hx hj hy hf hf2 (pg_tup hc (pgs_cons (pg_name hN hi hx hf) (pgs_cons (pg_name hN hj hy hf2) pgs_nil)))
theorem fg_three (i j k : Nat) {ψ1 : γ → α → γ1} {ψ2 : γ1 → β → γ2} {ψ3 : γ2 → δ → γ'} [P1 : Put G i α G1 ψ1] [P2 : Put G1 j β G2 ψ2] [P3 : Put G2 k δ G' ψ3] (hM : M i = true ∧ M j = true ∧ M k = true) (hN : X.N.Nodup) (hne : i ≠ j ∧ j ≠ k ∧ i ≠ k) (hc : X.calm = true := by rfl)
    (hi : X.N[i]? = some x := by rfl) (hx : Loc X.env.scope x := by first | exact Or.inl rfl | exact Or.inr rfl) (hj : X.N[j]? = some y := by rfl) (hy : Loc X.env.scope y := by first | exact Or.inl rfl | exact Or.inr rfl) (hk : X.N[k]? = some z := by rfl) (hz : Loc X.env.scope z := by first | exact Or.inl rfl | exact Or.inr rfl)
    (hf : X.fn x = true ∨ X.env.scope.names.lookup x = some .local := by first | exact .inl rfl | exact .inr rfl) (hf2 : X.fn y = true ∨ X.env.scope.names.lookup y = some .local := by first | exact .inl rfl | exact .inr rfl) (hf3 : X.fn z = true ∨ X.env.scope.names.lookup z = some .local := by first | exact .inl rfl | exact .inr rfl) :
    FG X M G (.Tuple [.Name x p1, .Name y p2, .Name z p3] kk p) G' [i, j, k] (fun g (a : T3 α β δ) => ψ3 (ψ2 (ψ1 g a.a) a.b) a.c) :=
  ⟨_, pg_tup (n := 3) hc (pgs_cons (pg_name hN hi hx hf) (pgs_cons (pg_name hN hj hy hf2) (pgs_cons (pg_name hN hk hz hf3) pgs_nil))), fun H0 F H σ g v a Q s q r kk => by
    obtain ⟨b, u1, u2, u3, rfl, h, r1, r2, r3⟩ := r
    refine ⟨b, [u1, u2, u3], rfl, Same.seqT s h, rfl, u1, [u2, u3], rfl, u2, [u3], rfl, u3, [], rfl, rfl, ?_⟩
    refine kk _ (((Ag.set hM.1).trans (Ag.set hM.2.1)).trans (Ag.set hM.2.2)) ?_ (P3.put (P2.put (P1.put q r1) r2) r3)
    show (((((σ.set i (some u1)).set j (some u2)).set k (some u3)).set k none).set j none).set i none = ((σ.set k none).set j none).set i none
    rw [List.set_set, List.set_comm _ _ (show k ≠ j from fun z => hne.2.1 z.symm), List.set_set, List.set_comm _ _ (show k ≠ i from fun z => hne.2.2 z.symm), List.set_comm _ _ (show j ≠ i from fun z => hne.1 z.symm), List.set_set, List.set_comm _ _ (show i ≠ j from hne.1), List.set_comm _ _ (show i ≠ k from hne.2.2), List.set_comm _ _ (show j ≠ k from hne.2.1)]⟩
end
end FL

/-! FL15: rules in the shapes that the printer of derivations uses. -/
namespace FL
open PySem L2
theorem takesF {X : Cx} : Takes X (fun _ _ _ _ => False) := fun u s' ⟨a, B, sI, pins, σ, H, cls, d, e, I, nb, up, sky, na, os, ag, w⟩ => w.elim
section
variable {X : Cx} {c : C1} {γ γ' γ1 γ2 α β : Type} {G : EnvT γ} {G' : EnvT γ'} {G1 : EnvT γ1} {G2 : EnvT γ2} {st : Stmt} {sts : List Stmt}
theorem fns_B {fa : γ → Xc α} {ψ : γ → α → γ1} {m2 : γ1 → Xc γ2} (h1 : FN X c G st G1 (fun g => (fa g).bind fun v => Xc.ok (ψ g v))) (h2 : FNs X c G1 sts G2 m2) : FNs X c G (st :: sts) G2 (fun g => (fa g).bind fun v => m2 (ψ g v)) :=
  FNs.cast (fns_cons h1 h2) fun g => by cases fa g <;> rfl
theorem fns_B2 {fa : γ → Xc α} {fb : γ → α → Xc β} {ψ : γ → α → β → γ1} {m2 : γ1 → Xc γ2} (h1 : FN X c G st G1 (fun g => (fa g).bind fun v => (fb g v).bind fun u => Xc.ok (ψ g v u))) (h2 : FNs X c G1 sts G2 m2) : FNs X c G (st :: sts) G2 (fun g => (fa g).bind fun v => (fb g v).bind fun u => m2 (ψ g v u)) :=
  FNs.cast (fns_cons h1 h2) fun g => by
    show (fa g).bind _ = ((fa g).bind _).bind _
    cases fa g with
    | ok v => show (fb g v).bind _ = ((fb g v).bind _).bind _; cases fb g v <;> rfl
    | er _ _ => rfl
    | no => rfl
theorem fns_B3 {δ : Type} {fa : γ → Xc α} {fb : γ → α → Xc β} {fd : γ → α → β → Xc δ} {ψ : γ → α → β → δ → γ1} {m2 : γ1 → Xc γ2} (h1 : FN X c G st G1 (fun g => (fa g).bind fun v => (fb g v).bind fun u => (fd g v u).bind fun z => Xc.ok (ψ g v u z))) (h2 : FNs X c G1 sts G2 m2) : FNs X c G (st :: sts) G2 (fun g => (fa g).bind fun v => (fb g v).bind fun u => (fd g v u).bind fun z => m2 (ψ g v u z)) :=
  FNs.cast (fns_cons h1 h2) fun g => by
    show (fa g).bind _ = ((fa g).bind _).bind _
    cases fa g with
    | ok v =>
      show (fb g v).bind _ = ((fb g v).bind _).bind _
      cases fb g v with
      | ok u => show (fd g v u).bind _ = ((fd g v u).bind _).bind _; cases fd g v u <;> rfl
      | er _ _ => rfl
      | no => rfl
    | er _ _ => rfl
    | no => rfl
end
section
variable {X : Cx} {τ ρ β γ γ' γ1 γ2 α δ ε γb : Type} {c : C2 τ ρ β} {G : EnvT γ} {G' : EnvT γ'} {G1 : EnvT γ1} {G2 : EnvT γ2} {Gb : EnvT γb} {st : Stmt} {sts : List Stmt} {tg iter : Expr} {body : List Stmt} {pos : Pos} {vs : List Nat} [Rp α]
theorem fs_B {α : Type} {fa : γ → Xc α} {ψ : γ → α → γ1} (h1 : FN X c.toC1 G st G1 (fun g => (fa g).bind fun v => Xc.ok (ψ g v))) : FS X c G st G1 (fun g k => (fa g).bind fun v => k (ψ g v)) :=
  FS.cast (fs_n h1) fun g k => by cases fa g <;> rfl
theorem fs_B2 {α : Type} {fa : γ → Xc α} {fb : γ → α → Xc δ} {ψ : γ → α → δ → γ1} (h1 : FN X c.toC1 G st G1 (fun g => (fa g).bind fun v => (fb g v).bind fun u => Xc.ok (ψ g v u))) : FS X c G st G1 (fun g k => (fa g).bind fun v => (fb g v).bind fun u => k (ψ g v u)) :=
  FS.cast (fs_n h1) fun g k => by
    show (fa g).bind _ = ((fa g).bind _).bind _
    cases fa g with
    | ok v => show (fb g v).bind _ = ((fb g v).bind _).bind _; cases fb g v <;> rfl
    | er _ _ => rfl
    | no => rfl
theorem fs_B3 {α : Type} {fa : γ → Xc α} {fb : γ → α → Xc δ} {fd : γ → α → δ → Xc ε} {ψ : γ → α → δ → ε → γ1} (h1 : FN X c.toC1 G st G1 (fun g => (fa g).bind fun v => (fb g v).bind fun u => (fd g v u).bind fun z => Xc.ok (ψ g v u z))) : FS X c G st G1 (fun g k => (fa g).bind fun v => (fb g v).bind fun u => (fd g v u).bind fun z => k (ψ g v u z)) :=
  FS.cast (fs_n h1) fun g k => by
    show (fa g).bind _ = ((fa g).bind _).bind _
    cases fa g with
    | ok v =>
      show (fb g v).bind _ = ((fb g v).bind _).bind _
      cases fb g v with
      | ok u => show (fd g v u).bind _ = ((fd g v u).bind _).bind _; cases fd g v u <;> rfl
      | er _ _ => rfl
      | no => rfl
    | er _ _ => rfl
    | no => rfl
/-- behind a loop -/
def forK {γ ρ τ : Type} (m : Xc (Sum γ ρ)) (rt : ρ → τ) (k : γ → Xc τ) : Xc τ := m.bind fun t => match t with
  | .inl g' => k g'
  | .inr r => Xc.ok (rt r)
theorem fs_forK {rt : ρ → τ} {ψ : γ → α → γb} {fl : γ → Xc (List α)} {fb : γb → (γ → Xc (Lp γ ρ)) → Xc (Lp γ ρ)} (po : PassesOwn (model X.prog X.w) X.A X.env X.xe) (hi : FI X c.toC0 G tg iter fl) (hg : FG X c.M G tg Gb vs ψ) (hb : FSs X (cL c G) Gb body G fb)
    (hO : ∀ r P B C, P r → c.O.sem (rt r) P B C := by intro _ _ _ _ h; exact h) (hR' : ∀ r P B C, c.O.sem (rt r) P B C → P r := by intro _ _ _ _ h; exact h) (hc : X.calm = true := by rfl) (hs : ∀ x, foldedSetIterable iter X.env x = pure x := by intro _; rfl) :
    FS X c G (.For tg iter body [] pos) G (fun g k => (fl g).bind fun l => forK (forX (fun g a => fb (ψ g a) fun g' => Xc.ok (Lp.ct g')) l g) rt k) :=
  FS.cast (fs_for po hi hg hb hO hR' hc hs) fun g k => by
    cases fl g with
    | ok l => show forK _ _ _ = Xc.bind (forX _ _ _) _; unfold forK; congr 1
    | er _ _ => rfl
    | no => rfl
end
section
variable {X : Cx} {γ γb γw α β : Type} {G : EnvT γ} {Gw : EnvT γw} {Gb : EnvT γb} [Rp α] [Rp β] {tg iter elt : Expr} {ifs : List Expr} {pos : Pos} {vs : List Nat} {scope : Scope} {own : List (Str × Nat)}
theorem fn_setLcF {c : C1} {γ' : Type} {G' : EnvT γ'} (k : Nat) {y : Str} {py spos : Pos} {ψ' : γ → List β → γ'} [P : Put G k (List β) G' ψ'] {ψ : γw → α → γb} {h : γ → γw} {fl : γ → Xc (List α)} {ft : γb → Xc Bool} {f : γb → Xc β} [W : Wip G vs Gw h] (hvs : own.map (·.2) = vs) (hM : c.M k = true) (ok : BlkOk X.N X.env.scope scope own) (hN : X.N.Nodup) (hi : FI X c.toC0 G tg iter fl) (hg : FGB X scope Gw tg Gb vs ψ)
    (ht : FTs X scope (cB c.toC0) Gb ifs ft) (he : ∀ (s : Shared) (H : Hp) (C : Addr) (cl : List (Str × Addr)) (fp : List Addr), FE (X.blk s H scope (compEnvC scope cl C X.env) fp) (cB c.toC0) Gb elt f) (hy : X.N[k]? = some y := by rfl) (hyl : X.env.scope.names.lookup y = some .local := by rfl)
    (hsw : swapsWith (.ListComp elt [⟨tg, iter, ifs, 0⟩] scope pos) (some (.Name y py)) spos.line X.env = pure true := by exact sw_true rfl rfl rfl rfl) (hc : X.calm = true := by rfl) (hs : ∀ x, foldedSetIterable iter X.env x = pure x := by intro _; rfl) :
    FN X c G (.Assign [.Name y py] (.ListComp elt [⟨tg, iter, ifs, 0⟩] scope pos) spos) G' (fun g => ((fl g).bind fun l => compX (fun a => ft (ψ (h g) a)) (fun a => f (ψ (h g) a)) l).bind fun v => Xc.ok (ψ' g v)) := by
  subst hvs
  obtain ⟨t, pg, ht'⟩ := hg
  exact fn_setL k hM (fun σ H Q p => tO_lc (W := W) ht' p) (ps_setLc (te := tF X.K (cB c.toC0) Gb f) hc hN hy hyl hsw hi ok pg ht he hs)
end
/-! the end of a block -/
section
variable {X : Cx} {γ γ' : Type} {G : EnvT γ} {G' : EnvT γ'} {h : γ → γ'}
theorem fns_nilS {c : C1} [S : Sub G G' h] : FNs X c G [] G' (fun g => Xc.ok (h g)) := PSs.imp pss_nil fun D σ H ⟨F, g, w, q, p⟩ => p σ F H (Ws.refl w) Ag.refl (S.sub q)
theorem fss_nilS {τ ρ β : Type} {c : C2 τ ρ β} [S : Sub G G' h] : FSs X c G [] G' (fun g k => k (h g)) := PSs.imp pss_nil fun D σ H ⟨F, g, k, w, q, d, n⟩ => n (h g) σ F H (Ws.refl w) Ag.refl (S.sub q) d
end
/-! a def that comes to its end: None -/
section
variable {P : Program} {w : World} {K : PySem.W.Frag} {mg : Str → Option Value} {base : Heap} {αs ρ γ γ' : Type} [Rps αs] {G : EnvT γ} {G' : EnvT γ'} {h : αs → γ}
theorem fn_defU {x qual : Str} {params : Arguments} {body : List Stmt} {scope : Scope} {dvs : List V} {kws : List (Str × V)} {f : Addr} {fd : FuncData} {N ps : List Str} {k n pn : Nat} {m : αs → Xc Unit} {fm : γ → (γ' → Xc Unit) → Xc Unit}
    (Fd : FunD K x qual params body scope dvs kws f fd) (S : FnScope N ps scope) [RN : RpsN αs pn] (hpn : ps.length = pn) [ET : EntryT αs n G h] (hn : N.length = pn + n)
    (hb : ∀ (cdv : Value) (A : Around) (outer : List Env) (s : Shared) (F H : Hp) (E : XK), Room k (A.deeper (PyProof.Rows.envOfC qual scope s.heap.objs.size f cdv)) → 
      Takes (cxOf (L2.CX P w) P w K mg base N qual scope f cdv A outer s H E) (cD Unit (rtF Unit) F H E).W →
      FSs (cxOf (L2.CX P w) P w K mg base N qual scope f cdv A outer s H E) (cD Unit (rtF Unit) F H E) G body G' fm)
    (hm : ∀ as, m as = fm (h as) fun _ => .ok ()) : FnOk P w K mg base (L2.CX P w) (k + 1) f fd ps (spF K (rtF Unit) m) := by
  refine Fd.ok S (fun vs H Q E ⟨F, as, _, r, _⟩ => by rw [hpn]; exact RN.len r) fun cdv A outer s H vs Q E hr ⟨F, as, sm, r, p⟩ => ?_
  refine ⟨_, hb cdv A outer s F H E hr (takes_of rfl rfl rfl rfl), F, h as, fun _ => .ok (), Wd.refl sm, ?_, ?_, fun g' σ' F' H' w1 _ _ d => ?_⟩
  · unfold L2.start
    have e : N.length - vs.length = n := by rw [RN.len r, hn]; omega
    rw [e]
    exact ET.st r (Nat.le_refl _)
  · rw [hm as] at p
    revert p
    cases fm (h as) (fun _ => .ok ()) with
    | ok t => exact fun p v F' H' w1 rr => p v F' H' w1.w rr
    | er cc fs => exact fun p σ' F' H' w1 _ => ErP.on p w1.w
    | no => exact fun p => p
  · have d : ∀ v F2 H2, Ws (cD Unit (rtF Unit) F H E).toC0 F' F2 H2 → (rtF Unit).rr K H F2 H2 v () → Q v H2 := d
    exact d .non F' H' (Ws.refl w1.w) rfl
end
end FL

namespace FL
open PySem L2
instance {ρ : Type} {R : Rt ρ} {F H : Hp} {E : XK} {i : Nat} : Wi1 (cD ρ R F H E).GB i (cD ρ R F H E).GB (fun g => g) := (inferInstance : Wi1 nl i nl fun g => g)
theorem bind_ok' {α β : Type} (a : α) (k : α → Xc β) : Xc.bind (.ok a) k = k a := Eq.trans (Eq.refl _) (Eq.refl _)
def catch1 (x : Str) : Str → Option Bool := fun cc => if cc = x then some true else none
theorem catch1_eq {x cc : Str} (h : catch1 x cc = some true) : x = cc := by
  unfold catch1 at h
  by_cases e : cc = x
  · exact e.symm
  · rw [if_neg e] at h; cases h
theorem catch1_ok {K : PySem.W.Frag} {x : Str} {cv : Value} (h : PySem.W.exmOne K (.ref (He.ga K x)) cv = some true) : ∀ cc b, catch1 x cc = some b → PySem.W.exmOne K (.ref (He.ga K cc)) cv = some b := by
  intro cc b e
  unfold catch1 at e
  by_cases e2 : cc = x
  · rw [if_pos e2] at e; cases e; subst e2; exact h
  · rw [if_neg e2] at e; cases e
end FL

/-! FL17: the end of a law. -/
namespace FL
open PySem L2
theorem walk_w {l : PySem.W.OpenLaw} {n k : Nat} {q : Program} {loose : List Str} {XP : (Str → Option Value) → Heap → Prop} {YP : World → Heap → Prop} {d : DefRec} {x : Str} (hn : l.most = some n) (hn2 : n ≤ sizeLine) (hdf : d.params.defaults = []) (hr : Room k callerA)
    {m : List Int × Unit → Xc Bool} (hm : ∀ ns : List Int, ns.length ≤ n → m (ns, ()) = .ok true)
    (F : ∀ (w : World) (mg : Str → Option Value) (fa : Addr) (h : Heap), YP w h → h.Ns mainGlobals mg → mg d.name = some (.ref fa) → ∃ (K : PySem.W.Frag) (fd : FuncData), K.In h ∧ (∀ (s : Shared) (u : Value), BindsTo s fd ⟨[u], []⟩ [(x, u)]) ∧
      ∀ base : Heap, K.In base → base.Ns mainGlobals mg → FnOk l.prog w K mg base (L2.CX l.prog w) k fa fd [x] (spF K (rtF Bool) m)) :
    PySem.W.WalkO q loose XP YP l.row.toRowW d [] (fun f vs => PySem.call f vs) := by
  refine Att.attach_call hn hdf fun w s₀ s₁ mg mb fa o pm cd doc a vs ns G Y ho hd hcd hmg hobj hints hlen hg => ?_
  obtain ⟨K, fd, KX, hb, hF⟩ := F w mg fa _ Y G.T.g hmg
  refine law_call KX G.T.g G.T.b G.T.builtins G.T.nolimit hg hobj hints (Nat.le_trans hlen hn2) hr hF hb (fun H hO hS => ?_) fun H e s' ⟨a, B, H', cls, d, e1, _, _, _, _, _, _, z⟩ => z
  refine ⟨H, (ns, ()), Same.refl _, ⟨.ref a, [], rfl, ⟨a, ns.map V.int, rfl, hS, Nat.le_trans hlen hn2, ?_⟩, rfl⟩, ?_⟩
  · clear hints hlen hS
    induction ns with
    | nil => exact .nil
    | cons i ns ih => exact .cons rfl ih
  · rw [hm ns hlen]
    intro v F' H' w1 r
    have r : v = .bl true := r
    exact r
/-- a def by its name, from the head's facts -/
theorem dk_of {P : Program} {w : World} {K : PySem.W.Frag} {mg : Str → Option Value} {base : Heap} {x qual : Str} {params : Arguments} {body : List Stmt} {scope : Scope} {fd : FuncData} {ps : List Str} {k : Nat} {sp : Sp}
    (F : FunD K x qual params body scope [] [] (He.ga K x) fd) (g : mg x = some (.ref (He.ga K x))) (b : Binds K fd ps []) (h : FnOk P w K mg base (L2.CX P w) k (He.ga K x) fd ps sp) : Dk P w K mg base x ps k sp := ⟨⟨fd, h, b⟩, g, F.kp⟩
theorem mg_fact {K : PySem.W.Frag} {h : Heap} {mg : Str → Option Value} {x : Str} {v : Value} (X : K.In h) (G : h.Ns mainGlobals mg) (e : He.eqO (PySem.W.nsIn K mainGlobals x) (some (some v)) = true) : mg x = some v := PySem.W.mg_of X G (He.eqO_ok e)
def excCB (K : PySem.W.Frag) (D : Addr) : Bool := decide (PySem.W.findIn K (.ref D) "__getattribute__" = some (some (.builtin "BaseException.__getattribute__"))) && (decide (PySem.W.findIn K (.ref D) "__getattr__" = some none) && (decide (PySem.W.subIn K (.ref D) (.type "BaseException") = some true) && (PySem.W.hasDictIn K D &&
  (decide (PySem.W.findIn K (.ref D) "__class__" = some (some (.builtin "object.__class__"))) && (decide (PySem.W.specialIn K (.builtin "object.__class__") "__get__" = some (some (.builtin "getset_descriptor.__get__"))) && (decide (PySem.W.takesIn K (.builtin "object.__class__") = some true) && decide (PySem.W.mroIn K D (.type "object") = some true)))))))
theorem excCB_ok {K : PySem.W.Frag} {D : Addr} (h : excCB K D = true) : ExcC K D := by
  unfold excCB at h
  obtain ⟨h1, h⟩ := He.ba h
  obtain ⟨h2, h⟩ := He.ba h
  obtain ⟨h3, h⟩ := He.ba h
  obtain ⟨h4, h⟩ := He.ba h
  obtain ⟨h5, h⟩ := He.ba h
  obtain ⟨h6, h⟩ := He.ba h
  obtain ⟨h7, h8⟩ := He.ba h
  exact ⟨of_decide_eq_true h1, of_decide_eq_true h2, of_decide_eq_true h3, h4, of_decide_eq_true h5, of_decide_eq_true h6, of_decide_eq_true h7, of_decide_eq_true h8⟩
end FL

/-! FL18: lcm, tuple(..), zip, sums of lists and tuples, repeats. -/
namespace FL
open PySem L2
section
variable {X : Cx} {c : C0} {γ α β ρ : Type} {G : EnvT γ} [Rp α] [Rp β] [Rp ρ] {a b d e tg : Expr} {pos p p2 : Pos}
def rLcm : List V → Hp → VK → Prop := fun vs H Q => ∃ i j : Int, vs = [.int i, .int j] ∧ i.natAbs < 2 ^ 64 ∧ j.natAbs < 2 ^ 64 ∧ Q (.int ((Nat.lcm i.natAbs j.natAbs : Nat) : Int)) H
theorem cr_lcm : CallR X (.builtin "math.lcm") rLcm := by
  intro pins s σ H vs us Q I r h
  obtain ⟨i, j, rfl, h1, h2, q⟩ := h
  obtain ⟨t, u, rfl⟩ := Vals.int2 r
  exact PySem.W.mc_lcm h1 h2 fun _ => ⟨.int _, H, I.tok _, ⟨_, rfl⟩, q⟩
@[irreducible] def lcmX (i j : Int) : Xc Int := if i.natAbs < 2 ^ 64 ∧ j.natAbs < 2 ^ 64 then .ok ((Nat.lcm i.natAbs j.natAbs : Nat) : Int) else .no
theorem fe_lcm {fa fb : γ → Xc Int} (ha : FE X c G a fa) (hb : FE X c G b fb) (hm : X.mg "lcm" = some (.builtin "math.lcm")) (hg : Gl X "lcm" := by rfl) (hs : starEach [a, b] X.env = (false, eval a X.env) :: starEach [b] X.env := by rfl) (hs2 : starEach [b] X.env = (false, eval b X.env) :: starEach [] X.env := by rfl)
    (hpl : (backTo pos (starEach [b] X.env)).any (·.1) = false := by rfl) : FE X c G (.Call (.Name "lcm" p) [a, b] [] pos) (fun g => (fa g).bind fun i => (fb g).bind fun j => lcmX i j) :=
  call2 (fun h => pe_callBfun cr_lcm hg hm h (he := hs) (hpl := hpl)) ha hb hs hs2 fun {F H v u i j Q E} s r1 r2 p => by
    have r1 : v = .int i := r1
    have r2 : u = .int j := r2
    subst r1 r2
    unfold lcmX at p
    by_cases h : i.natAbs < 2 ^ 64 ∧ j.natAbs < 2 ^ 64
    · rw [if_pos h] at p; exact ⟨i, j, rfl, h.1, h.2, p.ret s rfl⟩
    · rw [if_neg h] at p; exact p.elim
/-! tuple(..) -/
theorem fe_tupL {fa : γ → Xc (List α)} (ha : FE X c G a fa) (hm : X.mg "tuple" = none) (hg : Gl X "tuple" := by rfl) (hs : starEach [a] X.env = (false, eval a X.env) :: starEach [] X.env := by rfl) :
    FE X c G (.Call (.Name "tuple" p) [a] [] pos) (fun g => (fa g).bind fun l => Xc.ok (tu l)) :=
  PE.imp (pe_callTy call_tuple_of hg hm (by decide +kernel) (pa_cons ha pa_nil hs) (he := hs)) fun σ H Q ⟨F, g, w, q, h⟩ => by
    refine ⟨F, g, w, q, ?_⟩
    cases e1 : fa g with
    | ok l =>
      simp only [e1] at h
      rintro v F1 H1 w1 ⟨b, xs, rfl, hx, hz, r⟩
      refine ⟨b, xs, rfl, .inl ⟨Same.seq w1.s hx, fun t ht => ?_⟩⟩
      have w2 := Wd.new (o := .tup xs) w1.s ht
      exact h (.ref t) _ _ (w1.trans w2) ⟨t, xs, rfl, SqT.of upd_same, hz, r.mono w2.f⟩
    | er c' fs => simp only [e1] at h; exact h
    | no => simp only [e1] at h; exact h
theorem fe_tupT {fa : γ → Xc (Tu α)} (ha : FE X c G a fa) (hm : X.mg "tuple" = none) (hg : Gl X "tuple" := by rfl) (hs : starEach [a] X.env = (false, eval a X.env) :: starEach [] X.env := by rfl) :
    FE X c G (.Call (.Name "tuple" p) [a] [] pos) (fun g => (fa g).bind fun l => Xc.ok l) :=
  PE.imp (pe_callTy call_tuple_of hg hm (by decide +kernel) (pa_cons ha pa_nil hs) (he := hs)) fun σ H Q ⟨F, g, w, q, h⟩ => by
    refine ⟨F, g, w, q, ?_⟩
    cases e1 : fa g with
    | ok l =>
      simp only [e1] at h
      rintro v F1 H1 w1 ⟨b, xs, rfl, hx, hz, r⟩
      exact ⟨b, xs, rfl, .inr ⟨Same.seqT w1.s hx, h (.ref b) F1 H1 w1 ⟨b, xs, rfl, hx, hz, r⟩⟩⟩
    | er c' fs => simp only [e1] at h; exact h
    | no => simp only [e1] at h; exact h
/-! zip -/
theorem zip_get {l : List α} {m : List β} {i : Nat} {t : α × β} (h : (l.zip m)[i]? = some t) : l[i]? = some t.1 ∧ m[i]? = some t.2 := by
  rw [List.getElem?_zip_eq_some] at h
  exact h
theorem fi_zipL {f1 : γ → Xc (List α)} {f2 : γ → Xc (List β)} {elts : List Expr} {kk : Nat} {tpos : Pos} (h1 : FE X c G a f1) (h2 : FE X c G b f2) (hm : X.mg "zip" = none) (hg : Gl X "zip" := by rfl) (hs : starEach [a, b] X.env = (false, eval a X.env) :: starEach [b] X.env := by rfl)
    (hs2 : starEach [b] X.env = (false, eval b X.env) :: starEach [] X.env := by rfl) (hpl : (backTo pos (starEach [b] X.env)).any (·.1) = false := by rfl) : FI X c G (.Tuple elts kk tpos) (.Call (.Name "zip" p) [a, b] [] pos) (fun g => (f1 g).bind fun l => (f2 g).bind fun m => Xc.ok (l.zip m)) :=
  PI.imp (RZ.pi_zipA hg hm (pa_cons h1 (pa_cons h2 pa_nil hs2) hs) hs hpl) fun σ H R ⟨F, g, w, q, p⟩ => by
    refine ⟨F, g, w, q, ?_⟩
    cases e1 : f1 g with
    | ok l =>
      rintro v F1 H1 w1 ⟨a1, xs, rfl, hx, hz, rx⟩
      simp only [e1] at p
      have p : PoI X.K F H R (WE c.W σ) ((f2 g).bind fun m => Xc.ok (l.zip m)) := p
      refine ⟨F1, g, w.trans w1, G.mono q w1, ?_⟩
      cases e2 : f2 g with
      | ok m =>
        rintro u F2 H2 w2 ⟨a2, ys, rfl, hy, hz2, ry⟩
        simp only [e2] at p
        have p : PoI X.K F H R (WE c.W σ) (.ok (l.zip m)) := p
        have hx2 : SqL X.K F2 a1 xs := Same.seq w2.f hx
        have rx2 := rx.mono w2.f
        have lz : (l.zip m).length = min l.length m.length := List.length_zip
        refine ⟨a1, a2, xs, ys, rfl, .inl ⟨Same.seq w2.s hx2, Same.seq w2.s hy, p _ F2 H2 (w1.trans w2) ⟨by rw [lz]; omega, fun F' H' s1 s2 => ⟨xs, ys, Same.seq (s1.trans s2) hx2, Same.seq (s1.trans s2) hy, ?_⟩, fun i F' H' hi s1 s2 => ?_, fun i t F' H' x H'' e3 s1 s2 y => ?_⟩⟩⟩
        · rw [lz, rx.len, ry.len]; omega
        · rw [lz] at hi
          obtain ⟨vx, h3, _⟩ := rx.get' (List.getElem?_eq_getElem (show i < l.length by omega))
          obtain ⟨vy, h4, _⟩ := ry.get' (List.getElem?_eq_getElem (show i < m.length by omega))
          exact ⟨xs, ys, vx, vy, Same.seq (s1.trans s2) hx2, Same.seq (s1.trans s2) hy, h3, h4⟩
        · obtain ⟨T, vx, vy, rfl, hT, rfl, y1, y2⟩ := y
          obtain ⟨g1, g2⟩ := zip_get e3
          obtain ⟨vx', h3, r3⟩ := rx2.get' g1
          obtain ⟨vy', h4, r4⟩ := ry.get' g2
          have k1 := y1 xs (Same.seq (s1.trans s2) hx2)
          have k2 := y2 ys (Same.seq (s1.trans s2) hy)
          rw [h3] at k1
          rw [h4] at k2
          cases k1
          cases k2
          have w3 := Wd.new (o := .tup [vx, vy]) s2 hT
          exact ⟨_, w3, T, vx, vy, rfl, SqT.of upd_same, Rp.mono (s1.trans w3.f) r3, Rp.mono (s1.trans w3.f) r4⟩
      | er c' fs => simp only [e2] at p; exact ErP.on (show ErP X.K F H (WE c.W σ) c' fs from p) w1
      | no => simp only [e2] at p; exact p
    | er c' fs => simp only [e1] at p; exact p
    | no => simp only [e1] at p; exact p
theorem fi_zipT {f1 : γ → Xc (Tu α)} {f2 : γ → Xc (Tu β)} {elts : List Expr} {kk : Nat} {tpos : Pos} (h1 : FE X c G a f1) (h2 : FE X c G b f2) (hm : X.mg "zip" = none) (hg : Gl X "zip" := by rfl) (hs : starEach [a, b] X.env = (false, eval a X.env) :: starEach [b] X.env := by rfl)
    (hs2 : starEach [b] X.env = (false, eval b X.env) :: starEach [] X.env := by rfl) (hpl : (backTo pos (starEach [b] X.env)).any (·.1) = false := by rfl) : FI X c G (.Tuple elts kk tpos) (.Call (.Name "zip" p) [a, b] [] pos) (fun g => (f1 g).bind fun l => (f2 g).bind fun m => Xc.ok (l.l.zip m.l)) :=
  PI.imp (RZ.pi_zipA hg hm (pa_cons h1 (pa_cons h2 pa_nil hs2) hs) hs hpl) fun σ H R ⟨F, g, w, q, p⟩ => by
    refine ⟨F, g, w, q, ?_⟩
    cases e1 : f1 g with
    | ok l =>
      rintro v F1 H1 w1 ⟨a1, xs, rfl, hx, hz, rx⟩
      simp only [e1] at p
      have p : PoI X.K F H R (WE c.W σ) ((f2 g).bind fun m => Xc.ok (l.l.zip m.l)) := p
      refine ⟨F1, g, w.trans w1, G.mono q w1, ?_⟩
      cases e2 : f2 g with
      | ok m =>
        rintro u F2 H2 w2 ⟨a2, ys, rfl, hy, hz2, ry⟩
        simp only [e2] at p
        have p : PoI X.K F H R (WE c.W σ) (.ok (l.l.zip m.l)) := p
        have hx2 : SqT X.K F2 a1 xs := Same.seqT w2.f hx
        have rx2 := rx.mono w2.f
        have lz : (l.l.zip m.l).length = min l.l.length m.l.length := List.length_zip
        refine ⟨a1, a2, xs, ys, rfl, .inr ⟨Same.seqT w2.s hx2, Same.seqT w2.s hy, p _ F2 H2 (w1.trans w2) ⟨by rw [lz]; omega, fun F' H' s1 s2 => ⟨xs, ys, Same.seqT (s1.trans s2) hx2, Same.seqT (s1.trans s2) hy, ?_⟩, fun i F' H' hi s1 s2 => ?_, fun i t F' H' x H'' e3 s1 s2 y => ?_⟩⟩⟩
        · rw [lz, rx.len, ry.len]; omega
        · rw [lz] at hi
          obtain ⟨vx, h3, _⟩ := rx.get' (List.getElem?_eq_getElem (show i < l.l.length by omega))
          obtain ⟨vy, h4, _⟩ := ry.get' (List.getElem?_eq_getElem (show i < m.l.length by omega))
          exact ⟨xs, ys, vx, vy, Same.seqT (s1.trans s2) hx2, Same.seqT (s1.trans s2) hy, h3, h4⟩
        · obtain ⟨T, vx, vy, rfl, hT, rfl, y1, y2⟩ := y
          obtain ⟨g1, g2⟩ := zip_get e3
          obtain ⟨vx', h3, r3⟩ := rx2.get' g1
          obtain ⟨vy', h4, r4⟩ := ry.get' g2
          have k1 := y1 xs (Same.seqT (s1.trans s2) hx2)
          have k2 := y2 ys (Same.seqT (s1.trans s2) hy)
          rw [h3] at k1
          rw [h4] at k2
          cases k1
          cases k2
          have w3 := Wd.new (o := .tup [vx, vy]) s2 hT
          exact ⟨_, w3, T, vx, vy, rfl, SqT.of upd_same, Rp.mono (s1.trans w3.f) r3, Rp.mono (s1.trans w3.f) r4⟩
      | er c' fs => simp only [e2] at p; exact ErP.on (show ErP X.K F H (WE c.W σ) c' fs from p) w1
      | no => simp only [e2] at p; exact p
    | er c' fs => simp only [e1] at p; exact p
    | no => simp only [e1] at p; exact p
/-! sums of tuples -/
@[irreducible] def catU {α : Type} (x y : Tu α) : Xc (Tu α) := if x.l.length + y.l.length ≤ sizeLine then .ok (tu (x.l ++ y.l)) else .no
theorem fe_catU {fa fb : γ → Xc (Tu α)} (ha : FE X c G a fa) (hb : FE X c G b fb) : FE X c G (.BinOp a .Add b pos) (fun g => (fa g).bind fun i => (fb g).bind fun j => catU i j) :=
  two (fun h1 h2 => pe_op op_catA h1 h2) ha hb fun {F H x y i j Q E} s r1 r2 p => by
    unfold catU at p
    by_cases h : i.l.length + j.l.length ≤ sizeLine
    · rw [if_pos h] at p
      obtain ⟨a1, xs, rfl, hx, hz, rx⟩ := r1
      obtain ⟨a2, ys, rfl, hy, hz2, ry⟩ := r2
      have lx := rx.len
      have ly := ry.len
      refine ⟨a1, a2, xs, ys, rfl, rfl, Same.seqT s hx, Same.seqT s hy, by omega, fun e => ?_, fun e1 e2 => ?_, fun e1 e2 t ht => ?_⟩
      · have : i.l = [] := by cases q : i.l with
          | nil => rfl
          | cons _ _ => rw [q, e] at lx; cases lx
        exact p.ret s ⟨a2, ys, rfl, hy, by show (i.l ++ j.l).length ≤ _; rw [this]; exact hz2, by show Al _ _ _ (i.l ++ j.l); rw [this]; exact ry⟩
      · have : j.l = [] := by cases q : j.l with
          | nil => rfl
          | cons _ _ => rw [q, e2] at ly; cases ly
        exact p.ret s ⟨a1, xs, rfl, hx, by show (i.l ++ j.l).length ≤ _; rw [this, List.append_nil]; exact hz, by show Al _ _ _ (i.l ++ j.l); rw [this, List.append_nil]; exact rx⟩
      · have w2 := Wd.new (o := .tup (xs ++ ys)) s ht
        exact p (.ref t) _ _ w2 ⟨t, _, rfl, SqT.of upd_same, by show (i.l ++ j.l).length ≤ _; rw [List.length_append]; exact h, (rx.app ry).mono w2.f⟩
    · rw [if_neg h] at p; exact p.elim
end
end FL

/-! FL19: sums and repeats of new lists, slices as new lists, targets of two names in a block. -/
namespace FL
open PySem L2
section
variable {X : Cx} {c : C0} {γ α β ρ : Type} {G : EnvT γ} [Rp α] [Rp β] [Rp ρ] {a b d e tg : Expr} {pos p p2 : Pos} {lo hi : Option Expr}
@[irreducible] def catL {α : Type} (x y : List α) : Xc (List α) := if x.length + y.length ≤ sizeLine then .ok (x ++ y) else .no
theorem fo_cat {fa fb : γ → Xc (List α)} (ha : FO X c G a fa) (hb : FO X c G b fb) : FO X c G (.BinOp a .Add b pos) (fun g => (fa g).bind fun i => (fb g).bind fun j => catL i j) :=
  PE.imp (pe_op op_cat ha hb) fun σ H Q ⟨F, g, w, q, h⟩ => by
    refine ⟨F, g, w, q, ?_⟩
    cases e1 : fa g with
    | ok l =>
      intro p1 xs F1 H1 w1 n1 f1 h1 z1 r1
      simp only [e1] at h
      have h : PoO X.K F H Q (WE c.W σ) ((fb g).bind fun j => catL l j) := h
      refine ⟨F1, g, w.trans w1, G.mono q w1, ?_⟩
      cases e2 : fb g with
      | ok m =>
        intro p2 ys F2 H2 w2 n2 f2 h2 z2 r2
        simp only [e2] at h
        have h : PoO X.K F H Q (WE c.W σ) (catL l m) := h
        unfold catL at h
        by_cases hz : l.length + m.length ≤ sizeLine
        · rw [if_pos hz] at h
          have lx := r1.len
          have ly := r2.len
          refine ⟨p1, p2, xs, ys, rfl, rfl, w2.h _ _ h1, h2, by omega, fun t ht => ?_⟩
          exact h t (xs ++ ys) F2 _ ((w1.trans w2).trans (Wd.newO w2.s ht)) ((w1.trans w2).h.free ht) (w2.s.free ht) upd_same (by rw [List.length_append]; exact hz) ((r1.mono w2.f).app r2)
        · rw [if_neg hz] at h; exact h.elim
      | er c' fs => simp only [e2] at h; exact ErP.on (show ErP X.K F H (WE c.W σ) c' fs from h) w1
      | no => simp only [e2] at h; exact h
    | er c' fs => simp only [e1] at h; exact h
    | no => simp only [e1] at h; exact h
def repL {α : Type} (l : List α) (k : Int) : List α := (List.replicate k.toNat l).flatten
@[irreducible] def repX {α : Type} (l : List α) (k : Int) : Xc (List α) := if -(2 ^ 63) ≤ k ∧ k < 2 ^ 63 ∧ l.length * k.toNat ≤ sizeLine then .ok (repL l k) else .no
theorem al_flat {K : PySem.W.Frag} {F : Hp} {xs : List V} {l : List α} (r : Al K F xs l) : ∀ n : Nat, Al K F (List.replicate n xs).flatten (List.replicate n l).flatten
  | 0 => .nil
  | n + 1 => by
    rw [List.replicate_succ, List.replicate_succ, List.flatten_cons, List.flatten_cons]
    exact r.app (al_flat r n)
theorem repL_len (l : List α) (k : Int) : (repL l k).length = l.length * k.toNat := by
  unfold repL
  rw [List.length_flatten, List.map_replicate, List.sum_replicate_nat, Nat.mul_comm]
theorem fo_rep {fa : γ → Xc (List α)} {fb : γ → Xc Int} (ha : FO X c G a fa) (hb : FE X c G b fb) : FO X c G (.BinOp a .Mult b pos) (fun g => (fa g).bind fun i => (fb g).bind fun j => repX i j) :=
  PE.imp (pe_op op_rep ha hb) fun σ H Q ⟨F, g, w, q, h⟩ => by
    refine ⟨F, g, w, q, ?_⟩
    cases e1 : fa g with
    | ok l =>
      intro p1 xs F1 H1 w1 n1 f1 h1 z1 r1
      simp only [e1] at h
      have h : PoO X.K F H Q (WE c.W σ) ((fb g).bind fun j => repX l j) := h
      refine ⟨F1, g, w.trans w1, G.mono q w1, ?_⟩
      cases e2 : fb g with
      | ok k =>
        intro u F2 H2 w2 r2
        simp only [e2] at h
        have h : PoO X.K F H Q (WE c.W σ) (repX l k) := h
        unfold repX at h
        by_cases hz : -(2 ^ 63) ≤ k ∧ k < 2 ^ 63 ∧ l.length * k.toNat ≤ sizeLine
        · rw [if_pos hz] at h
          refine ⟨p1, k, xs, rfl, r2, w2.h _ _ h1, hz.1, hz.2.1, by rw [r1.len]; exact hz.2.2, fun t ht => ?_⟩
          exact h t _ F2 _ ((w1.trans w2).trans (Wd.newO w2.s ht)) ((w1.trans w2).h.free ht) (w2.s.free ht) upd_same (by rw [repL_len]; exact hz.2.2) (al_flat (r1.mono w2.f) _)
        · rw [if_neg hz] at h; exact h.elim
      | er c' fs => simp only [e2] at h; exact ErP.on (show ErP X.K F H (WE c.W σ) c' fs from h) w1
      | no => simp only [e2] at h; exact h
    | er c' fs => simp only [e1] at h; exact h
    | no => simp only [e1] at h; exact h
/-- a slice of a list is new -/
theorem fo_slL {f : γ → Xc (List α)} {fl fh : γ → Xc (Option Int)} (ha : FE X c G a f) (hl : FP X c G lo fl) (hu : FP X c G hi fh) :
    FO X c G (.Subscript a (.Slice lo hi none p2) pos) (fun g => (f g).bind fun i => (fl g).bind fun l => (fh g).bind fun u => Xc.ok (cutL i l u)) :=
  PE.imp (pe_slice sl_list ha hl hu) fun σ H Q ⟨F, g, w, q, p⟩ => by
    refine ⟨F, g, w, q, ?_⟩
    cases e1 : f g with
    | ok i =>
      rintro v F1 H1 w1 ⟨b, xs, rfl, hx, hz, r⟩
      simp only [e1] at p
      have p : PoO X.K F H Q (WE c.W σ) ((fl g).bind fun l => (fh g).bind fun u => Xc.ok (cutL i l u)) := p
      refine ⟨F1, g, w.trans w1, G.mono q w1, ?_⟩
      cases e2 : fl g with
      | ok l =>
        intro F2 H2 w2
        simp only [e2] at p
        have p : PoO X.K F H Q (WE c.W σ) ((fh g).bind fun u => Xc.ok (cutL i l u)) := p
        refine ⟨F2, g, (w.trans w1).trans w2, G.mono (G.mono q w1) w2, ?_⟩
        cases e3 : fh g with
        | ok u =>
          intro F3 H3 w3
          simp only [e3] at p
          have p : PoO X.K F H Q (WE c.W σ) (.ok (cutL i l u)) := p
          have w4 := (w1.trans w2).trans w3
          refine ⟨b, xs, rfl, Same.seq (((w2.trans w3).f).trans w3.s) hx, fun k hk => ?_⟩
          exact p k _ F3 _ (w4.trans (Wd.newO w3.s hk)) (w4.h.free hk) (w3.s.free hk) upd_same (Nat.le_trans (cutL_len _ _ _) hz) (cutL_al ((r.mono w2.f).mono w3.f))
        | er c' fs => simp only [e3] at p; exact ErP.on (show ErP X.K F H (WE c.W σ) c' fs from p) (w1.trans w2)
        | no => simp only [e3] at p; exact p
      | er c' fs => simp only [e2] at p; exact ErP.on (show ErP X.K F H (WE c.W σ) c' fs from p) w1
      | no => simp only [e2] at p; exact p
    | er c' fs => simp only [e1] at p; exact p
    | no => simp only [e1] at p; exact p
end
section
variable {X : Cx} {γ γ1 γb α β : Type} {G : EnvT γ} {G1 : EnvT γ1} {Gb : EnvT γb} [Rp α] [Rp β] {scope : Scope} {kk : Nat} {p p1 p2 : Pos} {x y : Str}
theorem fgb_two (i j : Nat) {ψ1 : γ → α → γ1} {ψ2 : γ1 → β → γb} [P1 : Put G i α G1 ψ1] [P2 : Put G1 j β Gb ψ2] (hN : X.N.Nodup) (hc : X.calm = true := by rfl) (hi : X.N[i]? = some x := by rfl) (hj : X.N[j]? = some y := by rfl)
    (hxe : ∀ C cl, Loc (compEnvC scope cl C X.env).scope x := by intro _ _; first | exact Or.inl rfl | exact Or.inr rfl) (hye : ∀ C cl, Loc (compEnvC scope cl C X.env).scope y := by intro _ _; first | exact Or.inl rfl | exact Or.inr rfl)
    (hf : ∀ C cl, (scope.names.lookup x == some .cell) = true ∨ (compEnvC scope cl C X.env).scope.names.lookup x = some .local := by intro _ _; first | exact .inl rfl | exact .inr rfl)
    (hf2 : ∀ C cl, (scope.names.lookup y == some .cell) = true ∨ (compEnvC scope cl C X.env).scope.names.lookup y = some .local := by intro _ _; first | exact .inl rfl | exact .inr rfl) :
    FGB X scope G (.Tuple [.Name x p1, .Name y p2] kk p) Gb [i, j] (fun g (a : α × β) => ψ2 (ψ1 g a.1) a.2) :=
  ⟨gTup X.K 2 (gCons (gName i) (gCons (gName j) gNil)), fun s H C cl fp => pg_tup hc (pgs_cons (pg_name hN hi (hxe C cl) (hf C cl)) (pgs_cons (pg_name hN hj (hye C cl) (hf2 C cl)) pgs_nil)), fun H0 F H σ g v a Q s q r k => by
    obtain ⟨b, u, z, rfl, h, r1, r2⟩ := r
    refine ⟨b, [u, z], rfl, Same.seqT s h, rfl, u, [z], rfl, z, [], rfl, rfl, ?_⟩
    refine k _ ?_ (P2.put (P1.put q r1) r2)
    show ((((σ.set i (some u)).set j (some z)).set j none).set i none) = (σ.set j none).set i none
    rw [List.set_set]
    by_cases e : i = j
    · subst e; rw [List.set_set, List.set_set, List.set_set]
    · rw [List.set_comm _ _ (fun z => e z.symm), List.set_comm _ _ e, List.set_comm (some u) none e, List.set_set, List.set_comm _ _ (fun z => e z.symm)]⟩
end
end FL

/-! FL20: data as a tuple of ints; lending in straight code. -/
namespace FL
open PySem L2
def intsD : List PyData → Option (List Int)
  | [] => some []
  | .int i :: r => (intsD r).map (i :: ·)
  | _ :: _ => none
def asTI (d : PyData) : Xc (Tu Int) := match d with
  | .tuple l => if l.length ≤ sizeLine then (match intsD l with
    | some r => .ok (tu r)
    | none => .no) else .no
  | _ => .no
theorem intsD_al {K : PySem.W.Frag} {F : Hp} : ∀ {l : List PyData} {vs : List V} {r : List Int}, DpAll K F vs l → intsD l = some r → Al K F vs r
  | [], vs, r, h, e => by
    cases h
    have e : some [] = some r := e
    cases e
    exact .nil
  | d :: l, vs, r, h, e => by
    cases h with
    | cons h1 h2 =>
      cases h1 with
      | int i =>
        have e : (intsD l).map (i :: ·) = some r := e
        cases q : intsD l with
        | none => rw [q] at e; cases e
        | some r' =>
          rw [q] at e
          cases e
          exact .cons rfl (intsD_al h2 q)
      | _ => cases e
theorem intsD_len : ∀ {l : List PyData} {r : List Int}, intsD l = some r → r.length = l.length
  | [], r, e => by have e : some [] = some r := e; cases e; rfl
  | d :: l, r, e => by
    cases d with
    | int i =>
      have e : (intsD l).map (i :: ·) = some r := e
      cases q : intsD l with
      | none => rw [q] at e; cases e
      | some r' => rw [q] at e; cases e; simp [intsD_len q]
    | _ => cases e
section
variable {X : Cx} {c : C0} {γ δ γ' : Type} {G : EnvT γ} {e : Expr}
theorem fe_asTI {fa : γ → Xc PyData} (ha : FE X c G e fa) : FE X c G e (fun g => (fa g).bind asTI) :=
  fe_from (fun {K F v a b} h r => by
    unfold asTI at h
    split at h
    · rename_i l
      by_cases z : l.length ≤ sizeLine
      · rw [if_pos z] at h
        split at h
        · rename_i q eq
          cases h
          obtain ⟨r, _⟩ := r
          cases r with
          | tup hq hr => exact ⟨_, _, rfl, hq, by show _ ≤ sizeLine; rw [show (Tu.l (tu q)).length = l.length from intsD_len eq]; exact z, intsD_al hr eq⟩
        · cases h
      · rw [if_neg z] at h; cases h
    · cases h) (fun a c fs h => by
    unfold asTI at h
    split at h
    · split at h
      · split at h <;> cases h
      · cases h
    · cases h) ha
end
section
variable {X : Cx} {c : C1} {γ δ γ' : Type} {G : EnvT γ} {Gl : EnvT δ} {G' : EnvT γ'} {sts : List Stmt}
theorem fns_lend {m : δ → Xc γ'} {h : γ → δ} [B : Bor G Gl h] (hs : FNs X c Gl sts G' m) : FNs X c G sts G' (fun g => m (h g)) :=
  PSs.imp hs fun D σ H ⟨F, g, w, q, p⟩ => by
    obtain ⟨F1, w1, q1, _, s1⟩ := lend (B := B) w q
    exact ⟨F1, h g, w1, q1, p.on s1 Ag.refl⟩
end
end FL

/-! FL21: membership of data; insert. -/
namespace FL
open PySem L2
section
variable {X : Cx} {c : C0} {γ α : Type} {G : EnvT γ} [Rp α] {a b e : Expr} {pos : Pos}
@[irreducible] def inDX {α : Type} [Rp α] [ToD α] (a : α) (l : List α) : Xc Bool := if SeqAt.shaped (ToD.d a) = true ∧ SeqAt.shaped (ToD.d l) = true then .ok ((l.map ToD.d).any fun z => PyData.eqv z (ToD.d a)) else .no
theorem room65 {k : Nat} {A : Around} (r : Room k A) : A.units + 65 < cLine := by have := r.un; omega
theorem fe_inD [ToD α] {fa : γ → Xc α} {fb : γ → Xc (List α)} {k : Nat} (hr : Room k X.A) (ha : FE X c G a fa) (hb : FE X c G b fb) (hm : behindInMarks .In b = false := by rfl) : FE X c G (.Compare a [.In] [b] pos) (fun g => (fa g).bind fun i => (fb g).bind fun j => inDX i j) :=
  two (fun h1 h2 => pe_cmpR (op_inD (room65 hr)) h1 h2 hm) ha hb fun {F H x y i j Q E} s r1 r2 p => by
    unfold inDX at p
    by_cases z : SeqAt.shaped (ToD.d i) = true ∧ SeqAt.shaped (ToD.d j) = true
    · rw [if_pos z] at p; exact ⟨_, _, dp_mono s (ToD.is r1), dp_mono s (ToD.is (α := List α) r2), z.1, z.2, p.ret s rfl⟩
    · rw [if_neg z] at p; exact p.elim
theorem fe_ninD [ToD α] {fa : γ → Xc α} {fb : γ → Xc (List α)} {k : Nat} (hr : Room k X.A) (ha : FE X c G a fa) (hb : FE X c G b fb) (hm : behindInMarks .NotIn b = false := by rfl) : FE X c G (.Compare a [.NotIn] [b] pos) (fun g => (fa g).bind fun i => (fb g).bind fun j => (inDX i j).bind fun t => Xc.ok (!t)) :=
  two (fun h1 h2 => pe_cmpR (op_notInD (room65 hr)) h1 h2 hm) ha hb fun {F H x y i j Q E} s r1 r2 p => by
    unfold inDX at p
    by_cases z : SeqAt.shaped (ToD.d i) = true ∧ SeqAt.shaped (ToD.d j) = true
    · rw [if_pos z] at p; exact ⟨_, _, dp_mono s (ToD.is r1), dp_mono s (ToD.is (α := List α) r2), z.1, z.2, p.ret s rfl⟩
    · rw [if_neg z] at p; exact p.elim
theorem ft_inD [ToD α] {fa : γ → Xc α} {fb : γ → Xc (List α)} {k : Nat} (hr : Room k X.A) (ha : FE X c G a fa) (hb : FE X c G b fb) (hm : behindInMarks .In b = false := by rfl) : FT X c G (.Compare a [.In] [b] pos) (fun g => (fa g).bind fun i => (fb g).bind fun j => inDX i j) :=
  twoT (fun h1 h2 => pt_cmpR (op_inD (room65 hr)) h1 h2 hm) ha hb fun {F H x y i j Q E} s r1 r2 p => by
    unfold inDX at p
    by_cases z : SeqAt.shaped (ToD.d i) = true ∧ SeqAt.shaped (ToD.d j) = true
    · rw [if_pos z] at p; exact ⟨_, _, dp_mono s (ToD.is r1), dp_mono s (ToD.is (α := List α) r2), z.1, z.2, _, rfl, p.ret s⟩
    · rw [if_neg z] at p; exact p.elim
theorem ft_ninD [ToD α] {fa : γ → Xc α} {fb : γ → Xc (List α)} {k : Nat} (hr : Room k X.A) (ha : FE X c G a fa) (hb : FE X c G b fb) (hm : behindInMarks .NotIn b = false := by rfl) : FT X c G (.Compare a [.NotIn] [b] pos) (fun g => (fa g).bind fun i => (fb g).bind fun j => (inDX i j).bind fun t => Xc.ok (!t)) :=
  twoT (fun h1 h2 => pt_cmpR (op_notInD (room65 hr)) h1 h2 hm) ha hb fun {F H x y i j Q E} s r1 r2 p => by
    unfold inDX at p
    by_cases z : SeqAt.shaped (ToD.d i) = true ∧ SeqAt.shaped (ToD.d j) = true
    · rw [if_pos z] at p; exact ⟨_, _, dp_mono s (ToD.is r1), dp_mono s (ToD.is (α := List α) r2), z.1, z.2, _, rfl, p.ret s⟩
    · rw [if_neg z] at p; exact p.elim
end
section
variable {X : Cx} {c : C1} {γ γ' : Type} {G : EnvT γ} {e k : Expr} {pos p1 p2 : Pos} {x : Str}
@[irreducible] def insX {α : Type} (l : List α) (i : Int) (a : α) : Xc (List α) := if l.length < sizeLine ∧ 0 ≤ i ∧ i < 2 ^ 63 then .ok (l.take i.toNat ++ [a] ++ l.drop i.toNat) else .no
/-- x.insert(k, e) -/
theorem fn_insert (i : Nat) {τ : Type} {r : Rp τ} {π : γ → List τ} {put : γ → List τ → γ} [A : AtO G i τ r π put] {fa : γ → Xc τ} {fk : γ → Xc Int} {apos cpos : Pos} (hk : FE X c.toC0 G k fk) (ha : FE X c.toC0 G e fa) (hN : X.N[i]? = some x := by rfl) (hv : Vis X.env.scope x := by first | exact Or.inl rfl | exact Or.inr (Or.inl rfl) | exact Or.inr (Or.inr rfl))
    (hd : (x == ("__debug__" : Str)) = false := by decide) (hcd : (x == ("__classdict__" : Str)) = false := by decide) (hbase : attributeBase (.Name x p1) "insert" X.env (eval (.Name x p1) X.env) = eval (.Name x p1) X.env := by rfl)
    (hfew : ((backTo cpos (starEach [k, e] X.env)).all (fun x => !x.1) && (backToKw cpos (keywordEach [] X.env)).all (fun x => x.1.isSome) && decide ([k, e].length + ([] : List Keyword).length + (if ([] : List Keyword).isEmpty then 0 else 1) < 30)) = true := by rfl)
    (hline : (apos.endLine == cpos.line) = true := by rfl) (hs : starEach [k, e] X.env = (false, eval k X.env) :: starEach [e] X.env := by rfl) (hs2 : starEach [e] X.env = (false, eval e X.env) :: starEach [] X.env := by rfl) (hplain : (backTo cpos (starEach [e] X.env)).any (·.1) = false := by rfl)
    (hsw : swapsWith (.Call (.Attribute (.Name x p1) "insert" apos) [k, e] [] cpos) none pos.line X.env = pure false := by rfl) :
    FN X c G (.Expr (.Call (.Attribute (.Name x p1) "insert" apos) [k, e] [] cpos) pos) G (fun g => (fk g).bind fun j => (fa g).bind fun v => (insX (π g) j v).bind fun l => Xc.ok (put g l)) :=
  PS.imp (ps_expr (pe_bm PySem.F.plainAttrs_list PySem.F.slot_list_insert PySem.F.type_list_insert mt_insert (pe_var hN hv hd hcd) (pa_cons hk (pa_cons ha pa_nil hs2) hs) hbase hfew hline hs hplain) hsw) fun D σ H ⟨F, g, w, q, h⟩ => by
    obtain ⟨p, xs, e1, m, hp, z, al⟩ := A.get q
    refine ⟨.ref p, e1, .inl ⟨rfl, _, SqL.of hp⟩, F, g, w, q, ?_⟩
    cases e3 : fk g with
    | ok j =>
      intro jv F1 H1 w1 rj
      simp only [e3] at h
      have h : PoN X.K c G D F H σ ((fa g).bind fun v => (insX (π g) j v).bind fun l => Xc.ok (put g l)) := h
      refine ⟨F1, g, w.trans w1, G.mono q w1, ?_⟩
      cases e2 : fa g with
      | ok v =>
        intro u F2 H2 w2 r2
        simp only [e2] at h
        have h : PoN X.K c G D F H σ ((insX (π g) j v).bind fun l => Xc.ok (put g l)) := h
        unfold insX at h
        by_cases hz : (π g).length < sizeLine ∧ 0 ≤ j ∧ j < 2 ^ 63
        · rw [if_pos hz] at h
          have w12 := w1.trans w2
          have rj : jv = .int j := rj
          refine ⟨p, xs, j, u, rfl, by rw [rj], w12.h _ _ hp, by rw [al.len]; exact hz.1, hz.2.1, hz.2.2, ?_⟩
          obtain ⟨h0, hf, _⟩ := G.al q m
          have q1 := G.mono q w12
          obtain ⟨_, hf1, _⟩ := G.al q1 m
          refine h σ F2 _ ⟨w12.f, (w.trans w12).mutd h0 hf1⟩ Ag.refl ?_
          have al2 := al.mono w12.f
          exact A.set q1 e1 (by simp only [List.length_append, List.length_take, List.length_drop, List.length_singleton]; omega) (((al2.take _).snoc r2).app (al2.drop _))
        · rw [if_neg hz] at h; exact h.elim
      | er c' fs => simp only [e2] at h; exact ErP.on (PoN.er h w) w1
      | no => simp only [e2] at h; exact h
    | er c' fs => simp only [e3] at h; exact PoN.er h w
    | no => simp only [e3] at h; exact h
end
end FL

/-! FZ1: zip over any two things that are walked by iterators of their own. -/
namespace FZ
open PySem RZ
section
variable (prog : Program) (w : World)
/-- it walks over get, P by the place -/
structure Wkr (P : Nat → Heap → Prop) (it l : Addr) (get : Nat → Option Value) : Prop where
  item : ∀ {A : Around} {E : Value → Shared → Prop} {s : Shared} {k : Nat} {x : Value} {Q : Value → Shared → Prop}, P k s.heap → get k = some x → (∀ h', P (k + 1) h' → Heap.SameBut it s.heap h' → Q x { s with heap := h' }) → wpAny (model prog w) A (Builtin.SmallTypes.nextOf (.ref it)) Q E s
  fin : ∀ {A : Around} {E : Value → Shared → Prop} {s : Shared} {k : Nat} {Q : Value → Shared → Prop}, A.handled = none → P k s.heap → get k = none → (∀ h' e, Heap.ExtBut it s.heap h' → (∃ o, h'.get? e = some o ∧ o.cls = .type "StopIteration") → E (.ref e) { s with heap := h' }) → wpAny (model prog w) A (Builtin.SmallTypes.nextOf (.ref it)) Q E s
  ext : ∀ {k : Nat} {h h' : Heap} {c : Addr}, P k h → Heap.ExtBut c h h' → it ≠ c → l ≠ c → P k h'
  up : ∀ {k : Nat} {h h' : Heap}, P k h → (∀ o, h.get? it = some o → h'.get? it = some o) → (∀ o, h.get? l = some o → h'.get? l = some o) → P k h'
  at_ : ∀ {k : Nat} {h : Heap}, P k h → ∃ o, h.get? it = some o
end
section
variable {prog : Program} {w : World} {A : Around} {E : Value → Shared → Prop} {s : Shared} {P1 P2 : Nat → Heap → Prop} {g1 g2 : Nat → Option Value} {z TI TO i1 i2 l1 l2 : Addr} {k1 k2 : Nat} {x y a b : Value}
theorem nxt (W1 : Wkr prog w P1 i1 l1 g1) (W2 : Wkr prog w P2 i2 l2 g2) (D : ZipApart z TI TO i1 i2 l1 l2) (hz : IsZip s.heap z TI TO .none) (hTI : IsPair s.heap TI (.ref i1) (.ref i2)) (hTO : IsPair s.heap TO a b) (h1 : P1 k1 s.heap) (h2 : P2 k2 s.heap) (hx : g1 k1 = some x) (hy : g2 k2 = some y)
    {Q : Value → Shared → Prop} (hQ : ∀ h', IsZip h' z TI TO (rawInt s.heap.objs.size) → IsPair h' TO x y → P1 (k1 + 1) h' → P2 (k2 + 1) h' → IsPair h' s.heap.objs.size x y → h'.objs.size = s.heap.objs.size + 1 → (∀ c o, c ≠ z → c ≠ TO → c ≠ i1 → c ≠ i2 → s.heap.get? c = some o → h'.get? c = some o) → Q (.ref s.heap.objs.size) { s with heap := h' }) :
    wpAny (model prog w) A (Builtin.«zip.__next__» ⟨[.ref z], []⟩) (fun fin s' => ∃ v, fin = .done (.ret v) ∧ Q v s') E s := by
  show wpAny _ _ (field (.ref z) 2 >>= _) _ _ _; refine wpAny_bind (wpAny_field hz rfl (x := .bool false) rfl ?_)
  show wpAny _ _ (field (.ref z) 3 >>= _) _ _ _; refine wpAny_bind (wpAny_field hz rfl (x := .ref TI) rfl (wpAny_bind (wpAny_seqItems hTI rfl ?_)))
  show wpAny _ _ (Builtin.SmallTypes.ownedTupleIsFree (.ref z) >>= _) _ _ _; refine wpAny_bind ?_; unfold Builtin.SmallTypes.ownedTupleIsFree
  refine wpAny_bind (wpAny_field hz rfl (x := .none) rfl (wpAny_pure ?_)); simp only [if_true]
  refine wpAny_bind (wpAny_rule (wpAny_bind (wpAny_field hz rfl (x := .ref TO) rfl (wpAny_bind (wpAny_setField_rec hz (by simp) fun hA zA sA => ?_)))))
  have zA : IsZip hA z TI TO .ellipsis := zA
  refine wpAny_bind ?_; simp only [List.zipIdx_cons, List.zipIdx_nil, List.forIn_cons, List.forIn_nil]
  refine wpAny_bind (wpAny_bind (wpAny_onRaise ?_)); show wpAny _ _ (Builtin.SmallTypes.nextOf (.ref i1) >>= _) _ _ _
  refine wpAny_bind (W1.item (W1.ext h1 sA.extBut D.i1z D.l1z) hx fun hB pB sB => wpAny_pure ?_)
  have tB : IsPair hB TO a b := sB.extBut _ _ D.TOi1 (sA.extBut _ _ D.TOz hTO)
  refine wpAny_bind (wpAny_seqItems tB rfl (wpAny_bind (wpAny_updateSeq_pair tB fun hC tC sC => ?_)))
  have tC : IsPair hC TO x b := tC
  refine wpAny_bind (wpAny_letGo (wpAny_pure (wpAny_bind (wpAny_bind (wpAny_onRaise ?_))))); show wpAny _ _ (Builtin.SmallTypes.nextOf (.ref i2) >>= _) _ _ _
  have p2C : P2 k2 hC := W2.ext (W2.ext (W2.ext h2 sA.extBut D.i2z D.l2z) sB.extBut D.i12.symm D.l2i1) sC.extBut D.TOi2.symm D.l2TO
  refine wpAny_bind (W2.item p2C hy fun hD pD sD => wpAny_pure ?_)
  have tD : IsPair hD TO x b := sD.extBut _ _ D.TOi2 tC
  refine wpAny_bind (wpAny_seqItems tD rfl (wpAny_bind (wpAny_updateSeq_pair tD fun hF tF sF => ?_)))
  have tF : IsPair hF TO x y := tF
  refine wpAny_bind (wpAny_letGo (wpAny_pure (wpAny_pure (wpAny_bind (wpAny_seqItems tF rfl (wpAny_bind (wpAny_newTuple ?_)))))))
  have sz : hF.objs.size = s.heap.objs.size := by rw [sF.1, sD.1, sC.1, sB.1, sA.1]
  have zF : IsZip hF z TI TO .ellipsis := sF.extBut _ _ D.TOz.symm (sD.extBut _ _ D.i2z.symm (sC.extBut _ _ D.TOz.symm (sB.extBut _ _ D.i1z.symm zA)))
  have kF : ∀ c o, c ≠ z → c ≠ TO → c ≠ i1 → c ≠ i2 → s.heap.get? c = some o → hF.get? c = some o := fun c o c1 c2 c3 c4 e => sF.extBut _ _ c2 (sD.extBut _ _ c4 (sC.extBut _ _ c2 (sB.extBut _ _ c3 (sA.extBut _ _ c1 e))))
  have p1F : P1 (k1 + 1) hF := W1.ext (W1.ext (W1.ext pB sC.extBut D.TOi1.symm D.l1TO) sD.extBut D.i12 D.l1i2) sF.extBut D.TOi1.symm D.l1TO
  have p2F : P2 (k2 + 1) hF := W2.ext pD sF.extBut D.TOi2.symm D.l2TO
  have lz : z < hF.objs.size := Heap.lt_size zF
  show wpAny _ _ (Builtin.SmallTypes.ownedTupleHandOut (.ref z) (.ref hF.objs.size) >>= _) _ _ _; refine wpAny_bind ?_; unfold Builtin.SmallTypes.ownedTupleHandOut
  have zG : IsZip (hF.push { cls := .type "tuple", data := .seq #[x, y] }) z TI TO .ellipsis := Heap.get?_push_of_some _ zF
  refine wpAny_bind (wpAny_setField_rec zG (by simp) fun hH zH sH => ?_); have zH : IsZip hH z TI TO (rawInt hF.objs.size) := zH
  refine wpAny_setField_rec zH (by simp) fun hI zI sI => ?_; have zI : IsZip hI z TI TO (rawInt hF.objs.size) := zI
  have up : ∀ c o, c ≠ z → hF.get? c = some o → hI.get? c = some o := fun c o c1 e => sI.extBut _ _ c1 (sH.extBut _ _ c1 (Heap.get?_push_of_some _ e))
  have tI : IsPair hI hF.objs.size x y := sI.extBut _ _ (Nat.ne_of_gt lz) (sH.extBut _ _ (Nat.ne_of_gt lz) (Heap.get?_push_size _ rfl))
  have sI8 : hI.objs.size = hF.objs.size + 1 := by rw [sI.1, sH.1, Heap.size_push]
  rw [sz] at zI tI sI8
  refine wpAny_pure ⟨_, rfl, ?_⟩; show Q (.ref hF.objs.size) _; rw [sz]
  exact hQ hI zI (up _ _ D.TOz tF) (W1.up p1F (fun o e => up _ o D.i1z e) fun o e => up _ o D.l1z e) (W2.up p2F (fun o e => up _ o D.i2z e) fun o e => up _ o D.l2z e) tI sI8 fun c o c1 c2 c3 c4 e => up c o c1 (kF c o c1 c2 c3 c4 e)
end
end FZ

/-! FZ2: the end of such a zip; its steps; a list, a tuple as a walker. -/
namespace FZ
open PySem RZ
section
variable {prog : Program} {w : World} {A : Around} {E : Value → Shared → Prop} {s : Shared} {P1 P2 : Nat → Heap → Prop} {g1 g2 : Nat → Option Value} {z TI TO i1 i2 l1 l2 : Addr} {k1 k2 : Nat} {x y a b : Value}
theorem done (W1 : Wkr prog w P1 i1 l1 g1) (W2 : Wkr prog w P2 i2 l2 g2) (hh : A.handled = none) (D : ZipApart z TI TO i1 i2 l1 l2) (hz : IsZip s.heap z TI TO .none) (hTI : IsPair s.heap TI (.ref i1) (.ref i2)) (hTO : IsPair s.heap TO a b) (h1 : P1 k1 s.heap) (h2 : P2 k2 s.heap) (he : g1 k1 = none ∨ g2 k2 = none)
    {Q : Fin → Shared → Prop} (hE : ∀ h' e, (∀ c o, c ≠ z → c ≠ TO → c ≠ i1 → c ≠ i2 → s.heap.get? c = some o → h'.get? c = some o) → (∃ o, h'.get? e = some o ∧ o.cls = .type "StopIteration") → E (.ref e) { s with heap := h' }) : wpAny (model prog w) A (Builtin.«zip.__next__» ⟨[.ref z], []⟩) Q E s := by
  show wpAny _ _ (field (.ref z) 2 >>= _) _ _ _; refine wpAny_bind (wpAny_field hz rfl (x := .bool false) rfl ?_)
  show wpAny _ _ (field (.ref z) 3 >>= _) _ _ _; refine wpAny_bind (wpAny_field hz rfl (x := .ref TI) rfl (wpAny_bind (wpAny_seqItems hTI rfl ?_)))
  show wpAny _ _ (Builtin.SmallTypes.ownedTupleIsFree (.ref z) >>= _) _ _ _; refine wpAny_bind ?_; unfold Builtin.SmallTypes.ownedTupleIsFree
  refine wpAny_bind (wpAny_field hz rfl (x := .none) rfl (wpAny_pure ?_)); simp only [if_true]
  refine wpAny_bind (wpAny_rule (wpAny_bind (wpAny_field hz rfl (x := .ref TO) rfl (wpAny_bind (wpAny_setField_rec hz (by simp) fun hA zA sA => ?_)))))
  have zA : IsZip hA z TI TO .ellipsis := zA
  refine wpAny_bind ?_; simp only [List.zipIdx_cons, List.zipIdx_nil, List.forIn_cons, List.forIn_nil]
  refine wpAny_bind (wpAny_bind (wpAny_onRaise ?_)); show wpAny _ _ (Builtin.SmallTypes.nextOf (.ref i1) >>= _) _ _ _
  have p1A : P1 k1 hA := W1.ext h1 sA.extBut D.i1z D.l1z
  cases hx : g1 k1 with
  | none =>
    refine wpAny_bind (W1.fin hh p1A hx fun hB e sB ⟨oe, hoe, hce⟩ => ?_)
    have zB : IsZip hB z TI TO .ellipsis := sB _ _ D.i1z.symm zA
    have ez : e ≠ z := fun q => by subst q; rw [zB] at hoe; cases hoe; simp at hce
    exact wpAny_setField_rec zB (by simp) fun hC _ sC => hE hC e (fun c o c1 _ c3 _ q => sC.extBut _ _ c1 (sB _ _ c3 (sA.extBut _ _ c1 q))) ⟨oe, sC.extBut _ _ ez hoe, hce⟩
  | some x =>
    have hy : g2 k2 = none := by rcases he with q | q; (rw [hx] at q; cases q); exact q
    refine wpAny_bind (W1.item p1A hx fun hB pB sB => wpAny_pure ?_)
    have tB : IsPair hB TO a b := sB.extBut _ _ D.TOi1 (sA.extBut _ _ D.TOz hTO)
    refine wpAny_bind (wpAny_seqItems tB rfl (wpAny_bind (wpAny_updateSeq_pair tB fun hC tC sC => ?_)))
    refine wpAny_bind (wpAny_letGo (wpAny_pure (wpAny_bind (wpAny_bind (wpAny_onRaise ?_))))); show wpAny _ _ (Builtin.SmallTypes.nextOf (.ref i2) >>= _) _ _ _
    have p2C : P2 k2 hC := W2.ext (W2.ext (W2.ext h2 sA.extBut D.i2z D.l2z) sB.extBut D.i12.symm D.l2i1) sC.extBut D.TOi2.symm D.l2TO
    refine wpAny_bind (W2.fin hh p2C hy fun hD e sD ⟨oe, hoe, hce⟩ => ?_)
    have zD : IsZip hD z TI TO .ellipsis := sD _ _ D.i2z.symm (sC.extBut _ _ D.TOz.symm (sB.extBut _ _ D.i1z.symm zA))
    have ez : e ≠ z := fun q => by subst q; rw [zD] at hoe; cases hoe; simp at hce
    exact wpAny_setField_rec zD (by simp) fun hF _ sF => hE hF e (fun c o c1 c2 c3 c4 q => sF.extBut _ _ c1 (sD _ _ c4 (sC.extBut _ _ c2 (sB.extBut _ _ c3 (sA.extBut _ _ c1 q))))) ⟨oe, sF.extBut _ _ ez hoe, hce⟩
theorem py_item (W1 : Wkr prog w P1 i1 l1 g1) (W2 : Wkr prog w P2 i2 l2 g2) (D : ZipApart z TI TO i1 i2 l1 l2) (hz : IsZip s.heap z TI TO .none) (hTI : IsPair s.heap TI (.ref i1) (.ref i2)) (hTO : IsPair s.heap TO a b) (h1 : P1 k1 s.heap) (h2 : P2 k2 s.heap) (hx : g1 k1 = some x) (hy : g2 k2 = some y)
    {Q : Option Value → Shared → Prop} (hQ : ∀ h', IsZip h' z TI TO (rawInt s.heap.objs.size) → IsPair h' TO x y → P1 (k1 + 1) h' → P2 (k2 + 1) h' → IsPair h' s.heap.objs.size x y → h'.objs.size = s.heap.objs.size + 1 → (∀ c o, c ≠ z → c ≠ TO → c ≠ i1 → c ≠ i2 → s.heap.get? c = some o → h'.get? c = some o) → Q (some (.ref s.heap.objs.size)) { s with heap := h' }) : wpAny (model prog w) A (pyNext (.ref z)) Q E s := by
  have T : s.TypeIs (.ref z) "zip" := ⟨_, hz, rfl⟩
  unfold pyNext
  exact wpAny_bind (wpAny_attempt (wpAny_callSpecial?_slot (name := Str.ofString "__next__") T F.slot_zip_next (wpAny_call_entry F.slot_zip_next T F.entry_zip_next (nxt W1 W2 D hz hTI hTO h1 h2 hx hy fun h' a1 a2 a3 a4 a5 a6 a7 => wpAny_pure (hQ h' a1 a2 a3 a4 a5 a6 a7)) (F.args_zip_next_1 _))))
theorem py_done (W1 : Wkr prog w P1 i1 l1 g1) (W2 : Wkr prog w P2 i2 l2 g2) (hh : A.handled = none) (D : ZipApart z TI TO i1 i2 l1 l2) (hz : IsZip s.heap z TI TO .none) (hTI : IsPair s.heap TI (.ref i1) (.ref i2)) (hTO : IsPair s.heap TO a b) (h1 : P1 k1 s.heap) (h2 : P2 k2 s.heap) (he : g1 k1 = none ∨ g2 k2 = none)
    {Q : Option Value → Shared → Prop} (hQ : ∀ h', (∀ c o, c ≠ z → c ≠ TO → c ≠ i1 → c ≠ i2 → s.heap.get? c = some o → h'.get? c = some o) → Q none { s with heap := h' }) : wpAny (model prog w) A (pyNext (.ref z)) Q E s := by
  have T : s.TypeIs (.ref z) "zip" := ⟨_, hz, rfl⟩
  unfold pyNext
  refine wpAny_bind (wpAny_attempt (wpAny_callSpecial?_slot (name := Str.ofString "__next__") T F.slot_zip_next (wpAny_call_entry F.slot_zip_next T F.entry_zip_next (done (A := A.in1) W1 W2 hh D hz hTI hTO h1 h2 he fun h' e hk ⟨o, ho, hc⟩ => ?_) (F.args_zip_next_1 _))))
  exact wpAny_bind (wpAny_isInstance (T := "StopIteration") (b := true) ⟨o, ho, hc⟩ isSubtype_stop (wpAny_pure (hQ _ hk)))
end
end FZ

/-! FZ3: lists and tuples as walkers; the zip of a tuple with a list, of a list with a tuple. -/
namespace FZ
open PySem RZ
section
variable {prog : Program} {w : World} {it l : Addr} {items : Array Value}
def PL (it l : Addr) (items : Array Value) (k : Nat) (h : Heap) : Prop := h.IsListIter it l k ∧ h.IsList l items
def PT (it l : Addr) (items : Array Value) (k : Nat) (h : Heap) : Prop := h.IsTupleIter it l k ∧ h.IsTuple l items
theorem wkL (ne : l ≠ it) : Wkr prog w (PL it l items) it l (fun k => items[k]?) :=
  ⟨fun ⟨h1, h2⟩ hx q => wpAny_nextOf_list_item h1 h2 hx fun h' a sb => q h' ⟨a, h2.extBut sb.extBut ne⟩ sb, fun hh ⟨h1, h2⟩ hx q => wpAny_nextOf_list_end hh h1 h2 hx q, fun ⟨h1, h2⟩ e c1 c2 => ⟨h1.extBut e c1, h2.extBut e c2⟩,
    fun ⟨h1, h2⟩ e1 e2 => ⟨h1.at e1, h2.at e2⟩, fun ⟨⟨o, e, _⟩, _⟩ => ⟨o, e⟩⟩
theorem wkT (ne : l ≠ it) : Wkr prog w (PT it l items) it l (fun k => items[k]?) :=
  ⟨fun ⟨h1, h2⟩ hx q => RZ.nextOf_tuple_item h1 h2 hx fun h' a sb => q h' ⟨a, h2.extBut sb.extBut ne⟩ sb, fun hh ⟨h1, h2⟩ hx q => RZ.nextOf_tuple_end hh h1 h2 hx q, fun ⟨h1, h2⟩ e c1 c2 => ⟨h1.extBut e c1, h2.extBut e c2⟩,
    fun ⟨h1, h2⟩ e1 e2 => ⟨h1.at e1, h2.at e2⟩, fun ⟨⟨o, e, _⟩, _⟩ => ⟨o, e⟩⟩
end
/-- the heap behind zip(a, b): iterators of the kinds A, B -/
abbrev ZA (A : String) (h : Heap) (a : Addr) : Heap := h.push { cls := .type A, data := .fields #[.ref a, .int 0 0] }
abbrev ZB (A B : String) (h : Heap) (a b : Addr) : Heap := (ZA A h a).push { cls := .type B, data := .fields #[.ref b, .int 0 0] }
abbrev ZC (A B : String) (h : Heap) (a b : Addr) : Heap := (ZB A B h a b).push { cls := .type "tuple", data := .seq #[.ref h.objs.size, .ref (ZA A h a).objs.size] }
abbrev ZD (A B : String) (h : Heap) (a b : Addr) : Heap := (ZC A B h a b).push { cls := .type "tuple", data := .seq #[.none, .none] }
abbrev ZE (A B : String) (h : Heap) (a b : Addr) : Heap := (ZD A B h a b).push { cls := .type "zip", data := .fields #[.none, .bool false, .bool false, .ref (ZB A B h a b).objs.size, .ref (ZC A B h a b).objs.size] }
theorem newTL (a b : Addr) (xs ys : Array Value) : Meets (Builtin.«zip.__new__» ⟨[.type "zip", .ref a, .ref b], []⟩) (fun _ R s => (s.heap.IsTuple a xs ∧ s.heap.IsList b ys) ∧ R (.ok (.ret (.ref (ZD "tuple_iterator" "list_iterator" s.heap a b).objs.size))) { s with heap := ZE "tuple_iterator" "list_iterator" s.heap a b }) :=
  .of_wp fun prog w A R s h => by
    obtain ⟨hp, g, d, tk, os⟩ := s; obtain ⟨⟨m1, m2⟩, h⟩ := h; have hsub := sub_zip
    have hL1 : Heap.IsTuple (Shared.heap ⟨hp, g, d, tk, os⟩) a xs := m1; have hL2 : Heap.IsList (Shared.heap ⟨ZA "tuple_iterator" hp a, g, d, tk, os⟩) b ys := Heap.IsList.at m2 fun o e => Heap.get?_push_of_some _ e
    wp_walk using wpAny_pyIter_tuple hL1, wpAny_pyIter_list hL2; exact ⟨_, rfl, h⟩
theorem newLT (a b : Addr) (xs ys : Array Value) : Meets (Builtin.«zip.__new__» ⟨[.type "zip", .ref a, .ref b], []⟩) (fun _ R s => (s.heap.IsList a xs ∧ s.heap.IsTuple b ys) ∧ R (.ok (.ret (.ref (ZD "list_iterator" "tuple_iterator" s.heap a b).objs.size))) { s with heap := ZE "list_iterator" "tuple_iterator" s.heap a b }) :=
  .of_wp fun prog w A R s h => by
    obtain ⟨hp, g, d, tk, os⟩ := s; obtain ⟨⟨m1, m2⟩, h⟩ := h; have hsub := sub_zip
    have hL1 : Heap.IsList (Shared.heap ⟨hp, g, d, tk, os⟩) a xs := m1; have hL2 : Heap.IsTuple (Shared.heap ⟨ZA "list_iterator" hp a, g, d, tk, os⟩) b ys := Heap.IsTuple.at m2 fun o e => Heap.get?_push_of_some _ e
    wp_walk using wpAny_pyIter_list hL1, wpAny_pyIter_tuple hL2; exact ⟨_, rfl, h⟩
end FZ

/-! FZ4: the call of zip; its walk. -/
namespace FZ
open PySem RZ
section
variable {prog : Program} {w : World} {X0 : Around} {E : Value → Shared → Prop} {s : Shared} {a b : Addr} {A B : String} {Pre : Heap → Prop}
theorem zcall (M : Meets (Builtin.«zip.__new__» ⟨[.type "zip", .ref a, .ref b], []⟩) (fun _ R s => Pre s.heap ∧ R (.ok (.ret (.ref (ZD A B s.heap a b).objs.size))) { s with heap := ZE A B s.heap a b })) (hp : Pre s.heap) {Q : Value → Shared → Prop}
    (h : ∀ h', IsZip h' (s.heap.objs.size + 4) (s.heap.objs.size + 2) (s.heap.objs.size + 3) .none → IsPair h' (s.heap.objs.size + 2) (.ref s.heap.objs.size) (.ref (s.heap.objs.size + 1)) → IsPair h' (s.heap.objs.size + 3) .none .none →
      h'.get? s.heap.objs.size = some { cls := .type A, data := .fields #[.ref a, .int 0 0] } → h'.get? (s.heap.objs.size + 1) = some { cls := .type B, data := .fields #[.ref b, .int 0 0] } → (∀ c o, s.heap.get? c = some o → h'.get? c = some o) → Q (.ref (s.heap.objs.size + 4)) { s with heap := h' }) :
    wpAny (model prog w) X0 (call (.type "zip") [.ref a, .ref b]) Q E s := by
  refine callType_new F.called_zip (by decide) (F.typeCall_zip_2 _ _) (F.newCall_zip_2 _ _) (fun obj => F.args_object_init_3 obj _ _) F.entry_zip_new M ⟨hp, ?_⟩
  have e1 : (ZA A s.heap a).objs.size = s.heap.objs.size + 1 := Heap.size_push ..
  have e2 : (ZB A B s.heap a b).objs.size = s.heap.objs.size + 2 := by rw [Heap.size_push, e1]
  have e3 : (ZC A B s.heap a b).objs.size = s.heap.objs.size + 3 := by rw [Heap.size_push, e2]
  have e4 : (ZD A B s.heap a b).objs.size = s.heap.objs.size + 4 := by rw [Heap.size_push, e3]
  have q5 : (ZE A B s.heap a b).get? (ZD A B s.heap a b).objs.size = some _ := Heap.get?_push_size _ rfl
  have q4 : (ZE A B s.heap a b).get? (ZC A B s.heap a b).objs.size = some _ := Heap.get?_push_of_some _ (Heap.get?_push_size _ rfl)
  have q3 : (ZE A B s.heap a b).get? (ZB A B s.heap a b).objs.size = some _ := Heap.get?_push_of_some _ (Heap.get?_push_of_some _ (Heap.get?_push_size _ rfl))
  have q2 : (ZE A B s.heap a b).get? (ZA A s.heap a).objs.size = some _ := Heap.get?_push_of_some _ (Heap.get?_push_of_some _ (Heap.get?_push_of_some _ (Heap.get?_push_size _ rfl)))
  have q1 : (ZE A B s.heap a b).get? s.heap.objs.size = some _ := Heap.get?_push_of_some _ (Heap.get?_push_of_some _ (Heap.get?_push_of_some _ (Heap.get?_push_of_some _ (Heap.get?_push_size _ rfl))))
  show _ ∧ _
  rw [e2, e3, e4] at q5; rw [e1, e2] at q3; rw [e3] at q4; rw [e1] at q2; rw [e4]
  exact ⟨⟨_, q5, rfl⟩, h _ q5 q3 q4 q1 q2 fun c o x => Heap.get?_push_of_some _ (Heap.get?_push_of_some _ (Heap.get?_push_of_some _ (Heap.get?_push_of_some _ (Heap.get?_push_of_some _ x))))⟩
end
end FZ

/-! FZ5: the walk of zip(tuple, list). -/
namespace FZ
open PySem RZ L2 PyProof.Rows
def ItM (K : PySem.W.Frag) (a b : Addr) : It :=
  ⟨fun i H => ∃ (xs ys : List V) (x y : V), SqT K H a xs ∧ SqL K H b ys ∧ xs[i]? = some x ∧ ys[i]? = some y, fun i H v H' => ∃ T x y, v = .ref T ∧ H T = none ∧ H' = upd H T (.tup [x, y]) ∧ (∀ xs, SqT K H a xs → xs[i]? = some x) ∧ ∀ ys, SqL K H b ys → ys[i]? = some y,
    fun i H => ∃ xs ys : List V, SqT K H a xs ∧ SqL K H b ys ∧ (xs.length ≤ i ∨ ys.length ≤ i)⟩
theorem turnM {P : Program} {w : World} {K : PySem.W.Frag} {elts : List Expr} {kk : Nat} {tpos : Pos} {a b z TI TO i1 i2 : Addr} (D : ZipApart z TI TO i1 i2 a b) :
    Turn P w K (.Tuple elts kk tpos) (ItM K a b) [z, TI, TO, i1, i2] z (fun i h => IsZip h z TI TO .none ∧ IsPair h TI (.ref i1) (.ref i2) ∧ (∃ x y, IsPair h TO x y) ∧ h.IsTupleIter i1 a i ∧ h.IsListIter i2 b i) where
  mem := by simp
  obj := fun i h ⟨hz, hTI, ⟨x, y, hTO⟩, ⟨o1, e1, _, d1⟩, ⟨o2, e2, _, d2⟩⟩ c hc => by
    have e' : c = z ∨ c = TI ∨ c = TO ∨ c = i1 ∨ c = i2 := (by simpa using hc); rcases e' with q | q | q | q | q <;> rw [q]
    · exact ⟨_, hz, fun v q => nomatch q⟩
    · exact ⟨_, hTI, fun v q => nomatch q⟩
    · exact ⟨_, hTO, fun v q => nomatch q⟩
    · exact ⟨o1, e1, fun v q => by rw [d1] at q; cases q⟩
    · exact ⟨o2, e2, fun v q => by rw [d2] at q; cases q⟩
  keep := fun i h h' ⟨hz, hTI, ⟨x, y, hTO⟩, h1, h2⟩ k => ⟨k z (by simp) _ hz, k TI (by simp) _ hTI, ⟨x, y, k TO (by simp) _ hTO⟩, h1.at fun o q => k i1 (by simp) o q, h2.at fun o q => k i2 (by simp) o q⟩
  item := by
    intro X hP hw hK hc i pins s σ H E I hf ⟨hz, hTI, ⟨x0, y0, hTO⟩, h1, h2⟩ ⟨xs, ys, x, y, hqx, hqy, hx, hy⟩; subst hP hw hK
    obtain ⟨its, rv, p, _⟩ := I.tuple hqx; obtain ⟨its2, rv2, p2, _⟩ := I.list hqy; obtain ⟨u, hu, ru⟩ := rv.get hx; obtain ⟨u2, hu2, ru2⟩ := rv2.get hy
    have lz : z < s.heap.objs.size := Heap.lt_size hz
    refine py_item (wkT (items := its.toArray) D.l1i1) (wkL (items := its2.toArray) D.l2i2) D hz hTI hTO ⟨h1, p⟩ ⟨h2, p2.isList⟩ (x := u) (y := u2) (by simpa using hu) (by simpa using hu2) fun h' z' TO' h1' h2' hT hsz hk => ?_
    refine ⟨_, rfl, wpAny_letOwnedTupleGo_zip (s := { s with heap := h' }) z' fun h'' z'' sb => ?_⟩
    have hT2 : h''.get? s.heap.objs.size = some { cls := .type "tuple", data := .seq #[u, u2] } := (sb.2 _ (Nat.ne_of_gt lz)).trans hT
    have new : ObjOk X.prog X.w (upd H s.heap.objs.size (.tup [x, y])) h'' s.heap.objs.size (.tup [x, y]) := ⟨(show 2 ≤ sizeLine by decide), [u, u2], .cons ru (.cons ru2 .nil), ⟨_, hT2, rfl, _, rfl⟩⟩
    have kk' : ∀ c o, c ∉ [z, TI, TO, i1, i2] → s.heap.get? c = some o → h''.get? c = some o := fun c o hb q => (sb.2 c (fun q' => hb (by simp [q']))).trans (hk c o (fun q' => hb (by simp [q'])) (fun q' => hb (by simp [q'])) (fun q' => hb (by simp [q'])) (fun q' => hb (by simp [q'])) q)
    have I1 : Inv X pins σ (upd H s.heap.objs.size (.tup [x, y])) { s with heap := h'' } := I.turnedNew (t' := s.toks) (ch := [z, TI, TO, i1, i2]) kk' hf (Nat.le_refl _) new
    refine ⟨.ref s.heap.objs.size, _, I1, rfl, ⟨_, x, y, rfl, I.hok.fresh (Nat.le_refl _), rfl, fun l hl => by rw [I.tuple_inj hl hqx]; exact hx, fun l hl => by rw [I.list_inj hl hqy]; exact hy⟩, ⟨z'', (sb.2 _ D.TIz).trans (hk _ _ D.TIz D.TITO D.TIi1 D.TIi2 hTI), ⟨u, u2, (sb.2 _ D.TOz).trans TO'⟩, h1'.1.at fun o q => (sb.2 _ D.i1z).trans q, h2'.1.at fun o q => (sb.2 _ D.i2z).trans q⟩, fun c hcm => ?_⟩
    have hlt : c < s.heap.objs.size := by
      have e' : c = z ∨ c = TI ∨ c = TO ∨ c = i1 ∨ c = i2 := (by simpa using hcm); rcases e' with q | q | q | q | q <;> rw [q]
      · exact lz
      · exact Heap.lt_size hTI
      · exact Heap.lt_size hTO
      · obtain ⟨_, e1, _⟩ := h1; exact Heap.lt_size e1
      · obtain ⟨_, e2, _⟩ := h2; exact Heap.lt_size e2
    rw [upd_ne (Nat.ne_of_lt hlt)]; exact (hf c hcm).1
  done := by
    intro X hP hw hK hc i pins s σ H E I hf ⟨hz, hTI, ⟨x0, y0, hTO⟩, h1, h2⟩ ⟨xs, ys, hqx, hqy, hend⟩; subst hP hw hK
    obtain ⟨its, rv, p, _⟩ := I.tuple hqx; obtain ⟨its2, rv2, p2, _⟩ := I.list hqy; have m1 := rv.length; have m2 := rv2.length
    have he : its.toArray[i]? = none ∨ its2.toArray[i]? = none := (by rcases hend with q | q; (exact .inl (by simp; omega)); exact .inr (by simp; omega))
    exact py_done (wkT (items := its.toArray) D.l1i1) (wkL (items := its2.toArray) D.l2i2) (I.ok.hd hc) D hz hTI hTO ⟨h1, p⟩ ⟨h2, p2.isList⟩ he fun h' hk => ⟨rfl, I.turnedL (t' := s.toks) (ch := [z, TI, TO, i1, i2]) (fun c o hb q => hk c o (fun q' => hb (by simp [q'])) (fun q' => hb (by simp [q'])) (fun q' => hb (by simp [q'])) (fun q' => hb (by simp [q'])) q) hf⟩
  self := fun A i s Q E st h => wpAny_pyIter_zip st.1 h
end FZ

/-! FZ6: for .., .. in zip(tuple, list). -/
namespace FZ
open PySem RZ L2 PyProof.Rows FL
def iZipM (K : PySem.W.Frag) (ta : TA) : TI := fun σ H R => ta σ H fun vs H1 => ∃ a b xs ys, vs = [.ref a, .ref b] ∧ SqT K H1 a xs ∧ SqL K H1 b ys ∧ R (ItM K a b) H1
theorem pi_zipM {X : Cx} {e e2 : Expr} {ta : TA} {p pos tpos : Pos} {elts : List Expr} {kk : Nat} (hg : Gl X "zip") (hm : X.mg "zip" = none) (ha : PA X [e, e2] ta) (hs : starEach [e, e2] X.env = (false, eval e X.env) :: starEach [e2] X.env) (hpl : (backTo pos (starEach [e2] X.env)).any (·.1) = false) :
    PI X (.Tuple elts kk tpos) (.Call (.Name "zip" p) [e, e2] [] pos) (iZipM X.K ta) := by
  refine ⟨fun pins s σ H R I h => Call_ (ld_blt I hg hm PyProof.Rows.boot_zip (PyProof.Rows.callWith_type1 (thn (ha.run pos pins s σ H _ I h) fun us s1 ⟨vs, H1, I1, r1, a, b, xs, ys, ex, hqx, hqy, q⟩ => ?_) hs hpl))⟩
  subst ex
  cases r1 with
  | cons r rr =>
    cases rr with
    | cons r' rr =>
      cases rr; cases r; cases r'
      obtain ⟨its, rv, p1, _⟩ := I1.tuple hqx; obtain ⟨its2, rv2, p2, _⟩ := I1.list hqy; obtain ⟨o1, ho1, _⟩ := id p1
      have fresh5 : ∀ c, c ∈ [s1.heap.objs.size + 4, s1.heap.objs.size + 2, s1.heap.objs.size + 3, s1.heap.objs.size, s1.heap.objs.size + 1] → FpOk X pins H1 c := fun c hcm => by
        have hle : s1.heap.objs.size ≤ c := (by simp at hcm; omega)
        exact I1.fpOk hle (I1.hok.fresh hle)
      refine zcall (A := "tuple_iterator") (B := "list_iterator") (Pre := fun h => h.IsTuple a its.toArray ∧ h.IsList b its2.toArray) (newTL a b its.toArray its2.toArray) ⟨p1, p2.isList⟩ fun h' hz hTI hTO h1 h2 hk => wpAny_pyIter_zip hz ?_
      have I2 : Inv X pins σ H1 { s1 with heap := h' } := I1.kept (t' := s1.toks) hk
      exact ⟨s1.heap.objs.size + 4, [s1.heap.objs.size + 4, s1.heap.objs.size + 2, s1.heap.objs.size + 3, s1.heap.objs.size, s1.heap.objs.size + 1], _, _, H1, rfl, I2, turnM (PySem.W.ktu_apart s1.heap.objs.size a b (Heap.lt_size ho1) p2.lt), ⟨hz, hTI, ⟨_, _, hTO⟩, ⟨_, h1, rfl, rfl⟩, ⟨_, h2, rfl, rfl⟩⟩, fresh5, q⟩
section
variable {X : Cx} {c : C0} {γ α β : Type} {G : EnvT γ} [Rp α] [Rp β] {a b : Expr} {pos p : Pos}
theorem fi_zipTL {f1 : γ → Xc (Tu α)} {f2 : γ → Xc (List β)} {elts : List Expr} {kk : Nat} {tpos : Pos} (h1 : FE X c G a f1) (h2 : FE X c G b f2) (hm : X.mg "zip" = none) (hg : Gl X "zip" := by rfl) (hs : starEach [a, b] X.env = (false, eval a X.env) :: starEach [b] X.env := by rfl)
    (hs2 : starEach [b] X.env = (false, eval b X.env) :: starEach [] X.env := by rfl) (hpl : (backTo pos (starEach [b] X.env)).any (·.1) = false := by rfl) : FI X c G (.Tuple elts kk tpos) (.Call (.Name "zip" p) [a, b] [] pos) (fun g => (f1 g).bind fun l => (f2 g).bind fun m => Xc.ok (l.l.zip m)) :=
  PI.imp (pi_zipM hg hm (pa_cons h1 (pa_cons h2 pa_nil hs2) hs) hs hpl) fun σ H R ⟨F, g, w, q, p⟩ => by
    refine ⟨F, g, w, q, ?_⟩
    cases e1 : f1 g with
    | ok l =>
      rintro v F1 H1 w1 ⟨a1, xs, rfl, hx, hz, rx⟩
      simp only [e1] at p
      have p : PoI X.K F H R (WE c.W σ) ((f2 g).bind fun m => Xc.ok (l.l.zip m)) := p
      refine ⟨F1, g, w.trans w1, G.mono q w1, ?_⟩
      cases e2 : f2 g with
      | ok m =>
        rintro u F2 H2 w2 ⟨a2, ys, rfl, hy, hz2, ry⟩
        simp only [e2] at p
        have p : PoI X.K F H R (WE c.W σ) (.ok (l.l.zip m)) := p
        have hx2 : SqT X.K F2 a1 xs := Same.seqT w2.f hx
        have rx2 := rx.mono w2.f
        have lz : (l.l.zip m).length = min l.l.length m.length := List.length_zip
        refine ⟨a1, a2, xs, ys, rfl, Same.seqT w2.s hx2, Same.seq w2.s hy, p _ F2 H2 (w1.trans w2) ⟨by rw [lz]; omega, fun F' H' s1 s2 => ⟨xs, ys, Same.seqT (s1.trans s2) hx2, Same.seq (s1.trans s2) hy, ?_⟩, fun i F' H' hi s1 s2 => ?_, fun i t F' H' x H'' e3 s1 s2 y => ?_⟩⟩
        · rw [lz, rx.len, ry.len]; omega
        · rw [lz] at hi
          obtain ⟨vx, h3, _⟩ := rx.get' (List.getElem?_eq_getElem (show i < l.l.length by omega))
          obtain ⟨vy, h4, _⟩ := ry.get' (List.getElem?_eq_getElem (show i < m.length by omega))
          exact ⟨xs, ys, vx, vy, Same.seqT (s1.trans s2) hx2, Same.seq (s1.trans s2) hy, h3, h4⟩
        · obtain ⟨T, vx, vy, rfl, hT, rfl, y1, y2⟩ := y
          obtain ⟨g1, g2⟩ := FL.zip_get e3
          obtain ⟨vx', h3, r3⟩ := rx2.get' g1
          obtain ⟨vy', h4, r4⟩ := ry.get' g2
          have k1 := y1 xs (Same.seqT (s1.trans s2) hx2)
          have k2 := y2 ys (Same.seq (s1.trans s2) hy)
          rw [h3] at k1; rw [h4] at k2; cases k1; cases k2
          have w3 := Wd.new (o := .tup [vx, vy]) s2 hT
          exact ⟨_, w3, T, vx, vy, rfl, SqT.of upd_same, Rp.mono (s1.trans w3.f) r3, Rp.mono (s1.trans w3.f) r4⟩
      | er c' fs => simp only [e2] at p; exact ErP.on (show ErP X.K F H (WE c.W σ) c' fs from p) w1
      | no => simp only [e2] at p; exact p
    | er c' fs => simp only [e1] at p; exact p
    | no => simp only [e1] at p; exact p
end
end FZ

/-! FZ7: a pair as a tuple of any length. -/
namespace FL
open PySem L2
section
variable {X : Cx} {c : C0} {γ α : Type} {G : EnvT γ} [Rp α] {e : Expr}
theorem fe_pairU {fa : γ → Xc (α × α)} (ha : FE X c G e fa) : FE X c G e (fun g => (fa g).bind fun a => Xc.ok (tu [a.1, a.2])) :=
  fe_to (α := α × α) (β := Tu α) (φ := fun a => tu [a.1, a.2]) (fun {K F v a} r => by
    obtain ⟨p, x, y, e, h, r1, r2⟩ := r
    exact ⟨p, [x, y], e, h, small_line (by show 2 ≤ 1000; decide), .cons r1 (.cons r2 .nil)⟩) ha
end
end FL

/-! FS1: sorted(..) of alike data. -/
namespace FL
open PySem L2 PyProof.Rows
section
variable {X : Cx}
def rSortedD (K : PySem.W.Frag) : List V → Hp → VK → Prop := fun vs H Q => ∃ (a : Addr) (β : Type) (bs : List β) (f : β → V) (enc : β → PyData), vs = [.ref a] ∧ SqL K H a (bs.map f) ∧ (∀ b ∈ bs, Dp K H (f b) (enc b)) ∧
  PySem.W.AllAlike (bs.map enc) ∧ PySem.W.Sortable (bs.map enc) ∧ (∀ b ∈ bs, (enc b).depth ≤ 64) ∧ ∀ p, H p = none → Q (.ref p) (upd H p (.lst ((bs.mergeSort (PySem.W.dataLe false enc)).map f)))
theorem each_of_vals {β : Type} {f : β → V} {R : Value → β → Prop} : ∀ {bs : List β} {us : List Value}, Vals (bs.map f) us → (∀ b u, b ∈ bs → RelV (f b) u → R u b) → PySem.W.EachIs R us bs
  | [], us, r, h => by cases r; exact .nil
  | b :: bs, us, r, h => by
    cases r with
    | cons r1 r2 => exact .cons (h _ _ (by simp) r1) (each_of_vals r2 fun b u m => h b u (by simp [m]))
theorem vals_of_each {β : Type} {f : β → V} : ∀ {bs : List β} {us : List Value}, PySem.W.EachIs (fun u b => RelV (f b) u) us bs → Vals (bs.map f) us
  | _, _, .nil => .nil
  | _, _, .cons h t => .cons h (vals_of_each t)
theorem cr_sortedD {k : Nat} (hr : Room k X.A) : CallR X (.builtin "sorted") (rSortedD X.K) := by
  intro pins s σ H vs us Q I r h
  obtain ⟨a, β, bs, f, enc, rfl, hs, hd, hal, hk, hz, q⟩ := h
  obtain ⟨its, rv, hl, hsz⟩ := I.list hs
  obtain ⟨u, rfl, ru⟩ := vals1 r
  obtain rfl : u = Value.ref a := ru
  have hlen : bs.length ≤ sizeLine := by simpa using hsz
  refine PySem.W.sorted_data (R := fun v b => RelV (f b) v) hl.isList (each_of_vals rv fun _ _ _ r => r) (each_of_vals rv fun b u m r => Dp.reads I _ _ _ (hd b m) r) hal hk hlen (fun b hb => by have := hz b hb; have := hr.un; omega) fun out ho eo => ?_
  obtain ⟨n, hn⟩ := sortedAll_at s.heap its out.toArray
  refine ⟨.ref (s.heap.objs.size + 1), _, I.laid (t' := s.toks) (o := .lst ((bs.mergeSort (PySem.W.dataLe false enc)).map f)) (fun b o e => sortedAll_old e) (Nat.le_succ _) ⟨?_, out, n, vals_of_each eo, hn⟩, rfl, q _ (I.hok.fresh (Nat.le_succ _))⟩
  simpa using hlen
end
def alikeB (ds : List PyData) : Bool := ds.all fun d => ds.all fun e => PySem.W.alike d e
def tup1B : PyData → Bool
  | .tuple (_ :: _) => true
  | _ => false
def noTupB : PyData → Bool
  | .tuple _ => false
  | .none => false
  | _ => true
def sortableB (ds : List PyData) : Bool := ds.all tup1B || ds.all noTupB
theorem alikeB_ok {ds : List PyData} (h : alikeB ds = true) : PySem.W.AllAlike ds := fun d hd e he => List.all_eq_true.mp (List.all_eq_true.mp h d hd) e he
theorem sortableB_ok {ds : List PyData} (h : sortableB ds = true) : PySem.W.Sortable ds := by
  rcases Bool.or_eq_true_iff.mp h with h | h
  · refine .inl fun d hd => ?_
    have := List.all_eq_true.mp h d hd
    unfold tup1B at this
    split at this
    · exact ⟨_, _, rfl⟩
    · cases this
  · refine .inr fun d hd => ?_
    have := List.all_eq_true.mp h d hd
    constructor
    · intro e; subst e; cases this
    · intro xs e; subst e; cases this
@[irreducible] def sortX {α : Type} [Rp α] [ToD α] (l : List α) : Xc (List α) := if (l.all fun a => SeqAt.shaped (ToD.d a)) = true ∧ alikeB (l.map ToD.d) = true ∧ sortableB (l.map ToD.d) = true then .ok (l.mergeSort (PySem.W.dataLe false ToD.d)) else .no
section
variable {α : Type} [Rp α] {K : PySem.W.Frag} {F : Hp}
theorem al_zip_mem {xs : List V} {l : List α} (r : Al K F xs l) : ∀ p ∈ xs.zip l, Rp.is K F p.1 p.2 := by
  induction r with
  | nil => intro p h; simp at h
  | cons h t ih =>
    intro p m
    rcases List.mem_cons.mp m with e | m
    · subst e; exact h
    · exact ih p m
theorem al_of_pairs : ∀ {ps : List (V × α)}, (∀ p ∈ ps, Rp.is K F p.1 p.2) → Al K F (ps.map (·.1)) (ps.map (·.2))
  | [], _ => .nil
  | p :: ps, h => .cons (h p (by simp)) (al_of_pairs fun q m => h q (by simp [m]))
theorem al_zip1 {xs : List V} {l : List α} (r : Al K F xs l) : (xs.zip l).map (·.1) = xs := List.map_fst_zip (Nat.le_of_eq r.len)
theorem al_zip2 {xs : List V} {l : List α} (r : Al K F xs l) : (xs.zip l).map (·.2) = l := List.map_snd_zip (Nat.le_of_eq r.len.symm)
end
section
variable {X : Cx} {c : C0} {γ α : Type} {G : EnvT γ} [Rp α] {a : Expr} {pos p : Pos}
theorem fo_sorted [ToD α] {fa : γ → Xc (List α)} {k : Nat} (hr : Room k X.A) (ha : FE X c G a fa) (hm : X.mg "sorted" = none) (hg : Gl X "sorted" := by rfl) (hs : starEach [a] X.env = (false, eval a X.env) :: starEach [] X.env := by rfl) :
    FO X c G (.Call (.Name "sorted" p) [a] [] pos) (fun g => (fa g).bind sortX) :=
  call1O (r := rSortedD X.K) (fun h => pe_callB (cr_sortedD hr) hg hm (by decide +kernel) h (he := hs)) ha hs fun {F H v i Q E} s r p => by
    obtain ⟨q, xs, e, hq, z, al⟩ := r
    subst e
    unfold sortX at p
    by_cases c : (i.all fun a => SeqAt.shaped (ToD.d a)) = true ∧ alikeB (i.map ToD.d) = true ∧ sortableB (i.map ToD.d) = true
    · rw [if_pos c] at p
      obtain ⟨c1, c2, c3⟩ := c
      have e2 : (xs.zip i).map (fun b => ToD.d b.2) = i.map ToD.d := by
        have := congrArg (List.map ToD.d) (al_zip2 al)
        rw [List.map_map] at this
        exact this
      refine ⟨q, V × α, xs.zip i, (·.1), fun b => ToD.d b.2, rfl, by rw [al_zip1 al]; exact Same.seq s hq, fun b hb => dp_mono s (ToD.is (al_zip_mem al b hb)), by rw [e2]; exact alikeB_ok c2, by rw [e2]; exact sortableB_ok c3, fun b hb => ?_, fun p' hp' => ?_⟩
      · have := List.all_eq_true.mp c1 b.2 (List.of_mem_zip hb).2
        exact SeqAt.depth_of_shaped this
      · have ms : ((xs.zip i).mergeSort (PySem.W.dataLe false fun b => ToD.d b.2)).map (·.2) = i.mergeSort (PySem.W.dataLe false ToD.d) := by
          have := List.map_mergeSort (r := PySem.W.dataLe false fun (b : V × α) => ToD.d b.2) (s := PySem.W.dataLe false (ToD.d (α := α))) (f := Prod.snd) (l := xs.zip i) (fun _ _ _ _ => rfl)
          rw [this, al_zip2 al]
        have mem : ∀ b ∈ (xs.zip i).mergeSort (PySem.W.dataLe false fun b => ToD.d b.2), Rp.is X.K F b.1 b.2 := fun b hb => al_zip_mem al b ((List.mergeSort_perm _ _).mem_iff.mp hb)
        have al2 := al_of_pairs mem
        rw [ms] at al2
        refine p p' _ F _ (Wd.newO s hp') hp' (s.free hp') upd_same ?_ al2
        rw [List.length_mergeSort]
        exact z
    · rw [if_neg c] at p; exact p.elim
end
end FL

/-! FS2: list + list of any kind, tuple * int, tuples as tuples of data. -/
namespace FL
open PySem L2 PyProof.Rows
/-! ### list + list -/
section
variable {X : Cx}
def rCatF (K : PySem.W.Frag) : R2 := fun x y H Q => ∃ l b xs zs, x = .ref l ∧ y = .ref b ∧ SqL K H l xs ∧ SqL K H b zs ∧ xs.length + zs.length ≤ sizeLine ∧ ∀ p, H p = none → Q (.ref p) (upd H p (.lst (xs ++ zs)))
theorem op_catF : OpR X (binaryOp .Add) (rCatF X.K) := by
  intro pins s σ H x y v u Q I rx ry h
  obtain ⟨l, b, xs, zs, rfl, rfl, hH, hB, hz, q⟩ := h
  cases rx
  cases ry
  obtain ⟨its, r, hl, _⟩ := I.list hH
  obtain ⟨its2, r2, hl2, _⟩ := I.list hB
  obtain ⟨⟨cls, dd, data, sl⟩, ho, hc, n, hd⟩ := hl.isList
  obtain ⟨⟨cls2, dd2, data2, sl2⟩, ho2, hc2, n2, hd2⟩ := hl2.isList
  simp only at hc hd hc2 hd2
  subst hc hd hc2 hd2
  have e1 := r.length
  have e2 := r2.length
  refine concat_meets ⟨_, ho, rfl⟩ ⟨_, ho2, rfl⟩ noFill_list_add seq_list_add PySem.F.slot_list_add PySem.F.entry_list_add (PySem.F.args_list_add_2 _ _) (list_addW l b its.toArray its2.toArray n n2 dd dd2 sl sl2 (by simp only [List.size_toArray]; omega)) ⟨ho, ho2, ?_⟩
  have ea : its.toArray ++ its2.toArray = (its ++ its2).toArray := by simp
  rw [ea]
  exact ⟨.ref _, _, I.lnew (t' := s.toks) (r.append r2) (by rw [List.length_append]; omega), rfl, q _ I.fresh⟩
end
section
variable {X : Cx} {c : C0} {γ α β ρ : Type} {G : EnvT γ} [Rp α] [Rp β] [Rp ρ] {a b d e tg : Expr} {pos p p2 : Pos}
theorem twoO {a b : Expr} {fa : γ → Xc α} {fb : γ → Xc β} {op : α → β → Xc (List ρ)} {r : R2} {e : Expr} (h : ∀ {ta tb : TE}, PE X a ta → PE X b tb → PE X e (tOp r ta tb)) (ha : FE X c G a fa) (hb : FE X c G b fb)
    (hop : ∀ {F H x y i j Q E}, Same F H → Rp.is X.K F x i → Rp.is X.K F y j → PoO X.K F H Q E (op i j) → r x y H Q) : FO X c G e (fun g => (fa g).bind fun i => (fb g).bind fun j => op i j) :=
  PE.imp (h ha hb) fun σ H Q ⟨F, g, w, q, p⟩ => by
    refine ⟨F, g, w, q, ?_⟩
    cases e1 : fa g with
    | ok l =>
      intro v F1 H1 w1 r1
      simp only [e1] at p
      have p : PoO X.K F H Q (WE c.W σ) ((fb g).bind fun j => op l j) := p
      refine ⟨F1, g, w.trans w1, G.mono q w1, ?_⟩
      cases e2 : fb g with
      | ok m =>
        intro u F2 H2 w2 r2
        simp only [e2] at p
        exact hop w2.s (Rp.mono w2.f r1) r2 (PoO.on (show PoO X.K F H Q (WE c.W σ) (op l m) from p) (w1.trans w2))
      | er c' fs => simp only [e2] at p; exact ErP.on (show ErP X.K F H (WE c.W σ) c' fs from p) w1
      | no => simp only [e2] at p; exact p
    | er c' fs => simp only [e1] at p; exact p
    | no => simp only [e1] at p; exact p
theorem fo_catF {fa fb : γ → Xc (List α)} (ha : FE X c G a fa) (hb : FE X c G b fb) : FO X c G (.BinOp a .Add b pos) (fun g => (fa g).bind fun i => (fb g).bind fun j => catL i j) :=
  twoO (fun h1 h2 => pe_op op_catF h1 h2) ha hb fun {F H x y i j Q E} s r1 r2 p => by
    unfold catL at p
    by_cases h : i.length + j.length ≤ sizeLine
    · rw [if_pos h] at p
      obtain ⟨a1, xs, rfl, hx, hz, rx⟩ := r1
      obtain ⟨a2, ys, rfl, hy, hz2, ry⟩ := r2
      have lx := rx.len
      have ly := ry.len
      refine ⟨a1, a2, xs, ys, rfl, rfl, Same.seq s hx, Same.seq s hy, by omega, fun t ht => ?_⟩
      exact p t _ F _ (Wd.newO s ht) ht (s.free ht) upd_same (by rw [List.length_append]; exact h) (rx.app ry)
    · rw [if_neg h] at p; exact p.elim
/-! ### tuples as tuples of data -/
@[irreducible] def toUD {α : Type} [Rp α] [ToD α] (t : Tu α) : Xc (Tu PyData) := if (t.l.all fun a => SeqAt.shaped (ToD.d a)) = true then .ok (tu (t.l.map ToD.d)) else .no
@[irreducible] def pairUD {α β : Type} [Rp α] [Rp β] [ToD α] [ToD β] (t : α × β) : Xc (Tu PyData) := if SeqAt.shaped (ToD.d t.1) = true ∧ SeqAt.shaped (ToD.d t.2) = true then .ok (tu [ToD.d t.1, ToD.d t.2]) else .no
theorem al_toD {K : PySem.W.Frag} {F : Hp} [ToD α] {vs : List V} {as : List α} (h : Al K F vs as) (z : (as.all fun a => SeqAt.shaped (ToD.d a)) = true) : Al K F vs (as.map ToD.d) := by
  induction h with
  | nil => exact .nil
  | cons h t ih =>
    simp only [List.all_cons, Bool.and_eq_true] at z
    exact .cons ⟨ToD.is h, z.1⟩ (ih z.2)
theorem fe_toUD [ToD α] {fa : γ → Xc (Tu α)} (ha : FE X c G e fa) : FE X c G e (fun g => (fa g).bind toUD) :=
  fe_from (fun {K F v a b} h r => by
    unfold toUD at h
    by_cases z : (a.l.all fun a => SeqAt.shaped (ToD.d a)) = true
    · rw [if_pos z] at h
      cases h
      obtain ⟨p, xs, e, hq, hz, al⟩ := r
      exact ⟨p, xs, e, hq, by show (a.l.map ToD.d).length ≤ _; rw [List.length_map]; exact hz, al_toD al z⟩
    · rw [if_neg z] at h; cases h) (fun a c fs h => by
    unfold toUD at h
    split at h <;> cases h) ha
theorem fe_pairUD [ToD α] [ToD β] {fa : γ → Xc (α × β)} (ha : FE X c G e fa) : FE X c G e (fun g => (fa g).bind pairUD) :=
  fe_from (fun {K F v a b} h r => by
    unfold pairUD at h
    by_cases z : SeqAt.shaped (ToD.d a.1) = true ∧ SeqAt.shaped (ToD.d a.2) = true
    · rw [if_pos z] at h
      cases h
      obtain ⟨p, x, y, e, hq, r1, r2⟩ := r
      exact ⟨p, [x, y], e, hq, by show 2 ≤ _; rw [sizeLine_eq]; decide, .cons ⟨ToD.is r1, z.1⟩ (.cons ⟨ToD.is r2, z.2⟩ .nil)⟩
    · rw [if_neg z] at h; cases h) (fun a c fs h => by
    unfold pairUD at h
    split at h <;> cases h) ha
end
end FL

/-! FS3: tuple * int. -/
namespace FL
open PySem L2 PyProof.Rows PySem.Spec
theorem tuple_mul1 (l : Addr) (items : Array Value) (n : Nat) (dd : Option Addr) (sl : Array (Option Value)) (x : Int) (u : Tok) (c0 : (decide (x < -(2 ^ 63)) || decide (x ≥ 2 ^ 63)) = false) (c1 : (items.isEmpty || x == 1) = true) :
    Meets (Builtin.«tuple.__mul__» ⟨[.ref l, .int x u], []⟩) (fun _ R s => s.heap.get? l = some { cls := .type "tuple", dict := dd, data := .seq items n, slots := sl } ∧
      R (.ok (.ret (Value.ref l))) { s with heap := s.heap, toks := s.toks }) :=
  .of_wp fun prog w A R s h => by
    obtain ⟨hp, g, d, tk, os⟩ := s
    obtain ⟨hl, h⟩ := h
    have f1 := AutoSeq1.idx_int
    have f2 := AutoSeq1.sub_tuple_tuple
    wp_walk using AutoSeq1.wpAny_loadPart' hl
    repeat (first
      | (refine wpAny_ite_false (decide_eq_false (by rw [c0]; exact Bool.false_ne_true)) ?_; wp_walk using AutoSeq1.wpAny_loadPart' hl)
      | (refine wpAny_ite_true (decide_eq_true (by rw [c1])) ?_; wp_walk using AutoSeq1.wpAny_loadPart' hl))
    exact ⟨_, rfl, h⟩
def rRep1 (K : PySem.W.Frag) : R2 := fun x y H Q => ∃ l xs, x = .ref l ∧ y = .int 1 ∧ SqT K H l xs ∧ Q (.ref l) H
theorem op_rep1 {X : Cx} : OpR X (binaryOp .Mult) (rRep1 X.K) := by
  intro pins s σ H x y v u Q I rx ry h
  obtain ⟨l, xs, rfl, rfl, hT, q⟩ := h
  cases rx
  obtain ⟨t, rfl⟩ := ry
  obtain ⟨its, r, ⟨⟨cls, dd, data, sl⟩, ho, hc, n, hd⟩, hs⟩ := I.tuple hT
  simp only at hc hd
  subst hc hd
  have c0 : (decide ((1 : Int) < -(2 ^ 63)) || decide ((1 : Int) ≥ 2 ^ 63)) = false := by decide
  have c1 : (its.toArray.isEmpty || (1 : Int) == 1) = true := by rw [Bool.or_eq_true_iff]; exact .inr (by decide)
  refine wpAny_binaryOp_repeat_ref (T := "tuple") (U := "int") (by decide) ⟨_, ho, rfl⟩ (fun s' => typeIs_int s' 1 t) noFill_tuple_mul F.fills_int_mul F.slot_int_rmul repeat_tuple F.slot_int_index.lookup
    (call_meets F.slot_int_rmul (typeIs_int s 1 t) F.entry_int_rmul (F.args_int_rmul_2 _ _) (int_rmul_tuple 1 t l its.toArray n dd sl)
      ⟨ho, rfl, ⟨_, ho, rfl⟩, call_meets F.slot_tuple_mul ⟨_, ho, rfl⟩ F.entry_tuple_mul (F.args_tuple_mul_2 _ _) (tuple_mul1 l its.toArray n dd sl 1 t c0 c1) ⟨ho, ?_⟩⟩)
  exact ⟨.ref l, H, I.tok _, rfl, q⟩
@[irreducible] def repU {α : Type} (t : Tu α) (k : Int) : Xc (Tu α) := if 1 ≤ k ∧ k ≤ 1000 ∧ t.l.length ≤ 1000 ∧ t.l ≠ [] then .ok (tu (List.replicate k.toNat t.l).flatten) else .no
instance {α : Type} (l : List α) : Decidable (l ≠ []) := by cases l with
  | nil => exact .isFalse (fun h => h rfl)
  | cons => exact .isTrue (fun h => by cases h)
section
variable {X : Cx} {c : C0} {γ α : Type} {G : EnvT γ} [Rp α] {a b e : Expr} {pos : Pos}
theorem fe_repU {fa : γ → Xc (Tu α)} {fb : γ → Xc Int} (ha : FE X c G a fa) (hb : FE X c G b fb) : FE X c G (.BinOp a .Mult b pos) (fun g => (fa g).bind fun i => (fb g).bind fun j => repU i j) :=
  two (fun h1 h2 => pe_op (OpR.or op_rep1 op_repT) h1 h2) ha hb fun {F H x y i j Q E} s r1 r2 p => by
    unfold repU at p
    by_cases h : 1 ≤ j ∧ j ≤ 1000 ∧ i.l.length ≤ 1000 ∧ i.l ≠ []
    · rw [if_pos h] at p
      obtain ⟨a1, xs, rfl, hx, hz, rx⟩ := r1
      have r2 : y = .int j := r2
      subst r2
      obtain ⟨h1, h2, h3, h4⟩ := h
      have lx := rx.len
      have e1 : (List.replicate j.toNat i.l).flatten.length = j.toNat * i.l.length := by rw [List.length_flatten, List.map_replicate, List.sum_replicate_nat]
      have e2 : j.toNat * i.l.length ≤ 1000 * 1000 := Nat.mul_le_mul (by omega) h3
      by_cases k1 : j = 1
      · subst k1
        refine .inl ⟨a1, xs, rfl, rfl, Same.seqT s hx, p.ret s ⟨a1, xs, rfl, hx, ?_, ?_⟩⟩
        · show (List.replicate 1 i.l).flatten.length ≤ sizeLine
          simpa using hz
        · show Al _ _ _ (List.replicate 1 i.l).flatten
          simpa using rx
      · refine .inr ⟨a1, j, xs, rfl, rfl, Same.seqT s hx, fun e => h4 ?_, by omega, h2, by omega, fun t ht => ?_⟩
        · cases q : i.l with
          | nil => rfl
          | cons _ _ => rw [q, e] at lx; cases lx
        · have w2 := Wd.new (o := .tup (List.replicate j.toNat xs).flatten) s ht
          exact p (.ref t) _ _ w2 ⟨t, _, rfl, SqT.of upd_same, by show (List.replicate j.toNat i.l).flatten.length ≤ _; rw [e1, sizeLine_eq]; omega, (al_flat rx j.toNat).mono w2.f⟩
    · rw [if_neg h] at p; exact p.elim
end
end FL

/-! FK1: instances of the text's own classes: fields, methods. -/
namespace FL
open PySem L2
/-- an instance of the class C with the fields ns, whose values stand for α -/
structure Ob (C : Str) (ns : List Str) (α : Type) where
  v : α
instance {C : Str} {ns : List Str} {α : Type} [Rps α] : Rp (Ob C ns α) := ⟨fun K F v o => ∃ p dx vs, v = .ref p ∧ F p = some (.ins (He.ga K C) dx (ns.zip vs)) ∧ vs.length = ns.length ∧ Rps.isL K F vs o.v,
  fun s ⟨p, dx, vs, e, h, l, r⟩ => ⟨p, dx, vs, e, s _ _ h, l, Rps.mono s r⟩⟩
class RpsT (α : Type) [Rps α] : Prop where
  down : ∀ {K F F' vs} {a : α}, (∀ p o, F p = some o → (∀ xs, o ≠ HO.lst xs) → F' p = some o) → Rps.isL K F vs a → Rps.isL K F' vs a
instance : RpsT Unit := ⟨fun _ h => h⟩
instance {α αs : Type} [Rp α] [Rps αs] [RpT α] [RpsT αs] : RpsT (α × αs) := ⟨fun s ⟨v, r, e, h, t⟩ => ⟨v, r, e, RpT.down s h, RpsT.down s t⟩⟩
instance {C : Str} {ns : List Str} {α : Type} [Rps α] [RpsT α] : RpT (Ob C ns α) := ⟨fun s ⟨p, dx, vs, e, h, l, r⟩ => ⟨p, dx, vs, e, s _ _ h (fun _ z => nomatch z), l, RpsT.down s r⟩⟩
instance {C : Str} {ns : List Str} {α : Type} [Rps α] : NotNone (Ob C ns α) := ⟨fun ⟨p, dx, vs, h, _⟩ => by subst h; intro z; cases z⟩
/-- the i-th field -/
class Prj (α : Type) [Rps α] (i : Nat) (τ : outParam Type) (r : outParam (Rp τ)) (π : outParam (α → τ)) : Prop where
  get : ∀ {K F vs} {a : α}, Rps.isL K F vs a → ∃ v, vs[i]? = some v ∧ r.is K F v (π a)
instance {τ αs : Type} [r : Rp τ] [Rps αs] : Prj (τ × αs) 0 τ r (fun a => a.1) := ⟨fun ⟨v, t, e, h, _⟩ => ⟨v, by subst e; rfl, h⟩⟩
instance {β αs τ : Type} [Rp β] [Rps αs] (i : Nat) (r : Rp τ) (π : αs → τ) [P : Prj αs i τ r π] : Prj (β × αs) (i + 1) τ r (fun a => π a.2) := ⟨fun ⟨v, t, e, _, h⟩ => by
  obtain ⟨u, e2, h2⟩ := P.get h
  exact ⟨u, by subst e; exact e2, h2⟩⟩
theorem zip_lookup {f : Str} : ∀ {ns : List Str} {vs : List V} {i : Nat} {v : V}, ns.findIdx (· == f) = i → vs.length = ns.length → vs[i]? = some v → (ns.zip vs).lookup f = some v
  | [], vs, i, v, h, l, e => by
    have : vs = [] := List.length_eq_zero_iff.mp (by simpa using l)
    subst this
    simp at e
  | n :: ns, [], i, v, h, l, e => by simp at l
  | n :: ns, u :: vs, i, v, h, l, e => by
    rw [List.findIdx_cons] at h
    rw [List.zip_cons_cons, List.lookup_cons]
    by_cases q : n = f
    · subst q
      rw [beq_self_eq_true, cond_true] at h
      subst h
      rw [beq_self_eq_true]
      simpa using e
    · rw [beq_eq_false_iff_ne.mpr q, cond_false] at h
      rw [beq_eq_false_iff_ne.mpr (Ne.symm q)]
      subst h
      exact zip_lookup (i := ns.findIdx (· == f)) rfl (by simpa using l) (by simpa using e)
theorem zip_none {f : Str} : ∀ {ns : List Str} {vs : List V}, f ∉ ns → (ns.zip vs).lookup f = none
  | [], vs, h => rfl
  | n :: ns, [], h => rfl
  | n :: ns, u :: vs, h => by
    have h1 : f ≠ n := fun e => h (by rw [e]; exact List.mem_cons_self)
    rw [List.zip_cons_cons, List.lookup_cons, beq_eq_false_iff_ne.mpr h1]
    exact zip_none fun m => h (List.mem_cons_of_mem _ m)
section
variable {X : Cx} {c : C0} {γ α τ ρ αs : Type} {G : EnvT γ} [Rps α] [Rp ρ] [Rps αs] {e o : Expr} {es : List Expr} {pos apos : Pos} {C : Str} {ns : List Str} {k j : Nat} {m : Str}
/-- e.f -/
theorem fe_fld (i : Nat) {r : Rp τ} {π : α → τ} [P : Prj α i τ r π] {f : Str} {fa : γ → Xc (Ob C ns α)} (ha : FE X c G e fa) (cl : Cls X.K (He.ga X.K C)) (na : NoAttr X.K (He.ga X.K C) f) (hi : ns.findIdx (· == f) = i := by decide)
    (hb : attributeBase e f X.env (eval e X.env) = eval e X.env := by rfl) : FE X c G (.Attribute e f pos) (fun g => (fa g).bind fun o => Xc.ok (π o.v)) :=
  PE.imp (pe_fld ha hb) fun σ H Q ⟨F, g, w, q, h⟩ => by
    refine ⟨F, g, w, q, ?_⟩
    cases e1 : fa g with
    | ok o =>
      intro v F1 H1 w1 r1
      simp only [e1] at h
      obtain ⟨p, dx, vs, ev, hp, hl, hr⟩ := r1
      obtain ⟨u, hu, ru⟩ := P.get hr
      exact ⟨p, _, dx, _, u, ev, w1.s _ _ hp, cl, na, zip_lookup hi hl hu, h u F1 H1 w1 ru⟩
    | er c' fs => simp only [e1] at h; exact h
    | no => simp only [e1] at h; exact h
end
/-! methods -/
section
variable {X : Cx} {CX : CXT} {k : Nat} {f C : Addr} {fd : FuncData} {ps : List Str} {sp : Sp} {E : St → XK} {m : Str} {pos apos : Pos} {e o : Expr} {es : List Expr} {ta : TE} {t : TA} {pl : Sem Bool}
def tMethW (C : Addr) (m : Str) (sp : Sp) (E : St → XK) (ta : TE) (t : TA) : TE := fun σ H Q => ta σ H fun x H1 => ∃ a dx fs, x = .ref a ∧ H1 a = some (.ins C dx fs) ∧ fs.lookup m = none ∧ t σ H1 fun vs H2 => sp (x :: vs) H2 Q (E σ)
theorem pe_methW (he : PE X o ta) (c : Cls X.K C) (hm : Meth X.K C m f) (F : FnOk X.prog X.w X.K X.mg X.base CX k f fd ps sp) (hr : Room k X.A) (hb : Binds X.K fd ps []) (hx : ∀ σ, PassesAt CX X σ (E σ)) (ha : PA X (e :: es) t)
    (hst : starEach (e :: es) X.env = (false, eval e X.env) :: starEach es X.env := by rfl) (hpl : (backTo pos (starEach es X.env)).any (·.1) = false := by rfl)
    (ht : eval (.Call (.Attribute o m apos) (e :: es) [] pos) X.env = (do
      let ov ← eval o X.env
      standAt apos.atName
      let (f, first) ← holding [ov] (getMethod ov m pl)
      callWith pos f first (backTo pos (starEach (e :: es) X.env)) (backToKw pos (keywordEach [] X.env))) := by rfl) :
    PE X (.Call (.Attribute o m apos) (e :: es) [] pos) (tMethW C m sp E ta t) := by
  refine ⟨fun pins s σ H Q I h => ?_⟩
  refine PySem.W.methodCall_KW (pl := pl) (thn (he.run pins s σ H _ I h) fun u s1 ⟨x, H1, I1, rx, a, dx, fs, ex, ea, l, q⟩ => ?_) ht
  subst ex
  obtain rfl : u = Value.ref a := rx
  refine getmeth_ok I1 ea c hm l ?_
  refine PySem.W.callWith_K (first := [.ref a]) (h₀ := X.base) I.ok.mod.kin hm.kp (thn (ha.run pos pins s1 σ H1 _ I1 q) fun us s2 ⟨vs, H2, I2, r, q2⟩ => ⟨I2.kIn, ?_⟩) hst hpl
  exact run_fnS (us := .ref a :: us) (vs := .ref a :: vs) F hr hb (hx σ) I2 (.cons rfl r) q2
theorem pe_methW0 (he : PE X o ta) (c : Cls X.K C) (hm : Meth X.K C m f) (F : FnOk X.prog X.w X.K X.mg X.base CX k f fd ps sp) (hr : Room k X.A) (hb : Binds X.K fd ps []) (hx : ∀ σ, PassesAt CX X σ (E σ))
    (ht : eval (.Call (.Attribute o m apos) [] [] pos) X.env = (do
      let ov ← eval o X.env
      standAt apos.atName
      let (f, first) ← holding [ov] (getMethod ov m pl)
      callWith pos f first (backTo pos (starEach [] X.env)) (backToKw pos (keywordEach [] X.env))) := by rfl) :
    PE X (.Call (.Attribute o m apos) [] [] pos) (tMethW C m sp E ta tNil) := by
  refine ⟨fun pins s σ H Q I h => ?_⟩
  refine PySem.W.methodCall_KW (pl := pl) (thn (he.run pins s σ H _ I h) fun u s1 ⟨x, H1, I1, rx, a, dx, fs, ex, ea, l, q⟩ => ?_) ht
  subst ex
  obtain rfl : u = Value.ref a := rx
  refine getmeth_ok I1 ea c hm l ?_
  exact PySem.W.callWith_K0 (first := [.ref a]) I1.kIn hm.kp (run_fnS (us := [.ref a]) (vs := [.ref a]) F hr hb (hx σ) I1 (.cons rfl .nil) q)
end
/-- the method m of the class C keeps the promise sp -/
structure Dm (P : Program) (w : World) (K : PySem.W.Frag) (mg : Str → Option Value) (base : Heap) (C m : Str) (ps : List Str) (k : Nat) (sp : Sp) : Prop where
  ex : ∃ fd, FnOk P w K mg base (L2.CX P w) k (He.ma K (He.ga K C) m) fd ps sp ∧ Binds K fd ps []
  meth : Meth K (He.ga K C) m (He.ma K (He.ga K C) m)
section
variable {X : Cx} {c : C0} {γ α ρ αs : Type} {G : EnvT γ} [Rps α] [Rp ρ] [Rps αs] {e o : Expr} {es : List Expr} {pos apos : Pos} {C : Str} {ns : List Str} {ps : List Str} {k j : Nat} {m : Str} {pl : Sem Bool}
/-- o.m(e, ..) -/
theorem fe_meth {mm : Ob C ns α × αs → Xc ρ} {fa : γ → Xc (Ob C ns α)} {fs : γ → Xc αs} (D : Dm X.prog X.w X.K X.mg X.base C m ps j (spF X.K (rtF ρ) mm)) (cl : Cls X.K (He.ga X.K C)) (tk : Takes X c.W) (hr : Room k X.A) (he : FE X c G o fa) (ha : FA X c G (e :: es) fs) (hn : m ∉ ns := by decide) (hjk : j ≤ k := by decide)
    (hst : starEach (e :: es) X.env = (false, eval e X.env) :: starEach es X.env := by rfl) (hpl : (backTo pos (starEach es X.env)).any (·.1) = false := by rfl)
    (ht : eval (.Call (.Attribute o m apos) (e :: es) [] pos) X.env = (do
      let ov ← eval o X.env
      standAt apos.atName
      let (f, first) ← holding [ov] (getMethod ov m pl)
      callWith pos f first (backTo pos (starEach (e :: es) X.env)) (backToKw pos (keywordEach [] X.env))) := by rfl) :
    FE X c G (.Call (.Attribute o m apos) (e :: es) [] pos) (fun g => (fa g).bind fun x => (fs g).bind fun as => mm (x, as)) := by
  obtain ⟨⟨fd, F, B⟩, hm⟩ := D
  refine PE.imp (pe_methW (E := WE c.W) he cl hm F (hr.mono hjk) B (fun σ => passAt tk σ) ha hst hpl ht) fun σ H Q ⟨F, g, w, q, h⟩ => ?_
  refine ⟨F, g, w, q, ?_⟩
  cases e1 : fa g with
  | ok x =>
    intro v F1 H1 w1 r1
    simp only [e1] at h
    have h : Po X.K F H Q (WE c.W σ) ((fs g).bind fun as => mm (x, as)) := h
    have rx := r1
    obtain ⟨p, dx, vs, ev, hp, hl, hrr⟩ := r1
    refine ⟨p, dx, _, ev, w1.s _ _ hp, zip_none hn, F1, g, w.trans w1, G.mono q w1, ?_⟩
    cases e2 : fs g with
    | ok as =>
      intro us F2 H2 w2 r2
      simp only [e2] at h
      have h : Po X.K F H Q (WE c.W σ) (mm (x, as)) := h
      refine ⟨F2, (x, as), w2.s, ⟨v, us, rfl, Rp.mono w2.f rx, r2⟩, ?_⟩
      revert h
      cases mm (x, as) with
      | ok r => exact fun h v F3 H3 w3 rr => h v F3 H3 ((w1.trans w2).trans w3) rr
      | er cc fs => exact fun h => ErP.on h (w1.trans w2)
      | no => exact fun h => h
    | er c' fs => simp only [e2] at h; exact ErP.on h w1
    | no => simp only [e2] at h; exact h
  | er c' fs => simp only [e1] at h; exact h
  | no => simp only [e1] at h; exact h
theorem fe_meth0 {mm : Ob C ns α × Unit → Xc ρ} {fa : γ → Xc (Ob C ns α)} (D : Dm X.prog X.w X.K X.mg X.base C m ps j (spF X.K (rtF ρ) mm)) (cl : Cls X.K (He.ga X.K C)) (tk : Takes X c.W) (hr : Room k X.A) (he : FE X c G o fa) (hn : m ∉ ns := by decide) (hjk : j ≤ k := by decide)
    (ht : eval (.Call (.Attribute o m apos) [] [] pos) X.env = (do
      let ov ← eval o X.env
      standAt apos.atName
      let (f, first) ← holding [ov] (getMethod ov m pl)
      callWith pos f first (backTo pos (starEach [] X.env)) (backToKw pos (keywordEach [] X.env))) := by rfl) :
    FE X c G (.Call (.Attribute o m apos) [] [] pos) (fun g => (fa g).bind fun x => mm (x, ())) := by
  obtain ⟨⟨fd, F, B⟩, hm⟩ := D
  refine PE.imp (pe_methW0 (E := WE c.W) he cl hm F (hr.mono hjk) B (fun σ => passAt tk σ) ht) fun σ H Q ⟨F, g, w, q, h⟩ => ?_
  refine ⟨F, g, w, q, ?_⟩
  cases e1 : fa g with
  | ok x =>
    intro v F1 H1 w1 r1
    simp only [e1] at h
    have h : Po X.K F H Q (WE c.W σ) (mm (x, ())) := h
    have rx := r1
    obtain ⟨p, dx, vs, ev, hp, hl, hrr⟩ := r1
    refine ⟨p, dx, _, ev, w1.s _ _ hp, zip_none hn, F1, (x, ()), w1.s, ⟨v, [], rfl, rx, rfl⟩, ?_⟩
    revert h
    cases mm (x, ()) with
    | ok r => exact fun h v F3 H3 w3 rr => h v F3 H3 (w1.trans w3) rr
    | er cc fs => exact fun h => ErP.on h w1
    | no => exact fun h => h
  | er c' fs => simp only [e1] at h; exact h
  | no => simp only [e1] at h; exact h
end
end FL

/-! FK2: instances made. -/
namespace FL
open PySem L2
/-- a value behind the others -/
class Snc (α : Type) [Rps α] (τ : Type) [Rp τ] {β : outParam Type} [Rps β] (ap : outParam (α → τ → β)) : Prop where
  ap : ∀ {K F vs v} {a : α} {t : τ}, Rps.isL K F vs a → Rp.is K F v t → Rps.isL K F (vs ++ [v]) (ap a t)
instance {τ : Type} [Rp τ] : Snc Unit τ (fun _ t => (t, ())) := ⟨fun {K F vs v a t} h r => by have h : vs = [] := h; subst h; exact ⟨v, [], rfl, r, rfl⟩⟩
instance {α αs τ β : Type} [Rp α] [Rps αs] [Rp τ] [Rps β] (ap : αs → τ → β) [S : Snc αs τ ap] : Snc (α × αs) τ (fun a t => (a.1, ap a.2 t)) := ⟨fun ⟨v, r, e, h, q⟩ r' => by subst e; exact ⟨v, _, rfl, h, S.ap q r'⟩⟩
theorem putF_zip {f : Str} {v : V} : ∀ {ns : List Str} {vs : List V}, f ∉ ns → vs.length = ns.length → putF f v (ns.zip vs) = (ns ++ [f]).zip (vs ++ [v])
  | [], vs, _, l => by
    have : vs = [] := List.length_eq_zero_iff.mp (by simpa using l)
    subst this
    rfl
  | n :: ns, [], _, l => by simp at l
  | n :: ns, u :: vs, h, l => by
    have h1 : ¬ n = f := fun e => h (by rw [e]; exact List.mem_cons_self)
    have ih := putF_zip (f := f) (v := v) (ns := ns) (vs := vs) (fun m => h (List.mem_cons_of_mem _ m)) (by simpa using l)
    rw [List.zip_cons_cons, List.cons_append, List.cons_append, List.zip_cons_cons, ← ih]
    show (if n = f then _ else _) = _
    rw [if_neg h1]
/-- self, under construction: what H0 holds of it -/
def sf (x : Addr) (C : Str) (ns : List Str) (α : Type) {γ : Type} [Rps α] (G : EnvT γ) : EnvT (α × γ) where
  rel := fun K H0 F H σ g => ∃ dx vs σ', σ = some (.ref x) :: σ' ∧ H0 x = some (.ins (He.ga K C) dx (ns.zip vs)) ∧ vs.length = ns.length ∧ Rps.isL K F vs g.1 ∧ G.rel K H0 F H σ' g.2
  own := fun σ => G.own σ.tail
  mono := fun ⟨dx, vs, σ', e, h0, l, r, h⟩ w => ⟨dx, vs, σ', e, h0, l, Rps.mono w.f r, G.mono h w⟩
  mu := fun ⟨dx, vs, σ', e, h0, l, r, h⟩ n => ⟨dx, vs, σ', e, h0, l, r, G.mu h (by subst e; exact n)⟩
  al := fun ⟨dx, vs, σ', e, h0, l, r, h⟩ n => G.al h (by subst e; exact n)
section
variable {x : Addr} {C : Str} {ns : List Str} {α : Type} [Rps α]
instance {τ γ : Type} [r : Rp τ] (G : EnvT γ) (i : Nat) (π : γ → τ) [a : At G i τ r π] : At (sf x C ns α G) (i + 1) τ r (fun g => π g.2) := ⟨fun ⟨dx, vs, σ', e, _, _, _, q⟩ => by
  obtain ⟨u, e2, q2⟩ := a.get q
  exact ⟨u, by subst e; exact e2, q2⟩⟩
instance {τ γ δ : Type} [Rp τ] (G : EnvT γ) (i : Nat) (G' : EnvT δ) (ψ : γ → τ → δ) [P : Put G i τ G' ψ] : Put (sf x C ns α G) (i + 1) τ (sf x C ns α G') (fun g a => (g.1, ψ g.2 a)) :=
  ⟨fun ⟨dx, vs, σ', e, h0, l, r', q⟩ r => ⟨dx, vs, σ'.set i _, by subst e; rfl, h0, l, r', P.put q r⟩, fun ⟨dx, vs, σ', e, h0, l, r', q⟩ h => by subst e; exact P.own q h⟩
instance {γ δ : Type} {G : EnvT γ} {i : Nat} {G' : EnvT δ} {h : γ → δ} [W : Wi1 G i G' h] : Wi1 (sf x C ns α G) (i + 1) (sf x C ns α G') (fun g => (g.1, h g.2)) := ⟨fun z ⟨dx, vs, σ', e, h0, l, r, q⟩ => ⟨dx, vs, σ'.set i z, by subst e; rfl, h0, l, r, W.wi z q⟩, fun z ⟨dx, vs, σ', e, h0, l, r, q⟩ m => by subst e; exact W.own z q m⟩
instance subSf {γ γ' : Type} {G : EnvT γ} {G' : EnvT γ'} {h : γ → γ'} [S : Sub G G' h] : Sub (sf x C ns α G) (sf x C ns α G') (fun g => (g.1, h g.2)) :=
  ⟨fun ⟨dx, vs, σ', e, h0, l, r, q⟩ => ⟨dx, vs, σ', e, h0, l, r, S.sub q⟩, fun ⟨dx, vs, σ', e, h0, l, r, q⟩ m => by subst e; exact S.own q m⟩
end
/-- slots that lean on no list of one's own -/
class Stab {γ : Type} (G : EnvT γ) : Prop where
  st : ∀ {K H0 F H H0' F' H' σ g}, G.rel K H0 F H σ g → Same F F' → G.rel K H0' F' H' σ g
instance : Stab nl := ⟨fun h _ => h⟩
instance {α γ : Type} [Rp α] (G : EnvT γ) [S : Stab G] : Stab (va α G) := ⟨fun ⟨v, σ', e, r, q⟩ s => ⟨v, σ', e, Rp.mono s r, S.st q s⟩⟩
instance {γ : Type} (G : EnvT γ) [S : Stab G] : Stab (un G) := ⟨fun ⟨v, σ', e, q⟩ s => ⟨v, σ', e, S.st q s⟩⟩
section
variable {X : Cx} {γ γ1 α β τ ρ αs : Type} {G : EnvT γ} {G1 : EnvT γ1} [Rps α] [Rps β] [Rp τ] [Rps ρ] [Rps αs] {e o : Expr} {es : List Expr} {pos apos p : Pos} {C : Str} {ns nsF : List Str} {k j : Nat} {f slf : Str} {x : Addr} {st : Stmt} {sts : List Stmt}
/-- self.f, read while self is under construction -/
theorem fe_slf (i : Nat) {c : C0} {r : Rp τ} {π : α → τ} [P : Prj α i τ r π] (cl : Cls X.K (He.ga X.K C)) (na : NoAttr X.K (He.ga X.K C) f) (hi : ns.findIdx (· == f) = i := by decide) (hN : X.N[0]? = some slf := by rfl)
    (hv : Vis X.env.scope slf := by first | exact Or.inl rfl | exact Or.inr (Or.inl rfl) | exact Or.inr (Or.inr rfl)) (hd : (slf == ("__debug__" : Str)) = false := by decide) (hcd : (slf == ("__classdict__" : Str)) = false := by decide)
    (hb : attributeBase (.Name slf p) f X.env (eval (.Name slf p) X.env) = eval (.Name slf p) X.env := by rfl) : FE X c (sf x C ns α G) (.Attribute (.Name slf p) f pos) (fun g => Xc.ok (π g.1)) :=
  PE.imp (pe_fld (pe_var (i := 0) hN hv hd hcd) hb) fun σ H Q ⟨F, g, w, q, h⟩ => by
    obtain ⟨dx, vs, σ', e, h0, l, r', q'⟩ := q
    obtain ⟨u, hu, ru⟩ := P.get r'
    subst e
    exact ⟨.ref x, rfl, x, _, dx, _, u, rfl, w.h _ _ h0, cl, na, zip_lookup hi l hu, h u F H (Wd.refl w.s) ru⟩
/-- what the rest of an __init__ leaves -/
def PoK_ (K : PySem.W.Frag) (c : C1) (C : Str) (nsF : List Str) (x : Addr) (D : Ends) (m : Xc ρ) : Prop := match m with
  | .ok r => ∀ σ' F' H' dx vs, Wd c.F0 c.H0 F' H' → F' x = none → H' x = some (.ins (He.ga K C) dx (nsF.zip vs)) → vs.length = nsF.length → Rps.isL K F' vs r → D.nx σ' H'
  | .er cc fs => ∀ σ', ErP K c.F0 c.H0 (WE c.W σ') cc fs
  | .no => False
def tK_ (K : PySem.W.Frag) (c : C1) (C : Str) (ns nsF : List Str) (x : Addr) (G : EnvT γ) (m : α × γ → Xc ρ) : TS := fun D σ H => ∃ F1 H1 F g, Wd F1 H1 F H ∧ Wd c.F0 c.H0 F1 H1 ∧ c.H0 x = none ∧ F1 x = none ∧ (sf x C ns α G).rel K H1 F H σ g ∧ PoK_ K c C nsF x D (m g)
/-- the rest of an __init__: the fields that self has in the end -/
def FK_ (X : Cx) (c : C1) (C : Str) (ns nsF : List Str) (x : Addr) (G : EnvT γ) (sts : List Stmt) (m : α × γ → Xc ρ) : Prop := PSs X sts (tK_ X.K c C ns nsF x G m)
theorem fk_nil {c : C1} : FK_ X c C ns ns x G [] (fun g : α × γ => Xc.ok g.1) := PSs.imp pss_nil fun D σ H ⟨F1, H1, F, g, w1, w, h0, hf, ⟨dx, vs, σ', e, hx, l, r, q⟩, p⟩ => p σ F H dx vs (w.trans w1) (w1.own hf hx) (w1.h _ _ hx) l r
theorem Wd.put {F0 H0 F H : Hp} {x : Addr} {o : HO} (w : Wd F0 H0 F H) (h0 : H0 x = none) (f : F x = none) : Wd F0 H0 F (upd H x o) :=
  ⟨w.f, fun b u e => by rw [upd_ne (ne_of_none e h0)]; exact w.h b u e, fun b u e => by rw [upd_ne (ne_of_none e f)]; exact w.s b u e, w.n⟩
theorem fk_n {c : C1} {st : Stmt} {m1 : α × γ → Xc (α × γ1)} {m2 : α × γ1 → Xc ρ} (h1 : ∀ F' H', FN X ⟨⟨F', H', c.W⟩, c.M⟩ (sf x C ns α G) st (sf x C ns α G1) m1) (h2 : FK_ X c C ns nsF x G1 sts m2) : FK_ X c C ns nsF x G (st :: sts) (fun g => (m1 g).bind m2) := by
  have h1' : PS X st (fun D σ H => ∃ F' H', tN X.K ⟨⟨F', H', c.W⟩, c.M⟩ (sf x C ns α G) (sf x C ns α G1) m1 D σ H) := ⟨fun pins s σ H D I ⟨F', H', q⟩ => (h1 F' H').run pins s σ H D I q⟩
  refine PSs.imp (pss_cons h1' h2) fun D σ H ⟨F1, H1, F, g, w1, w, h0, hf, q, p⟩ => ?_
  refine ⟨F1, H1, F, g, w1, q, ?_⟩
  obtain ⟨dx0, vs0, _, _, hx0, _⟩ := q
  cases e1 : m1 g with
  | ok g1 =>
    intro σ' F' H' w2 a1 q1
    simp only [e1] at p
    exact ⟨F1, H1, F', g1, w2.w, w, h0, hf, q1, p⟩
  | er c' fs =>
    simp only [e1] at p
    intro σ' F' H' w2 a1
    exact ErP.on (show ErP X.K c.F0 c.H0 (WE c.W σ') c' fs from p σ') (w.trans w2.w)
  | no => simp only [e1] at p; exact p
theorem fk_fld {c : C1} {ap : α → τ → β} [S : Snc α τ ap] [T : Stab G] {fe : α × γ → Xc τ} {m2 : β × γ → Xc ρ} {value : Expr} {pos' : Pos} (he : ∀ F' H', FE X ⟨F', H', c.W⟩ (sf x C ns α G) value fe) (h2 : FK_ X c C (ns ++ [f]) nsF x G sts m2) (cl : Cls X.K (He.ga X.K C)) (na : NoAttr X.K (He.ga X.K C) f)
    (hnf : f ∉ ns := by decide) (hnl : ns.length < 1000 := by decide) (hN : X.N[0]? = some slf := by rfl)
    (hv : Vis X.env.scope slf := by first | exact Or.inl rfl | exact Or.inr (Or.inl rfl) | exact Or.inr (Or.inr rfl)) (hd : (slf == ("__debug__" : Str)) = false := by decide) (hcd : (slf == ("__classdict__" : Str)) = false := by decide)
    (hs : swapsWith value (some (.Attribute (.Name slf p) f pos')) pos.line X.env = pure false := by rfl) :
    FK_ X c C ns nsF x G (.Assign [.Attribute (.Name slf p) f pos'] value pos :: sts) (fun g => (fe g).bind fun t => m2 (ap g.1 t, g.2)) := by
  have he' : PE X value (fun σ H Q => ∃ F' H', tF X.K ⟨F', H', c.W⟩ (sf x C ns α G) fe σ H Q) := ⟨fun pins s σ H Q I ⟨F', H', q⟩ => (he F' H').run pins s σ H Q I q⟩
  refine PSs.imp (pss_cons (ps_fld (pe_var (i := 0) hN hv hd hcd) he' hs) h2) fun D σ H ⟨F2, H2, F, g, w2, w, h0, hf, q, p⟩ => ?_
  refine ⟨F2, H2, F, g, w2, q, ?_⟩
  obtain ⟨dx, vs, σ', e, hx, l, r, q'⟩ := q
  have hf' := w2.own hf hx
  replace hx := w2.h _ _ hx
  replace w := w.trans w2
  replace hf := hf'
  cases e1 : fe g with
  | ok t =>
    intro v F1 H1 w1 r1
    simp only [e1] at p
    have hx1 : H1 x = some (.ins (He.ga X.K C) dx (ns.zip vs)) := w1.h _ _ hx
    have hf1 : F1 x = none := w1.own hf hx
    refine ⟨.ref x, by rw [e]; rfl, x, _, dx, ns.zip vs, rfl, hx1, cl, na, by rw [List.length_zip, l]; omega, ?_⟩
    rw [putF_zip hnf l]
    refine ⟨F1, _, F1, (ap g.1 t, g.2), Wd.refl ((w.trans w1).put h0 hf1).s, (w.trans w1).put h0 hf1, h0, hf1, ⟨dx, vs ++ [v], σ', e, upd_same, by rw [List.length_append, List.length_append, l]; rfl, S.ap (Rps.mono w1.f r) r1, T.st q' w1.f⟩, p⟩
  | er c' fs =>
    simp only [e1] at p
    exact ErP.on (show ErP X.K c.F0 c.H0 (WE c.W σ) c' fs from p σ) w
  | no => simp only [e1] at p; exact p
end
end FL

/-! FK3: __init__, calls of a class. -/
namespace FL
open PySem L2
section
variable {X : Cx} {γ γ' : Type} {c : C1} {G : EnvT γ} {G' : EnvT γ'} {pos pos2 p p2 : Pos} {j : Nat}
/-- raise X('..') -/
theorem fn_rai {x m : Str} (tk : Takes X c.W) (k : Xk X.K X.mg x) (hc : X.calm = true := by rfl) (hg : Gl X x := by rfl) (hdb : (x == ("__debug__" : Str)) = false := by decide) :
    FN X c G (.Raise (some (.Call (.Name x p) [.Constant (.str m) j p2] [] pos)) none pos2) G' (fun _ => Xc.er x []) :=
  PS.imp (ps_raise hc tk (pmk_own PySem.F.excBase_ValueError k.q k.mg k.kp (raises_own k.h1 k.h2) hg hdb)) fun D σ H ⟨F, g, w, q, d⟩ => d σ F H (Ws.refl w) Ag.refl F H (Wd.refl w.s)
end
/-- what an __init__ promises -/
def PoM {ρ : Type} [Rps ρ] (K : PySem.W.Frag) (C : Str) (ns : List Str) (x : Addr) (F H1 : Hp) (Q : VK) (E : XK) (m : Xc ρ) : Prop := match m with
  | .ok r => ∀ F' H' dx vs, Wd F H1 F' H' → F' x = none → H' x = some (.ins (He.ga K C) dx (ns.zip vs)) → vs.length = ns.length → Rps.isL K F' vs r → Q .non H'
  | .er cc fs => ErP K F H1 E cc fs
  | .no => False
def spI {αs ρ : Type} [Rps αs] [Rps ρ] (K : PySem.W.Frag) (C : Str) (ns : List Str) (m : αs → Xc ρ) : Sp := fun vs H Q E => ∃ x dx H1 F ws as, vs = .ref x :: ws ∧ H = upd (upd H1 dx (.own x)) x (.ins (He.ga K C) dx []) ∧ H1 x = none ∧ H1 dx = none ∧ dx ≠ x ∧ Same F H1 ∧ Rps.isL K F ws as ∧
  PoM K C ns x F H1 Q E (m as)
section
variable {P : Program} {w : World} {K : PySem.W.Frag} {mg : Str → Option Value} {base : Heap} {αs ρ γ : Type} [Rps αs] [Rps ρ] {G : EnvT γ} {h : αs → γ}
/-- the context of an __init__'s body -/
def cI (F H : Hp) (E : XK) : C1 := { F0 := F, H0 := H, W := fun cls d _ H => E cls d H, M := fun _ => true }
theorem fn_init {C : Str} {nsF : List Str} {x qual : Str} {params : Arguments} {body : List Stmt} {scope : Scope} {dvs : List V} {kws : List (Str × V)} {f : Addr} {fd : FuncData} {N ps : List Str} {k n pn : Nat} {m : αs → Xc ρ} {fm : Unit × γ → Xc ρ}
    (Fd : FunD K x qual params body scope dvs kws f fd) (S : FnScope N ps scope) [RN : RpsN αs pn] (hpn : ps.length = pn + 1) [ET : EntryT αs n G h] (hn : N.length = pn + 1 + n)
    (hb : ∀ (cdv : Value) (A : Around) (outer : List Env) (s : Shared) (F H1 H : Hp) (E : XK) (x : Addr), Room k (A.deeper (PyProof.Rows.envOfC qual scope s.heap.objs.size f cdv)) → 
      Takes (cxOf (L2.CX P w) P w K mg base N qual scope f cdv A outer s H E) (cI F H1 E).W →
      FK_ (cxOf (L2.CX P w) P w K mg base N qual scope f cdv A outer s H E) (cI F H1 E) C [] nsF x G body fm)
    (hm : ∀ as, m as = fm ((), h as)) : FnOk P w K mg base (L2.CX P w) (k + 1) f fd ps (spI K C nsF m) := by
  refine Fd.ok S (fun vs H Q E ⟨x, dx, H1, F, ws, as, e, _, _, _, _, _, r, _⟩ => by rw [hpn, e, List.length_cons, RN.len r]) fun cdv A outer s H vs Q E hr ⟨x, dx, H1, F, ws, as, e, eH, hx, hd, hne, sm, r, p⟩ => ?_
  have fx : F x = none := sm.free hx
  have fd : F dx = none := sm.free hd
  refine ⟨_, hb cdv A outer s F H1 H E x hr (takes_of rfl rfl rfl rfl), F, H, F, ((), h as), Wd.refl ?_, ?_, hx, fx, ⟨dx, [], ws.map some ++ List.replicate (N.length - vs.length) none, ?_, ?_, rfl, rfl, ?_⟩, ?_⟩
  · subst eH
    exact (((Wd.refl sm).put hd fd).put hx fx).s
  · subst eH
    exact ((Wd.refl sm).put hd fd).put hx fx
  · subst e; rfl
  · subst eH; exact upd_same
  · have e2 : N.length - vs.length = n := by rw [e, List.length_cons, RN.len r, hn]; omega
    rw [e2]
    exact ET.st r (Nat.le_refl _)
  · rw [hm as] at p
    revert p
    cases fm ((), h as) with
    | ok t => exact fun p σ' F' H' dx vs w f' h' l r' => p F' H' dx vs w f' h' l r'
    | er cc fs => exact fun p σ' => p
    | no => exact fun p => p
end
/-! C(..) -/
section
variable {X : Cx} {CX : CXT} {k : Nat} {f C : Addr} {fd : FuncData} {ps : List Str} {sp : Sp} {E : St → XK} {x : Str} {pos p : Pos} {e : Expr} {es : List Expr} {t : TA} {dvs : List V} {ds : List Value}
def tMakeW (C : Addr) (sp : Sp) (dvs : List V) (E : St → XK) (t : TA) : TE := fun σ H Q => t σ H fun vs H1 => ∀ x dx, H1 x = none → H1 dx = none → dx ≠ x →
  sp (.ref x :: (vs ++ dvs)) (upd (upd H1 dx (.own x)) x (.ins C dx [])) (fun v H2 => v = .non ∧ Q (.ref x) H2) (E σ)
theorem run_makeW {pins : List (Addr × Obj)} {σ : St} {H : Hp} {s : Shared} {Q : VK} {us : List Value} {vs : List V} (M : Mk X.K C f) (F : FnOk X.prog X.w X.K X.mg X.base CX k f fd ps sp) (hr : Room (k + 1) X.A) (hb : Binds X.K fd ps ds) (hd : Vals dvs ds)
    (hx : PassesAt CX X σ (E σ)) (I : Inv X pins σ H s) (r : Vals vs us)
    (h : ∀ x dx, H x = none → H dx = none → dx ≠ x → sp (.ref x :: (vs ++ dvs)) (upd (upd H dx (.own x)) x (.ins C dx [])) (fun v H2 => v = .non ∧ Q (.ref x) H2) (E σ)) :
    wpAny (model X.prog X.w) X.A (call (.ref C) us) (EP X pins σ Q) X.xe s := by
  have hq := h (s.heap.objs.size + 1) s.heap.objs.size (I.hok.fresh (Nat.le_succ _)) (I.hok.fresh (Nat.le_refl _)) (Nat.ne_of_lt (Nat.lt_succ_self _))
  have I2 := Inv.made (C := C) I
  have r2 : Vals (V.ref (s.heap.objs.size + 1) :: (vs ++ dvs)) (Value.ref (s.heap.objs.size + 1) :: (us ++ ds)) := .cons rfl (r.append hd)
  have hl : (Value.ref (s.heap.objs.size + 1) :: us ++ ds).length = ps.length := by
    have e := r2.length
    rw [F.len _ _ _ _ hq] at e
    exact e.symm
  refine wpAny_call (make_map (f := f) I.kIn M.makes M.init (beq_iff_eq.mp M.fn) (codeAny_mono (F.run _ X.stack _ _ ⟨Value.ref (s.heap.objs.size + 1) :: us, []⟩ (Value.ref (s.heap.objs.size + 1) :: (us ++ ds)) _ _ (E σ) (hr.make C us [])
    (I2.env0.make C us []) (hb _ (Value.ref (s.heap.objs.size + 1) :: us) I2.kIn hl) r2 hq) fun r s' hq' => ?_))
  cases r with
  | error e => exact hx pins _ _ e s' I2 hq'
  | ok fl =>
    cases fl with
    | ret u =>
      obtain ⟨v, H', I3, rv, ev, q3⟩ := I2.after hq'
      subst ev
      exact ⟨rv, ⟨V.ref (s.heap.objs.size + 1), H', I3, rfl, q3⟩⟩
    | next => exact False.elim hq'
    | brk => exact False.elim hq'
    | cont => exact False.elim hq'
theorem pe_makeW (M : Mk X.K C f) (F : FnOk X.prog X.w X.K X.mg X.base CX k f fd ps sp) (hr : Room (k + 1) X.A) (hg : Gl X x) (hm : X.mg x = some (.ref C)) (hb : Binds X.K fd ps ds) (hd : Vals dvs ds) (hx : ∀ σ, PassesAt CX X σ (E σ))
    (ha : PA X (e :: es) t) (hdb : (x == ("__debug__" : Str)) = false := by decide) (he : starEach (e :: es) X.env = (false, eval e X.env) :: starEach es X.env := by rfl) (hpl : (backTo pos (starEach es X.env)).any (·.1) = false := by rfl) :
    PE X (.Call (.Name x p) (e :: es) [] pos) (tMakeW C sp dvs E t) := by
  refine ⟨fun pins s σ H Q I h => ?_⟩
  refine wpAny_Call_Name_kw (ld_glob I hg hm ?_ hdb)
  refine PySem.W.callWith_K (h₀ := X.base) I.ok.mod.kin M.kp (thn (ha.run pos pins s σ H _ I h) fun us s1 ⟨vs, H1, I1, r, q⟩ => ⟨I1.kIn, ?_⟩) he hpl
  exact run_makeW M F hr hb hd (hx σ) I1 r q
end
/-- the class C's __init__ keeps the promise sp; the last parameters' defaults -/
structure Di (P : Program) (w : World) (K : PySem.W.Frag) (mg : Str → Option Value) (base : Heap) (C : Str) (ps : List Str) (dvs : List V) (k : Nat) (sp : Sp) : Prop where
  ex : ∃ fd, FnOk P w K mg base (L2.CX P w) k (He.ma K (He.ga K C) "__init__") fd ps sp ∧ ∃ ds, Vals dvs ds ∧ Binds K fd ps ds
  mkr : Mk K (He.ga K C) (He.ma K (He.ga K C) "__init__")
  mg : mg C = some (.ref (He.ga K C))
section
variable {X : Cx} {c : C0} {γ α ρ αs βs : Type} {G : EnvT γ} [Rps ρ] [Rps αs] [Rps βs] {e o : Expr} {es : List Expr} {pos p : Pos} {C : Str} {ns : List Str} {ps : List Str} {k j : Nat}
theorem fe_makeX {mm : βs → Xc ρ} {fs : γ → Xc αs} {dvs : List V} (ext : αs → βs) (hext : ∀ {K F vs} {as : αs}, Rps.isL K F vs as → Rps.isL K F (vs ++ dvs) (ext as)) (D : Di X.prog X.w X.K X.mg X.base C ps dvs j (spI X.K C ns mm)) (tk : Takes X c.W) (hr : Room (k + 1) X.A) (ha : FA X c G (e :: es) fs) (hjk : j ≤ k := by decide) (hg : Gl X C := by rfl)
    (hdb : (C == ("__debug__" : Str)) = false := by decide) (he : starEach (e :: es) X.env = (false, eval e X.env) :: starEach es X.env := by rfl) (hpl : (backTo pos (starEach es X.env)).any (·.1) = false := by rfl) :
    FE X c G (.Call (.Name C p) (e :: es) [] pos) (fun g => (fs g).bind fun as => (mm (ext as)).bind fun r => Xc.ok (⟨r⟩ : Ob C ns ρ)) := by
  obtain ⟨⟨fd, F, ds, vd, B⟩, M, mg⟩ := D
  refine PE.imp (pe_makeW (E := WE c.W) M F (hr.mono (Nat.succ_le_succ hjk)) hg mg B vd (fun σ => passAt tk σ) ha hdb he hpl) fun σ H Q ⟨F, g, w, q, h⟩ => ?_
  refine ⟨F, g, w, q, ?_⟩
  cases e1 : fs g with
  | ok as =>
    intro vs F1 H1 w1 r1 x dx hx hd hne
    simp only [e1] at h
    have h : Po X.K F H Q (WE c.W σ) ((mm (ext as)).bind fun r => Xc.ok (⟨r⟩ : Ob C ns ρ)) := h
    refine ⟨x, dx, H1, F1, _, ext as, rfl, rfl, hx, hd, hne, w1.s, hext r1, ?_⟩
    revert h
    cases mm (ext as) with
    | ok r =>
      intro h F2 H2 dx' vs' w2 f2 h2 l2 r2
      refine ⟨rfl, h (.ref x) (upd F2 x (.ins (He.ga X.K C) dx' (ns.zip vs'))) H2 (w1.trans ?_) ⟨x, dx', vs', rfl, upd_same, l2, Rps.mono (same_new f2) r2⟩⟩
      refine ⟨w2.f.trans (same_new f2), w2.h, fun b u q => ?_, fun b hb q => ?_⟩
      · by_cases z : b = x
        · subst z; rw [upd_same] at q; rw [h2]; exact q
        · rw [upd_ne z] at q; exact w2.s b u q
      · by_cases z : b = x
        · subst z; exact hx
        · rw [upd_ne z] at hb; exact w2.n b hb q
    | er cc fs => exact fun h => ErP.on (show ErP X.K F H (WE c.W σ) cc fs from h) w1
    | no => exact fun h => h
  | er c' fs => simp only [e1] at h; exact h
  | no => simp only [e1] at h; exact h
/-- C(e, ..), all parameters written -/
theorem fe_make {mm : αs → Xc ρ} {fs : γ → Xc αs} (D : Di X.prog X.w X.K X.mg X.base C ps [] j (spI X.K C ns mm)) (tk : Takes X c.W) (hr : Room (k + 1) X.A) (ha : FA X c G (e :: es) fs) (hjk : j ≤ k := by decide) (hg : Gl X C := by rfl)
    (hdb : (C == ("__debug__" : Str)) = false := by decide) (he : starEach (e :: es) X.env = (false, eval e X.env) :: starEach es X.env := by rfl) (hpl : (backTo pos (starEach es X.env)).any (·.1) = false := by rfl) :
    FE X c G (.Call (.Name C p) (e :: es) [] pos) (fun g => (fs g).bind fun as => (mm as).bind fun r => Xc.ok (⟨r⟩ : Ob C ns ρ)) :=
  fe_makeX id (fun h => by rw [List.append_nil]; exact h) D tk hr ha hjk hg hdb he hpl
/-- C(e, ..), the last parameter by its default, a whole number -/
theorem fe_make1 {d : Int} {ap : αs → Int → βs} [S : Snc αs Int ap] {mm : βs → Xc ρ} {fs : γ → Xc αs} (D : Di X.prog X.w X.K X.mg X.base C ps [.int d] j (spI X.K C ns mm)) (tk : Takes X c.W) (hr : Room (k + 1) X.A) (ha : FA X c G (e :: es) fs) (hjk : j ≤ k := by decide) (hg : Gl X C := by rfl)
    (hdb : (C == ("__debug__" : Str)) = false := by decide) (he : starEach (e :: es) X.env = (false, eval e X.env) :: starEach es X.env := by rfl) (hpl : (backTo pos (starEach es X.env)).any (·.1) = false := by rfl) :
    FE X c G (.Call (.Name C p) (e :: es) [] pos) (fun g => (fs g).bind fun as => (mm (ap as d)).bind fun r => Xc.ok (⟨r⟩ : Ob C ns ρ)) :=
  fe_makeX (fun as => ap as d) (fun h => S.ap h rfl) D tk hr ha hjk hg hdb he hpl
end
end FL

/-! FK4: operators of one's own. -/
namespace FL
open PySem L2
def tOpS (r : St → R2) (ta tb : TE) : TE := fun σ H Q => ta σ H fun x H1 => tb σ H1 fun y H2 => r σ x y H2 Q
def OpS (X : Cx) (f : Value → Value → Sem Value) (r : St → R2) : Prop :=
  ∀ (pins : List (Addr × Obj)) (s : Shared) (σ : St) (H : Hp) (x y : V) (v u : Value) (Q : VK), Inv X pins σ H s → RelV x v → RelV y u → r σ x y H Q → wpAny (model X.prog X.w) X.A (f v u) (EP X pins σ Q) X.xe s
section
variable {X : Cx} {a b : Expr} {ta tb : TE} {pos : Pos}
theorem pe_opS {op : Operator} {r : St → R2} (ho : OpS X (binaryOp op) r) (ha : PE X a ta) (hb : PE X b tb) : PE X (.BinOp a op b pos) (tOpS r ta tb) := by
  refine ⟨fun pins s σ H Q I h => ?_⟩
  exact wpAny_BinOp (binT ha hb I h fun v u s2 x y H2 I2 rx ry q => ho pins s2 σ H2 x y v u Q I2 rx ry q)
theorem pe_cmpS {op : CmpOp} {r : St → R2} (ho : OpS X (compareOp op) r) (ha : PE X a ta) (hb : PE X b tb) (hm : behindInMarks op b = false) : PE X (.Compare a [op] [b] pos) (tOpS r ta tb) := by
  refine ⟨fun pins s σ H Q I h => ?_⟩
  exact wpAny_Compare1 (binT ha hb I h fun v u s2 x y H2 I2 rx ry q => ho pins s2 σ H2 x y v u Q I2 rx ry q) hm
end
section
variable {X : Cx} {c : C0} {γ α β ρ : Type} {G : EnvT γ} [Rp α] [Rp β] [Rp ρ]
theorem twoS {a b : Expr} {fa : γ → Xc α} {fb : γ → Xc β} {op : α → β → Xc ρ} {r : St → R2} {e : Expr} (h : ∀ {ta tb : TE}, PE X a ta → PE X b tb → PE X e (tOpS r ta tb)) (ha : FE X c G a fa) (hb : FE X c G b fb)
    (hop : ∀ {F H x y i j Q σ}, Same F H → Rp.is X.K F x i → Rp.is X.K F y j → Po X.K F H Q (WE c.W σ) (op i j) → r σ x y H Q) : FE X c G e (fun g => (fa g).bind fun i => (fb g).bind fun j => op i j) :=
  PE.imp (h ha hb) fun σ H Q ⟨F, g, w, q, p⟩ => by
    refine ⟨F, g, w, q, ?_⟩
    cases e1 : fa g with
    | ok i =>
      intro v F1 H1 w1 r1
      have p2 : Po X.K F H Q (WE c.W σ) ((fb g).bind fun j => op i j) := by simp only [e1] at p; exact p
      refine ⟨F1, g, w.trans w1, G.mono q w1, ?_⟩
      cases e3 : fb g with
      | ok j =>
        intro u F2 H2 w2 r2
        have p5 : Po X.K F H Q (WE c.W σ) (op i j) := by rw [e3] at p2; exact p2
        exact hop w2.s (Rp.mono w2.f r1) r2 (p5.on (w1.trans w2))
      | er c' fs => rw [e3] at p2; exact ErP.on (show ErP X.K F H (WE c.W σ) c' fs from p2) w1
      | no => rw [e3] at p2; exact p2
    | er c' fs => simp only [e1] at p; exact p
    | no => simp only [e1] at p; exact p
end
/-! the machine's part -/
section
variable {X : Cx} {CX : CXT} {k : Nat} {f C : Addr} {fd : FuncData} {ps : List Str} {sp : Sp} {E : St → XK}
/-- two instances of one class -/
def rOO (C : Addr) (sp : Sp) (E : St → XK) : St → R2 := fun σ x y H Q => ∃ a dx fs b dy gs, x = .ref a ∧ y = .ref b ∧ H a = some (.ins C dx fs) ∧ H b = some (.ins C dy gs) ∧ sp [x, y] H Q (E σ)
/-- an instance and a whole number -/
def rOI (C : Addr) (sp : Sp) (E : St → XK) : St → R2 := fun σ x y H Q => ∃ a dx fs i, x = .ref a ∧ y = .int i ∧ H a = some (.ins C dx fs) ∧ sp [x, y] H Q (E σ)
/-- a whole number and an instance: the reflected one -/
def rIO (C : Addr) (sp : Sp) (E : St → XK) : St → R2 := fun σ x y H Q => ∃ a dx fs i, x = .int i ∧ y = .ref a ∧ H a = some (.ins C dx fs) ∧ sp [y, x] H Q (E σ)
theorem cmpEP {pins : List (Addr × Obj)} {σ : St} {Q : VK} : ∀ (w : Value) (s' : Shared), EP X pins σ Q w s' → PySem.W.CmpBack (EP X pins σ Q) w s' := fun w s' ⟨z, H', I, rz, q⟩ => SlX.cmpback rz ⟨z, H', I, rz, q⟩
theorem op_oo {op : Operator} {m : Str} (hm : Meth X.K C m f) (hop : PySem.dunder op.info.2 = m) (hc : PySem.W.selfFirst X.K C = true) (F : FnOk X.prog X.w X.K X.mg X.base CX k f fd ps sp) (hr : Room k X.A) (hb : Binds X.K fd ps []) (hx : ∀ σ, PassesAt CX X σ (E σ)) : OpS X (binaryOp op) (rOO C sp E) := by
  intro pins s σ H x y v u Q I rx ry ⟨a, dx, fs, b, dy, gs, e1, e2, ha, hb', h⟩
  subst e1 e2
  cases (show v = Value.ref a from rx)
  cases (show u = Value.ref b from ry)
  obtain ⟨mA, J, _⟩ := ins_get I.hok ha
  obtain ⟨mB, J', _⟩ := ins_get I.hok hb'
  obtain ⟨od, J, _⟩ := J.look
  obtain ⟨od', J', _⟩ := J'.look
  obtain ⟨m', hF⟩ := I.fr
  exact PySem.W.binop_K hF I.ok.mod.kin J J'.type hc (by rw [hop]; exact hm.at_) hm.fn (wpAny_mono (run_fnS (us := [.ref a, .ref b]) (vs := [.ref a, .ref b]) F hr hb (hx σ) I (.cons rfl (.cons rfl .nil)) h) cmpEP fun _ _ x => x)
theorem op_oi {op : Operator} {m : Str} {fo ro rc : Option Value} (hm : Meth X.K C m f) (hop : PySem.dunder op.info.2 = m) (hc : PySem.W.selfFirst X.K C = true) (hrc : PySem.W.findIn X.K (.ref C) (dunderR op.info.2) = some rc) (hp : rc = none ∨ ∃ g : Addr, rc = some (.ref g))
    (h1 : PySem.W.findIn X.K (.type "int") m = some fo) (h2 : PySem.W.findIn X.K (.type "int") (dunderR op.info.2) = some ro) (hsub : PySem.W.subIn X.K (.type "int") (.ref C) = some false)
    (F : FnOk X.prog X.w X.K X.mg X.base CX k f fd ps sp) (hr : Room k X.A) (hb : Binds X.K fd ps []) (hx : ∀ σ, PassesAt CX X σ (E σ)) : OpS X (binaryOp op) (rOI C sp E) := by
  intro pins s σ H x y v u Q I rx ry ⟨a, dx, fs, i, e1, e2, ha, h⟩
  subst e1 e2
  cases (show v = Value.ref a from rx)
  obtain ⟨t, e⟩ := (show ∃ t, u = Value.int i t from ry)
  cases e
  obtain ⟨mA, J, _⟩ := ins_get I.hok ha
  obtain ⟨od, J, _⟩ := J.look
  obtain ⟨m', hF⟩ := I.fr
  exact PySem.W.ksp_binT (T := "int") hF I.ok.mod.kin J rfl hc (by rw [hop]; exact hm.at_) hm.fn hrc hp (by rw [hop]; exact h1) h2 hsub (wpAny_mono (run_fnS (us := [.ref a, .int i t]) (vs := [.ref a, .int i]) F hr hb (hx σ) I (.cons rfl (.cons ⟨t, rfl⟩ .nil)) h) cmpEP fun _ _ x => x)
end
end FL

/-! FK5: a whole number times an instance. -/
namespace PySem.W
open PySem PySem.Calls PyProof.Rows
theorem int_mul_own (a : Int) (t : Tok) (x C dx : Addr) :
    Meets (Builtin.«int.__mul__» ⟨[.int a t, .ref x], []⟩) (fun _ R s => s.heap.get? x = some (instObj C dx) ∧ R (.ok (.ret Value.notImplemented)) s) :=
  .of_wp fun prog w A R s h => by obtain ⟨hp, g, d, tk, os⟩ := s; obtain ⟨hl, h⟩ := h; unfold instObj at hl; wp_walk; exact ⟨_, rfl, h⟩
section
variable {prog : Program} {w : World} {A : Around} {E : Value → Shared → Prop} {s : Shared} {K : Frag} {x C L f dx : Addr} {h₀ : Heap} {m : Str → Option Value} {od : Option Obj}
theorem binop_io {i : Int} {t : Tok} {fm : Option Value} {Q : Value → Shared → Prop} (Fm : Fr h₀ L s.heap m) (X₀ : K.In h₀) (I : InstAt s.heap x (instObj C dx) C od) (hc : selfFirst K C = true)
    (hm : findIn K (.ref C) (PySem.dunder "mul") = some (some (.ref f))) {g : Addr} (hs : findIn K (.ref C) (dunderR "mul") = some (some (.ref g))) (hf : isFn K (.ref g) = true) (hsub : subIn K (.ref C) (.type "int") = some false)
    (h : wpAny (model prog w) A (call (.ref g) [.ref x, .int i t]) (CmpBack Q) E s) : wpAny (model prog w) A (binaryOp .Mult (.int i t) (.ref x)) Q E s := by
  have X := X₀.keeps Fm.keep
  obtain ⟨cd, rest, hcd, hmr⟩ := ksp_first hc
  have one := ksp_try X I hs hf h
  have zero : wpAny (model prog w) A (tryMethod (.int i t) (PySem.dunder "mul") (.ref x)) (fun r s' => r = none ∧ s' = s) E s := by
    unfold tryMethod
    refine wpAny_bind (wpAny_callSpecial?_slot (typeIs_int s i t) PySem.F.slot_int_mul (call_meets PySem.F.slot_int_mul (typeIs_int s i t) PySem.F.entry_int_mul (PySem.F.args_int_mul_2 _ _) (int_mul_own i t x C dx) ⟨I.at_, ?_⟩))
    exact wpAny_pure ⟨rfl, rfl⟩
  obtain ⟨hh, gg, d, tt, os⟩ := s
  have L2 : Looks (model prog w) hh (typeOf (.ref x)) (.ref C) := I.type
  have L3 : Looks (model prog w) hh (fillsNumberSlot (.ref C) "mul") true := fills_K X hcd hmr hm
  have L4 : Looks (model prog w) hh (fillsNumberSlot (.type "int") "mul") true := Looks.of_pure PySem.F.fills_int_mul
  have L5 : Looks (model prog w) hh (isSubtype (.ref C) (.type "int")) false := looks_subIn X hsub
  have L7 : Looks (model prog w) hh (numberSlotInPython (.type "int") "mul") false := Looks.of_pure rfl
  have hne : (Value.type "int" == Value.ref C) = false := Bool.eq_false_iff.mpr fun q => by cases beq_iff_eq.mp q
  have hi : Operator.Mult.info = ("*", "mul") := rfl
  simp only [binaryOp, hi]
  refine wpAny_holding (wpAny_bind ?_)
  unfold binaryOp1
  refine wpAny_bind (wpAny_typeOf (typeIs_int _ i t) ?_)
  refine wpAny_bind (L2.at (wpAny_bind (L4.at ?_)))
  simp only [hne, Bool.false_eq_true, if_false]
  ksp_lk
  refine wpAny_mono zero (fun r s' hr' => ?_) fun _ _ e => e
  obtain ⟨rfl, rfl⟩ := hr'
  ksp_lk
  refine wpAny_mono one (fun r s' hr' => ?_) fun _ _ e => e
  obtain ⟨v, rfl, hq⟩ := hr'
  ksp_lk
  exact hq
end
end PySem.W
namespace FL
open PySem L2
section
variable {X : Cx} {CX : CXT} {k : Nat} {f C : Addr} {fd : FuncData} {ps : List Str} {sp : Sp} {E : St → XK}
theorem op_io {g : Addr} (hm : Meth X.K C "__mul__" f) (hm2 : Meth X.K C "__rmul__" g) (hc : PySem.W.selfFirst X.K C = true) (hsub : PySem.W.subIn X.K (.ref C) (.type "int") = some false)
    (F : FnOk X.prog X.w X.K X.mg X.base CX k g fd ps sp) (hr : Room k X.A) (hb : Binds X.K fd ps []) (hx : ∀ σ, PassesAt CX X σ (E σ)) (h1 : PySem.dunder "mul" = "__mul__" := by rfl) (h2 : dunderR "mul" = "__rmul__" := by rfl) : OpS X (binaryOp .Mult) (rIO C sp E) := by
  intro pins s σ H x y v u Q I rx ry ⟨a, dx, fs, i, e1, e2, ha, h⟩
  subst e1 e2
  cases (show u = Value.ref a from ry)
  obtain ⟨t, e⟩ := (show ∃ t, v = Value.int i t from rx)
  cases e
  obtain ⟨mA, J, _⟩ := ins_get I.hok ha
  obtain ⟨od, J, _⟩ := J.look
  obtain ⟨m', hF⟩ := I.fr
  exact PySem.W.binop_io (fm := none) hF I.ok.mod.kin J hc (by rw [h1]; exact hm.at_) (by rw [h2]; exact hm2.at_) hm2.fn hsub (wpAny_mono (run_fnS (us := [.ref a, .int i t]) (vs := [.ref a, .int i]) F hr hb (hx σ) I (.cons rfl (.cons ⟨t, rfl⟩ .nil)) h) cmpEP fun _ _ x => x)
end
end FL

/-! FK6: ==, -, calls of instances, isinstance, staticmethods; typed rules. -/
namespace FL
open PySem L2
section
variable {X : Cx} {CX : CXT} {k : Nat} {f C : Addr} {fd : FuncData} {ps : List Str} {sp : Sp} {E : St → XK}
theorem eq_oo (hm : Meth X.K C "__eq__" f) (F : FnOk X.prog X.w X.K X.mg X.base CX k f fd ps sp) (hr : Room k X.A) (hb : Binds X.K fd ps []) (hx : ∀ σ, PassesAt CX X σ (E σ)) : OpS X (compareOp .Eq) (rOO C sp E) := by
  intro pins s σ H x y v u Q I rx ry ⟨a, dx, fs, b, dy, gs, e1, e2, ha, hb', h⟩
  subst e1 e2
  cases (show v = Value.ref a from rx)
  cases (show u = Value.ref b from ry)
  obtain ⟨mA, J, _⟩ := ins_get I.hok ha
  obtain ⟨mB, J', _⟩ := ins_get I.hok hb'
  obtain ⟨od, J, _⟩ := J.look
  obtain ⟨od', J', _⟩ := J'.look
  obtain ⟨m', hF⟩ := I.fr
  exact PySem.W.cmp_K (op := .Eq) (tb := .ref C) hr.units0 hF I.ok.mod.kin J J'.type (by simp [PySem.W.notFirst]) hm.at_ hm.fn (wpAny_mono (run_fnS (us := [.ref a, .ref b]) (vs := [.ref a, .ref b]) F hr hb (hx σ) I (.cons rfl (.cons rfl .nil)) h) cmpEP fun _ _ x => x)
theorem eq_oi (hm : Meth X.K C "__eq__" f) (hn : PySem.W.notFirst X.K C (.type "int") = true) (F : FnOk X.prog X.w X.K X.mg X.base CX k f fd ps sp) (hr : Room k X.A) (hb : Binds X.K fd ps []) (hx : ∀ σ, PassesAt CX X σ (E σ)) : OpS X (compareOp .Eq) (rOI C sp E) := by
  intro pins s σ H x y v u Q I rx ry ⟨a, dx, fs, i, e1, e2, ha, h⟩
  subst e1 e2
  cases (show v = Value.ref a from rx)
  obtain ⟨t, e⟩ := (show ∃ t, u = Value.int i t from ry)
  cases e
  obtain ⟨mA, J, _⟩ := ins_get I.hok ha
  obtain ⟨od, J, _⟩ := J.look
  obtain ⟨m', hF⟩ := I.fr
  exact PySem.W.cmp_K (op := .Eq) (tb := .type "int") hr.units0 hF I.ok.mod.kin J (.of_pure rfl) hn hm.at_ hm.fn (wpAny_mono (run_fnS (us := [.ref a, .int i t]) (vs := [.ref a, .int i]) F hr hb (hx σ) I (.cons rfl (.cons ⟨t, rfl⟩ .nil)) h) cmpEP fun _ _ x => x)
/-- -x -/
def tUnS (r : St → V → Hp → VK → Prop) (ta : TE) : TE := fun σ H Q => ta σ H fun x H1 => r σ x H1 Q
def rO (C : Addr) (sp : Sp) (E : St → XK) : St → V → Hp → VK → Prop := fun σ x H Q => ∃ a dx fs, x = .ref a ∧ H a = some (.ins C dx fs) ∧ sp [x] H Q (E σ)
theorem pe_negO {a : Expr} {ta : TE} {pos : Pos} (hm : Meth X.K C "__neg__" f) (F : FnOk X.prog X.w X.K X.mg X.base CX k f fd ps sp) (hr : Room k X.A) (hb : Binds X.K fd ps []) (hx : ∀ σ, PassesAt CX X σ (E σ)) (ha : PE X a ta) : PE X (.UnaryOp .USub a pos) (tUnS (rO C sp E) ta) := by
  refine ⟨fun pins s σ H Q I h => ?_⟩
  refine wpAny_UnaryOp (thn (ha.run pins s σ H _ I h) fun u s1 ⟨x, H1, I1, rx, a, dx, fs, e1, ea, q⟩ => ?_)
  subst e1
  cases (show u = Value.ref a from rx)
  obtain ⟨mA, J, _⟩ := ins_get I1.hok ea
  obtain ⟨od, J, _⟩ := J.look
  obtain ⟨m', hF⟩ := I1.fr
  exact PySem.W.ksp_neg hF I1.ok.mod.kin J hm.at_ hm.fn (run_fnS (us := [.ref a]) (vs := [.ref a]) F hr hb (hx σ) I1 (.cons rfl .nil) q)
theorem code_fnS {pins : List (Addr × Obj)} {σ : St} {H : Hp} {s : Shared} {Q : VK} {us : List Value} {vs : List V} (F : FnOk X.prog X.w X.K X.mg X.base CX k f fd ps sp) (hr : Room k X.A) (hb : Binds X.K fd ps []) (hx : PassesAt CX X σ (E σ))
    (I : Inv X pins σ H s) (r : Vals vs us) (h : sp vs H Q (E σ)) : codeAny (model X.prog X.w) X.A (.call (.ref f) ⟨us, []⟩) (fun r s' => match r with | .ok (.ret v) => EP X pins σ Q v s' | .ok _ => False | .error e => X.xe e s') s := by
  have hl : us.length = ps.length := by rw [← r.length]; exact F.len _ _ _ _ h
  have b := hb s us I.kIn (by rw [List.append_nil]; exact hl)
  rw [List.append_nil] at b
  refine codeAny_mono (F.run X.A X.stack s H ⟨us, []⟩ us vs Q (E σ) hr I.env0 b r h) fun r s' hq => ?_
  cases r with
  | error e => exact hx pins H s e s' I hq
  | ok fl =>
    cases fl with
    | ret u => exact I.after hq
    | next => exact False.elim hq
    | brk => exact False.elim hq
    | cont => exact False.elim hq
theorem callWith_any {M : Model} {A : Around} {E : Value → Shared → Prop} {s : Shared} {env : Env} {pos : Pos} {x : Addr} {e : Expr} {es : List Expr} {Q : Value → Shared → Prop} (he : starEach (e :: es) env = (false, eval e env) :: starEach es env) (hpl : (backTo pos (starEach es env)).any (·.1) = false)
    (h : wpAny M A (spliced (backTo pos (starEach (e :: es) env))) (fun vs s₁ => ∃ ox : Obj, s₁.heap.get? x = some ox ∧ ox.data = .plain ∧ wpAny M A (call (.ref x) vs) Q E s₁) E s) :
    wpAny M A (callWith pos (.ref x) [] (backTo pos (starEach (e :: es) env)) []) Q E s := by
  unfold callWith
  rw [he] at h ⊢
  have hplain : ((backTo pos ((false, eval e env) :: starEach es env)).any (·.1) || ([] : List (Option Str × Sem Value)).any (·.1.isNone)) = false := by show ((false || (backTo pos (starEach es env)).any (·.1)) || false) = false; rw [hpl]; rfl
  refine wpAny_bind (wpAny_holding (wpAny_mono (show wpAny M A (evalArgs (.ref x) true (backTo pos ((false, eval e env) :: starEach es env)) []) (fun a s₁ => ∃ ox : Obj, s₁.heap.get? x = some ox ∧ ox.data = .plain ∧ wpAny M A (call (.ref x) ([] ++ a.pos) a.kw) Q E s₁) E s from PySem.Calls.evalArgs_plain h) (fun a s₁ h₁ => wpAny_bind (wpAny_standAt ?_)) fun _ _ y => y))
  obtain ⟨ox, hx, hd, hc⟩ := h₁
  have L : PySem.W.Looks M s₁.heap (keeperOf (.ref x)) .caller := by
    refine (PySem.W.Looks.ld (part := none) hx).andThen ?_
    simp only [hd]
    exact .now
  simp only [hplain]
  refine wpAny_bind (L.here ?_)
  have tail : ∀ {t : Sem Value}, wpAny M A t Q E s₁ → wpAny M A (t >>= fun r => holding [r] point >>= fun _ => pure r) Q E s₁ :=
    fun ht => wpAny_bind (wpAny_mono ht (fun r s₂ hr => wpAny_bind (wpAny_holding (wpAny_point (wpAny_pure hr)))) fun _ _ y => y)
  exact tail (wpAny_operateT hc)
/-- x(e, ..), x a name -/
theorem pe_callO {x : Str} {p pos : Pos} {e : Expr} {es : List Expr} {tf : TE} {t : TA} (hm : Meth X.K C "__call__" f) (hfn : PySem.W.fnIn X.K f = true) (F : FnOk X.prog X.w X.K X.mg X.base CX k f fd ps sp) (hr : Room k X.A) (hb : Binds X.K fd ps []) (hx : ∀ σ, PassesAt CX X σ (E σ)) (hf : PE X (.Name x p) tf) (ha : PA X (e :: es) t)
    (he : starEach (e :: es) X.env = (false, eval e X.env) :: starEach es X.env := by rfl) (hpl : (backTo pos (starEach es X.env)).any (·.1) = false := by rfl) :
    PE X (.Call (.Name x p) (e :: es) [] pos) (fun σ H Q => tf σ H fun v H1 => ∃ a, v = .ref a ∧ t σ H1 fun vs H2 => ∃ dx fs, H2 a = some (.ins C dx fs) ∧ sp (v :: vs) H2 Q (E σ)) := by
  refine ⟨fun pins s σ H Q I h => ?_⟩
  refine wpAny_Call_Name_kw (thn (hf.run pins s σ H _ I h) fun u s1 ⟨v, H1, I1, rv, a, e1, q⟩ => ?_)
  subst e1
  cases (show u = Value.ref a from rv)
  refine callWith_any he hpl (thn (ha.run pos pins s1 σ H1 _ I1 q) fun us s2 ⟨vs, H2, I2, r, dx, fs, ea, q2⟩ => ?_)
  obtain ⟨mA, J, _⟩ := ins_get I2.hok ea
  have hJ := J.obj
  obtain ⟨od, J, _⟩ := J.look
  refine ⟨_, hJ, rfl, ?_⟩
  exact wpAny_call (PySem.W.kco_code I2.kIn J rfl hm.at_ hm.fn hfn (code_fnS (us := .ref a :: us) (vs := .ref a :: vs) F hr hb (hx σ) I2 (.cons rfl r) q2))
end
end FL

/-! FK7: typed rules for operators, calls, isinstance, staticmethods of one's own classes. -/
namespace FL
open PySem L2
theorem por_of {ρ : Type} [Rp ρ] {K : PySem.W.Frag} {F H : Hp} {Q : VK} {E : XK} {m : Xc ρ} (h : Po K F H Q E m) : PoR (rtF ρ) K F H Q E m := by
  cases m with
  | ok r => exact h
  | er cc fs => exact h
  | no => exact h
section
variable {X : Cx} {c : C0} {γ α β ρ αs : Type} {G : EnvT γ} [Rps α] [Rp ρ] [Rps αs] {a b e : Expr} {es : List Expr} {pos p apos : Pos} {C m : Str} {ns : List Str} {ps : List Str} {k j : Nat}
theorem ob_at {K : PySem.W.Frag} {F H : Hp} {v : V} {x : Ob C ns α} (s : Same F H) (r : Rp.is K F v x) : ∃ a dx fs, v = .ref a ∧ H a = some (.ins (He.ga K C) dx fs) := by
  obtain ⟨a, dx, vs, e, h, _⟩ := r
  exact ⟨a, dx, _, e, s _ _ h⟩
/-- x op y, two instances -/
theorem fe_opOO {op : Operator} {mm : Ob C ns α × Ob C ns α × Unit → Xc ρ} {fa fb : γ → Xc (Ob C ns α)} (D : Dm X.prog X.w X.K X.mg X.base C m ps j (spF X.K (rtF ρ) mm)) (hsf : PySem.W.selfFirst X.K (He.ga X.K C) = true) (tk : Takes X c.W) (hr : Room k X.A) (ha : FE X c G a fa) (hb : FE X c G b fb) (hjk : j ≤ k := by decide)
    (hop : PySem.dunder op.info.2 = m := by rfl) : FE X c G (.BinOp a op b pos) (fun g => (fa g).bind fun x => (fb g).bind fun y => mm (x, (y, ()))) := by
  obtain ⟨⟨fd, F, B⟩, hm⟩ := D
  refine twoS (fun h1 h2 => pe_opS (op_oo (E := WE c.W) hm hop hsf F (hr.mono hjk) B (fun σ => passAt tk σ)) h1 h2) ha hb fun {F H x y i j Q σ} s r1 r2 q => ?_
  obtain ⟨a1, dx, fs, e1, h1⟩ := ob_at s r1
  obtain ⟨a2, dy, gs, e2, h2⟩ := ob_at s r2
  exact ⟨a1, dx, fs, a2, dy, gs, e1, e2, h1, h2, F, (i, (j, ())), s, ⟨x, [y], rfl, r1, y, [], rfl, r2, rfl⟩, por_of q⟩
/-- x op i, an instance and a whole number -/
structure OpI (K : PySem.W.Frag) (C m mr : Str) : Prop where
  sf : PySem.W.selfFirst K (He.ga K C) = true
  rc : ∃ rc, PySem.W.findIn K (.ref (He.ga K C)) mr = some rc ∧ (rc = none ∨ ∃ g : Addr, rc = some (.ref g))
  h1 : ∃ fo, PySem.W.findIn K (.type "int") m = some fo
  h2 : ∃ ro, PySem.W.findIn K (.type "int") mr = some ro
  sub : PySem.W.subIn K (.type "int") (.ref (He.ga K C)) = some false
theorem fe_opOI {op : Operator} {mr : Str} {mm : Ob C ns α × Int × Unit → Xc ρ} {fa : γ → Xc (Ob C ns α)} {fb : γ → Xc Int} (D : Dm X.prog X.w X.K X.mg X.base C m ps j (spF X.K (rtF ρ) mm)) (hi : OpI X.K C m mr) (tk : Takes X c.W) (hr : Room k X.A) (ha : FE X c G a fa) (hb : FE X c G b fb) (hjk : j ≤ k := by decide)
    (hop : PySem.dunder op.info.2 = m := by rfl) (hop2 : dunderR op.info.2 = mr := by rfl) : FE X c G (.BinOp a op b pos) (fun g => (fa g).bind fun x => (fb g).bind fun y => mm (x, (y, ()))) := by
  obtain ⟨⟨fd, F, B⟩, hm⟩ := D
  obtain ⟨hsf, ⟨rc, hrc, hp⟩, ⟨fo, h1⟩, ⟨ro, h2⟩, hsub⟩ := hi
  subst hop2
  refine twoS (fun h1' h2' => pe_opS (op_oi (E := WE c.W) hm hop hsf hrc hp h1 h2 hsub F (hr.mono hjk) B (fun σ => passAt tk σ)) h1' h2') ha hb fun {F H x y i j Q σ} s r1 r2 q => ?_
  obtain ⟨a1, dx, fs, e1, h1⟩ := ob_at s r1
  exact ⟨a1, dx, fs, j, e1, r2, h1, F, (i, (j, ())), s, ⟨x, [y], rfl, r1, y, [], rfl, r2, rfl⟩, por_of q⟩
/-- i * x -/
theorem fe_opIO {mm : Ob C ns α × Int × Unit → Xc ρ} {fa : γ → Xc Int} {fb : γ → Xc (Ob C ns α)} (D : Dm X.prog X.w X.K X.mg X.base C "__rmul__" ps j (spF X.K (rtF ρ) mm)) (hmul : Meth X.K (He.ga X.K C) "__mul__" (He.ma X.K (He.ga X.K C) "__mul__")) (hsf : PySem.W.selfFirst X.K (He.ga X.K C) = true) (hsub : PySem.W.subIn X.K (.ref (He.ga X.K C)) (.type "int") = some false)
    (tk : Takes X c.W) (hr : Room k X.A) (ha : FE X c G a fa) (hb : FE X c G b fb) (hjk : j ≤ k := by decide) : FE X c G (.BinOp a .Mult b pos) (fun g => (fa g).bind fun x => (fb g).bind fun y => mm (y, (x, ()))) := by
  obtain ⟨⟨fd, F, B⟩, hm⟩ := D
  refine twoS (fun h1' h2' => pe_opS (op_io (E := WE c.W) hmul hm hsf hsub F (hr.mono hjk) B (fun σ => passAt tk σ)) h1' h2') ha hb fun {F H x y i j Q σ} s r1 r2 q => ?_
  obtain ⟨a1, dx, fs, e1, h1⟩ := ob_at s r2
  exact ⟨a1, dx, fs, i, r1, e1, h1, F, (j, (i, ())), s, ⟨y, [x], rfl, r2, x, [], rfl, r1, rfl⟩, por_of q⟩
/-- x == y -/
theorem fe_eqOO {mm : Ob C ns α × Ob C ns α × Unit → Xc ρ} {fa fb : γ → Xc (Ob C ns α)} (D : Dm X.prog X.w X.K X.mg X.base C "__eq__" ps j (spF X.K (rtF ρ) mm)) (tk : Takes X c.W) (hr : Room k X.A) (ha : FE X c G a fa) (hb : FE X c G b fb) (hjk : j ≤ k := by decide) :
    FE X c G (.Compare a [.Eq] [b] pos) (fun g => (fa g).bind fun x => (fb g).bind fun y => mm (x, (y, ()))) := by
  obtain ⟨⟨fd, F, B⟩, hm⟩ := D
  refine twoS (fun h1 h2 => pe_cmpS (eq_oo (E := WE c.W) hm F (hr.mono hjk) B (fun σ => passAt tk σ)) h1 h2 (nomark _)) ha hb fun {F H x y i j Q σ} s r1 r2 q => ?_
  obtain ⟨a1, dx, fs, e1, h1⟩ := ob_at s r1
  obtain ⟨a2, dy, gs, e2, h2⟩ := ob_at s r2
  exact ⟨a1, dx, fs, a2, dy, gs, e1, e2, h1, h2, F, (i, (j, ())), s, ⟨x, [y], rfl, r1, y, [], rfl, r2, rfl⟩, por_of q⟩
theorem fe_eqOI {mm : Ob C ns α × Int × Unit → Xc ρ} {fa : γ → Xc (Ob C ns α)} {fb : γ → Xc Int} (D : Dm X.prog X.w X.K X.mg X.base C "__eq__" ps j (spF X.K (rtF ρ) mm)) (hn : PySem.W.notFirst X.K (He.ga X.K C) (.type "int") = true) (tk : Takes X c.W) (hr : Room k X.A) (ha : FE X c G a fa) (hb : FE X c G b fb) (hjk : j ≤ k := by decide) :
    FE X c G (.Compare a [.Eq] [b] pos) (fun g => (fa g).bind fun x => (fb g).bind fun y => mm (x, (y, ()))) := by
  obtain ⟨⟨fd, F, B⟩, hm⟩ := D
  refine twoS (fun h1 h2 => pe_cmpS (eq_oi (E := WE c.W) hm hn F (hr.mono hjk) B (fun σ => passAt tk σ)) h1 h2 (nomark _)) ha hb fun {F H x y i j Q σ} s r1 r2 q => ?_
  obtain ⟨a1, dx, fs, e1, h1⟩ := ob_at s r1
  exact ⟨a1, dx, fs, j, e1, r2, h1, F, (i, (j, ())), s, ⟨x, [y], rfl, r1, y, [], rfl, r2, rfl⟩, por_of q⟩
/-- -x -/
theorem fe_negO {mm : Ob C ns α × Unit → Xc ρ} {fa : γ → Xc (Ob C ns α)} (D : Dm X.prog X.w X.K X.mg X.base C "__neg__" ps j (spF X.K (rtF ρ) mm)) (tk : Takes X c.W) (hr : Room k X.A) (ha : FE X c G a fa) (hjk : j ≤ k := by decide) :
    FE X c G (.UnaryOp .USub a pos) (fun g => (fa g).bind fun x => mm (x, ())) := by
  obtain ⟨⟨fd, F, B⟩, hm⟩ := D
  refine PE.imp (pe_negO (E := WE c.W) hm F (hr.mono hjk) B (fun σ => passAt tk σ) ha) fun σ H Q ⟨F, g, w, q, h⟩ => ?_
  refine ⟨F, g, w, q, ?_⟩
  cases e1 : fa g with
  | ok x =>
    intro v F1 H1 w1 r1
    simp only [e1] at h
    obtain ⟨a1, dx, fs, e2, h1⟩ := ob_at w1.s r1
    exact ⟨a1, dx, fs, e2, h1, F1, (x, ()), w1.s, ⟨v, [], rfl, r1, rfl⟩, por_of (Po.on (show Po X.K F H Q (WE c.W σ) (mm (x, ())) from h) w1)⟩
  | er c' fs => simp only [e1] at h; exact h
  | no => simp only [e1] at h; exact h
/-- x(e, ..), x a name of an instance -/
theorem fe_callO {x : Str} {mm : Ob C ns α × αs → Xc ρ} {fa : γ → Xc (Ob C ns α)} {fs : γ → Xc αs} (D : Dm X.prog X.w X.K X.mg X.base C "__call__" ps j (spF X.K (rtF ρ) mm)) (hfn : PySem.W.fnIn X.K (He.ma X.K (He.ga X.K C) "__call__") = true) (tk : Takes X c.W) (hr : Room k X.A) (hf : FE X c G (.Name x p) fa) (ha : FA X c G (e :: es) fs) (hjk : j ≤ k := by decide)
    (hst : starEach (e :: es) X.env = (false, eval e X.env) :: starEach es X.env := by rfl) (hpl : (backTo pos (starEach es X.env)).any (·.1) = false := by rfl) :
    FE X c G (.Call (.Name x p) (e :: es) [] pos) (fun g => (fa g).bind fun x => (fs g).bind fun as => mm (x, as)) := by
  obtain ⟨⟨fd, F, B⟩, hm⟩ := D
  refine PE.imp (pe_callO (E := WE c.W) hm hfn F (hr.mono hjk) B (fun σ => passAt tk σ) hf ha hst hpl) fun σ H Q ⟨F, g, w, q, h⟩ => ?_
  refine ⟨F, g, w, q, ?_⟩
  cases e1 : fa g with
  | ok x =>
    intro v F1 H1 w1 r1
    simp only [e1] at h
    have h : Po X.K F H Q (WE c.W σ) ((fs g).bind fun as => mm (x, as)) := h
    obtain ⟨a1, dx, gs, ev, h1⟩ := ob_at w1.s r1
    refine ⟨a1, ev, F1, g, w.trans w1, G.mono q w1, ?_⟩
    cases e2 : fs g with
    | ok as =>
      intro us F2 H2 w2 r2
      simp only [e2] at h
      exact ⟨dx, gs, w2.h _ _ h1, F2, (x, as), w2.s, ⟨v, us, rfl, Rp.mono w2.f r1, r2⟩, por_of (Po.on (show Po X.K F H Q (WE c.W σ) (mm (x, as)) from h) (w1.trans w2))⟩
    | er c' fs => simp only [e2] at h; exact ErP.on (show ErP X.K F H (WE c.W σ) c' fs from h) w1
    | no => simp only [e2] at h; exact h
  | er c' fs => simp only [e1] at h; exact h
  | no => simp only [e1] at h; exact h
/-! isinstance(e, C), C a class of one's own -/
/-- what isinstance asks of the class of an instance -/
structure Isi (K : PySem.W.Frag) (C : Str) : Prop where
  cl : Cls K (He.ga K C)
  si : SlX.SIsi K (He.ga K C)
/-- what isinstance sees -/
class HasTyV (α : Type) [Rp α] (ok : outParam (PySem.W.Frag → Prop)) (ty : outParam (PySem.W.Frag → Value)) : Prop where
  is : ∀ {K F H v} {a : α}, ok K → Same F H → Rp.is K F v a → TyX K H v (ty K)
instance {C : Str} {ns : List Str} {α : Type} [Rps α] : HasTyV (Ob C ns α) (fun K => Isi K C) (fun K => .ref (He.ga K C)) := ⟨fun i s r => by
  obtain ⟨a, dx, vs, e, h, _⟩ := r
  subst e
  exact .base (.ins (s _ _ h) i.cl i.si.ca i.si.cn i.si.ct i.si.cm)⟩
instance : HasTyV Int (fun _ => True) (fun _ => .type "int") := ⟨fun _ s r => HasTy.is s r⟩
theorem fe_isiC {α : Type} [Rp α] {ok : PySem.W.Frag → Prop} {ty : PySem.W.Frag → Value} [T : HasTyV α ok ty] {D : Str} (r : Bool) {p2 : Pos} {fa : γ → Xc α} (ha : FE X c G a fa) (i : ok X.K) (hk : PySem.W.kitOne X.K (ty X.K) (.ref (He.ga X.K D)) = some r) (hD : X.mg D = some (.ref (He.ga X.K D))) (hm : X.mg "isinstance" = none)
    (hg : Gl X "isinstance" := by rfl) (hgT : Gl X D := by rfl) (hd : (D == ("__debug__" : Str)) = false := by decide)
    (hs : starEach [a, .Name D p2] X.env = (false, eval a X.env) :: starEach [.Name D p2] X.env := by rfl) (hs2 : starEach [.Name D p2] X.env = (false, eval (.Name D p2) X.env) :: starEach [] X.env := by rfl)
    (hpl : (backTo pos (starEach [.Name D p2] X.env)).any (·.1) = false := by rfl) : FE X c G (.Call (.Name "isinstance" p) [a, .Name D p2] [] pos) (fun g => (fa g).bind fun _ => Xc.ok r) :=
  PE.imp (pe_callB call_isi hg hm PyProof.Rows.boot_isinstance (pa_cons ha (pa_cons (pe_glob (v := .ref (He.ga X.K D)) hgT hD rfl hd) pa_nil hs2) hs) (he := hs) (hpl := hpl)) fun σ H Q ⟨F, g, w, q, h⟩ => by
    refine ⟨F, g, w, q, ?_⟩
    cases e1 : fa g with
    | ok o =>
      intro v F1 H1 w1 r1
      simp only [e1] at h
      exact ⟨v, .ref (He.ga X.K D), _, _, r, rfl, .own _, T.is i w1.s r1, hk, h (.bl r) F1 H1 w1 rfl⟩
    | er c' fs => simp only [e1] at h; exact h
    | no => simp only [e1] at h; exact h
end
/-! staticmethods -/
section
variable {X : Cx} {CX : CXT} {k : Nat} {f C g : Addr} {fd : FuncData} {ps : List Str} {sp : Sp} {E : St → XK} {x m : Str} {pos apos p : Pos} {e : Expr} {es : List Expr} {t : TA} {pl : Sem Bool} {mc : Value}
theorem getsm_ok {pins : List (Addr × Obj)} {σ : St} {H : Hp} {s : Shared} {A : Around} {E : Value → Shared → Prop} {rest : List Value} {Q : Value × List Value → Shared → Prop} (I : Inv X pins σ H s) (r : ClX.CRead X.K C mc)
    (at_ : PySem.W.findCls X.K (.ref C) mc m = some (.get (.builtin "staticmethod.__get__") (.ref f) .none (.ref C))) (hp : PySem.W.recIn X.K f "staticmethod" = some (.ref g :: rest))
    (h : ∀ s', Inv X pins σ H s' → Q (.ref g, []) s') : wpAny (model X.prog X.w) A (getMethod (.ref C) m pl) Q E s := by
  refine PySem.W.method_cls I.kIn r.ga (PySem.W.cls_bind I.kIn r.rd at_ ?_)
  exact wpAny_call (PySem.W.sm_get (s := { s with toks := s.toks + 1 }) I.kIn hp (PySem.W.handed_on rfl (h _ (I.tok _))))
theorem pe_smW {rest : List Value} (r : ClX.CRead X.K C mc) (at_ : PySem.W.findCls X.K (.ref C) mc m = some (.get (.builtin "staticmethod.__get__") (.ref f) .none (.ref C))) (hp : PySem.W.recIn X.K f "staticmethod" = some (.ref g :: rest)) (kp : PySem.W.keepIn X.K (.ref g) = true)
    (F : FnOk X.prog X.w X.K X.mg X.base CX k g fd ps sp) (hr : Room k X.A) (hb : Binds X.K fd ps []) (hx : ∀ σ, PassesAt CX X σ (E σ)) (hg : Gl X x) (hm : X.mg x = some (.ref C)) (ha : PA X (e :: es) t) (hdb : (x == ("__debug__" : Str)) = false := by decide)
    (hst : starEach (e :: es) X.env = (false, eval e X.env) :: starEach es X.env := by rfl) (hpl : (backTo pos (starEach es X.env)).any (·.1) = false := by rfl)
    (ht : eval (.Call (.Attribute (.Name x p) m apos) (e :: es) [] pos) X.env = (do
      let ov ← eval (.Name x p) X.env
      standAt apos.atName
      let (f, first) ← holding [ov] (getMethod ov m pl)
      callWith pos f first (backTo pos (starEach (e :: es) X.env)) (backToKw pos (keywordEach [] X.env))) := by rfl) :
    PE X (.Call (.Attribute (.Name x p) m apos) (e :: es) [] pos) (tCallS sp E t) := by
  refine ⟨fun pins s σ H Q I h => ?_⟩
  refine PySem.W.methodCall_KW (pl := pl) (thn ((pe_glob (v := .ref C) (pos := p) hg hm rfl hdb).run pins s σ H (fun v H1 => v = .ref C ∧ H1 = H) I ⟨rfl, rfl⟩) fun u s1 ⟨v, H1, I1, r1, ev, eH⟩ => ?_) ht
  subst ev
  subst eH
  cases (show u = Value.ref C from r1)
  refine getsm_ok I1 r at_ hp fun s2 I2 => ?_
  refine PySem.W.callWith_K (first := []) (h₀ := X.base) I.ok.mod.kin kp (thn (ha.run pos pins s2 σ _ _ I2 h) fun us s3 ⟨vs, H2, I3, r3, q3⟩ => ⟨I3.kIn, ?_⟩) hst hpl
  exact run_fnS F hr hb (hx σ) I3 r3 q3
end
/-- the staticmethod m of the class C keeps the promise sp -/
structure Ds (P : Program) (w : World) (K : PySem.W.Frag) (mg : Str → Option Value) (base : Heap) (C m : Str) (ps : List Str) (k : Nat) (sp : Sp) : Prop where
  ex : ∃ fd, FnOk P w K mg base (L2.CX P w) k (He5.wf K (He.ga K C) "staticmethod" m) fd ps sp ∧ Binds K fd ps []
  at_ : PySem.W.findCls K (.ref (He.ga K C)) (.type "type") m = some (.get (.builtin "staticmethod.__get__") (.ref (He.ma K (He.ga K C) m)) .none (.ref (He.ga K C)))
  rc : ∃ rest, PySem.W.recIn K (He.ma K (He.ga K C) m) "staticmethod" = some (.ref (He5.wf K (He.ga K C) "staticmethod" m) :: rest)
  kp : PySem.W.keepIn K (.ref (He5.wf K (He.ga K C) "staticmethod" m)) = true
  rd : ClX.CRead K (He.ga K C) (.type "type")
  mg : mg C = some (.ref (He.ga K C))
section
variable {X : Cx} {c : C0} {γ ρ αs : Type} {G : EnvT γ} [Rp ρ] [Rps αs] {e : Expr} {es : List Expr} {pos p apos : Pos} {C m : Str} {ps : List Str} {k j : Nat} {pl : Sem Bool}
theorem fe_sm {mm : αs → Xc ρ} {fs : γ → Xc αs} (D : Ds X.prog X.w X.K X.mg X.base C m ps j (spF X.K (rtF ρ) mm)) (tk : Takes X c.W) (hr : Room k X.A) (ha : FA X c G (e :: es) fs) (hjk : j ≤ k := by decide) (hg : Gl X C := by rfl)
    (hdb : (C == ("__debug__" : Str)) = false := by decide) (hst : starEach (e :: es) X.env = (false, eval e X.env) :: starEach es X.env := by rfl) (hpl : (backTo pos (starEach es X.env)).any (·.1) = false := by rfl)
    (ht : eval (.Call (.Attribute (.Name C p) m apos) (e :: es) [] pos) X.env = (do
      let ov ← eval (.Name C p) X.env
      standAt apos.atName
      let (f, first) ← holding [ov] (getMethod ov m pl)
      callWith pos f first (backTo pos (starEach (e :: es) X.env)) (backToKw pos (keywordEach [] X.env))) := by rfl) :
    FE X c G (.Call (.Attribute (.Name C p) m apos) (e :: es) [] pos) (fun g => (fs g).bind mm) := by
  obtain ⟨⟨fd, F, B⟩, at_, ⟨rest, hp⟩, kp, rd, mg⟩ := D
  refine PE.imp (pe_smW (E := WE c.W) rd at_ hp kp F (hr.mono hjk) B (fun σ => passAt tk σ) hg mg ha hdb hst hpl ht) fun σ H Q ⟨F, g, w, q, h⟩ => ?_
  refine ⟨F, g, w, q, ?_⟩
  cases e1 : fs g with
  | ok as =>
    intro us F1 H1 w1 r1
    simp only [e1] at h
    exact ⟨F1, as, w1.s, r1, por_of (Po.on (show Po X.K F H Q (WE c.W σ) (mm as) from h) w1)⟩
  | er c' fs => simp only [e1] at h; exact h
  | no => simp only [e1] at h; exact h
end
end FL

/-! FK8: any, all; dead code; chains of an __init__'s statements; what a head tells of classes. -/
namespace FL
open PySem L2
theorem al_bls {K : PySem.W.Frag} {F : Hp} : ∀ {xs : List V} {l : List Bool}, Al K F xs l → xs = l.map V.bl
  | _, _, .nil => rfl
  | _, _, .cons h t => by
    have h' : _ = V.bl _ := h
    rw [h', al_bls t]
    rfl
section
variable {X : Cx} {c : C0} {γ : Type} {G : EnvT γ} {a : Expr} {pos p : Pos}
theorem fe_any {fa : γ → Xc (List Bool)} (hc : X.calm = true) (ha : FE X c G a fa) (hm : X.mg "any" = none) (hg : Gl X "any" := by rfl) (hs : starEach [a] X.env = (false, eval a X.env) :: starEach [] X.env := by rfl)
    (hpl : (backTo pos (starEach [] X.env)).any (·.1) = false := by rfl) : FE X c G (.Call (.Name "any" p) [a] [] pos) (fun g => (fa g).bind fun l => Xc.ok (l.any id)) :=
  PE.imp (pe_callB (cr_any hc) hg hm PyProof.Rows.boot_any (pa_cons ha pa_nil hs) (he := hs) (hpl := hpl)) fun σ H Q ⟨F, g, w, q, h⟩ => by
    refine ⟨F, g, w, q, ?_⟩
    cases e1 : fa g with
    | ok l =>
      intro v F1 H1 w1 r1
      simp only [e1] at h
      obtain ⟨q', xs, ev, hq, z, al⟩ := r1
      subst ev
      have e := al_bls al
      subst e
      exact ⟨q', l, rfl, Same.seq w1.s hq, h (.bl _) F1 H1 w1 rfl⟩
    | er c' fs => simp only [e1] at h; exact h
    | no => simp only [e1] at h; exact h
theorem fe_all {fa : γ → Xc (List Bool)} (hc : X.calm = true) (ha : FE X c G a fa) (hm : X.mg "all" = none) (hg : Gl X "all" := by rfl) (hs : starEach [a] X.env = (false, eval a X.env) :: starEach [] X.env := by rfl)
    (hpl : (backTo pos (starEach [] X.env)).any (·.1) = false := by rfl) : FE X c G (.Call (.Name "all" p) [a] [] pos) (fun g => (fa g).bind fun l => Xc.ok (l.all id)) :=
  PE.imp (pe_callB (cr_all hc) hg hm PyProof.Rows.boot_all (pa_cons ha pa_nil hs) (he := hs) (hpl := hpl)) fun σ H Q ⟨F, g, w, q, h⟩ => by
    refine ⟨F, g, w, q, ?_⟩
    cases e1 : fa g with
    | ok l =>
      intro v F1 H1 w1 r1
      simp only [e1] at h
      obtain ⟨q', xs, ev, hq, z, al⟩ := r1
      subst ev
      have e := al_bls al
      subst e
      exact ⟨q', l, rfl, Same.seq w1.s hq, h (.bl _) F1 H1 w1 rfl⟩
    | er c' fs => simp only [e1] at h; exact h
    | no => simp only [e1] at h; exact h
theorem fe_dead {α : Type} [Rp α] : FE X c G a (fun _ => (Xc.no : Xc α)) := ⟨fun pins s σ H Q I ⟨F, g, w, q, h⟩ => h.elim⟩
end
section
variable {X : Cx} {γ γ1 α τ ρ : Type} {G : EnvT γ} {G1 : EnvT γ1} [Rps α] [Rps ρ] {C : Str} {ns nsF : List Str} {x : Addr} {st : Stmt} {sts : List Stmt} {c : C1}
theorem FK_.cast {m m' : α × γ → Xc ρ} (h : FK_ X c C ns nsF x G sts m) (i : ∀ g, m' g = m g) : FK_ X c C ns nsF x G sts m' := by rw [show m' = m from funext i]; exact h
theorem fk_B {fa : α × γ → Xc τ} {ψ : α × γ → τ → α × γ1} {m2 : α × γ1 → Xc ρ} (h1 : ∀ F' H', FN X ⟨⟨F', H', c.W⟩, c.M⟩ (sf x C ns α G) st (sf x C ns α G1) (fun g => (fa g).bind fun v => Xc.ok (ψ g v))) (h2 : FK_ X c C ns nsF x G1 sts m2) :
    FK_ X c C ns nsF x G (st :: sts) (fun g => (fa g).bind fun v => m2 (ψ g v)) := FK_.cast (fk_n h1 h2) fun g => by cases fa g <;> rfl
end
/-! heads -/
abbrev FnM (K : PySem.W.Frag) (x q : Str) (st : Stmt) (dvs : List V) (f : Addr) (fd : FuncData) : Prop := FunD K x q (defArgs st) (defBody st) (defScope st) dvs [] f fd
def clsBody (s : Stmt) : List Stmt := match s with
  | .ClassDef _ _ _ b _ _ _ _ _ _ _ => b
  | _ => []
section
variable {P : Program} {w : World} {K : PySem.W.Frag} {mg : Str → Option Value} {base : Heap} {C m x qual : Str} {params : Arguments} {body : List Stmt} {scope : Scope} {fd : FuncData} {ps : List Str} {k : Nat} {sp : Sp} {dvs : List V}
theorem dm_of (M : Meth K (He.ga K C) m (He.ma K (He.ga K C) m)) (b : Binds K fd ps []) (h : FnOk P w K mg base (L2.CX P w) k (He.ma K (He.ga K C) m) fd ps sp) : Dm P w K mg base C m ps k sp := ⟨⟨fd, h, b⟩, M⟩
theorem di_of (M : Mk K (He.ga K C) (He.ma K (He.ga K C) "__init__")) (g : mg C = some (.ref (He.ga K C))) (b : ∃ ds, Vals dvs ds ∧ Binds K fd ps ds) (h : FnOk P w K mg base (L2.CX P w) k (He.ma K (He.ga K C) "__init__") fd ps sp) : Di P w K mg base C ps dvs k sp := ⟨⟨fd, h, b⟩, M, g⟩
theorem ds_of (F : FunD K x qual params body scope [] [] (He5.wf K (He.ga K C) "staticmethod" m) fd) (r : ClX.CRead K (He.ga K C) (.type "type")) (hw : He5.wrapB K (He.ga K C) "staticmethod" "staticmethod.__get__" m = true) (g : mg C = some (.ref (He.ga K C))) (b : Binds K fd ps [])
    (h : FnOk P w K mg base (L2.CX P w) k (He5.wf K (He.ga K C) "staticmethod" m) fd ps sp) : Ds P w K mg base C m ps k sp := ⟨⟨fd, h, b⟩, (He5.wrapB_ok hw).1, (He5.wrapB_ok hw).2, F.kp, r, g⟩
end
/-- what a head asks of a class, as Bools -/
def someB {α : Type} (o : Option α) : Bool := o.isSome
def refB (o : Option (Option Value)) : Bool := match o with
  | some none => true
  | some (some (.ref _)) => true
  | _ => false
def opIB (K : PySem.W.Frag) (C m mr : Str) : Bool := PySem.W.selfFirst K (He.ga K C) && (refB (PySem.W.findIn K (.ref (He.ga K C)) mr) && ((PySem.W.findIn K (.type "int") m).isSome && ((PySem.W.findIn K (.type "int") mr).isSome && decide (PySem.W.subIn K (.type "int") (.ref (He.ga K C)) = some false))))
theorem opIB_ok {K : PySem.W.Frag} {C m mr : Str} (h : opIB K C m mr = true) : OpI K C m mr := by
  obtain ⟨h1, h⟩ := He.ba h
  obtain ⟨h2, h⟩ := He.ba h
  obtain ⟨h3, h⟩ := He.ba h
  obtain ⟨h4, h5⟩ := He.ba h
  refine ⟨h1, ?_, Option.isSome_iff_exists.mp h3, Option.isSome_iff_exists.mp h4, of_decide_eq_true h5⟩
  unfold refB at h2
  split at h2
  · rename_i e; exact ⟨_, e, .inl rfl⟩
  · rename_i g e; exact ⟨_, e, .inr ⟨g, rfl⟩⟩
  · cases h2
def isiB (K : PySem.W.Frag) (C : Str) : Bool := decide (PySem.W.findIn K (.ref (He.ga K C)) "__class__" = some (some (.builtin "object.__class__"))) && (decide (PySem.W.specialIn K (.builtin "object.__class__") "__get__" = some (some (.builtin "getset_descriptor.__get__"))) && (decide (PySem.W.takesIn K (.builtin "object.__class__") = some true) && decide (PySem.W.mroIn K (He.ga K C) (.type "object") = some true)))
theorem isiB_ok {K : PySem.W.Frag} {C : Str} (cl : Cls K (He.ga K C)) (h : isiB K C = true) : Isi K C := by
  obtain ⟨h1, h⟩ := He.ba h
  obtain ⟨h2, h⟩ := He.ba h
  obtain ⟨h3, h4⟩ := He.ba h
  exact ⟨cl, ⟨of_decide_eq_true h1, of_decide_eq_true h2, of_decide_eq_true h3, of_decide_eq_true h4⟩⟩
def readB (K : PySem.W.Frag) (C : Str) : Bool := PySem.W.readsIn K (He.ga K C) (.type "type") && decide (PySem.W.specialIn K (.ref (He.ga K C)) "__getattribute__" = some (some (.builtin "type.__getattribute__")))
theorem readB_ok {K : PySem.W.Frag} {C : Str} (h : readB K C = true) : ClX.CRead K (He.ga K C) (.type "type") := ⟨(He.ba h).1, of_decide_eq_true (He.ba h).2⟩
/-! the hook: facts, defs at any address, one more Bool -/
structure SaysK (fa : List He.Fa) (fn : List He5.DefA) (ex : PySem.W.Frag → Bool) (K : PySem.W.Frag) : Prop where
  a : He5.SaysA fa fn K
  more : ex K = true
def obsK (n : Nat) (fa : List He.Fa) (fn : List He5.DefA) (ex : PySem.W.Frag → Bool) (g : Addr → Option Obj) : He.AlD × Bool := (He5.obsA fa fn (He.frG g (He5.asA g n)), ex (He.frG g (He5.asA g n)))
def hookK (n : Nat) (fa : List He.Fa) (fn : List He5.DefA) (ex : PySem.W.Frag → Bool) : PySem.W.Hook where
  α := He.AlD × Bool
  obs := fun s => obsK n fa fn ex s.heap.get?
  val := fun _ => (He5.valA fn, true)
  says := fun _ h => ∃ K : PySem.W.Frag, K.In h ∧ SaysK fa fn ex K
  of := fun _ _ e => ⟨_, He.frG_in, congrArg (fun z : He.AlD × Bool => z.1) e, congrArg (fun z : He.AlD × Bool => z.2) e⟩
  keeps := fun _ _ _ ⟨K, hK, c⟩ k => ⟨K, PySem.W.Frag.In.keeps hK k, c⟩
theorem obsK_eq {n : Nat} {fa : List He.Fa} {fn : List He5.DefA} {ex : PySem.W.Frag → Bool} {g : Addr → Option Obj} {s : Shared} (h : ∀ a, g a = s.heap.get? a) : obsK n fa fn ex g = (hookK n fa fn ex).obs s := by
  have e : g = s.heap.get? := funext h
  rw [e] <;> rfl
end FL

/-! FK9: constants of classes; dicts with fixed keys; dead code in blocks. -/
namespace FL
open PySem L2
section
variable {X : Cx} {c : C1} {γ γ' : Type} {G : EnvT γ} {G' : EnvT γ'} {sts : List Stmt}
theorem fns_dead : FNs X c G sts G' (fun _ => Xc.no) := ⟨fun pins s σ H D I ⟨F, g, w, q, h⟩ => h.elim⟩
end
/-! C.F, a whole number -/
def conB (K : PySem.W.Frag) (C f : Str) (i : Int) : Bool := match PySem.W.findCls K (.ref (He.ga K C)) (.type "type") f with
  | some (.val (.int j _)) => decide (j = i)
  | _ => false
theorem conB_ok {K : PySem.W.Frag} {C f : Str} {i : Int} (h : conB K C f i = true) : ∃ t, PySem.W.findCls K (.ref (He.ga K C)) (.type "type") f = some (.val (.int i t)) := by
  unfold conB at h
  split at h
  · rename_i j t e
    exact ⟨t, by rw [e, of_decide_eq_true h]⟩
  · cases h
section
variable {X : Cx} {c : C0} {γ : Type} {G : EnvT γ} {pos p : Pos} {C f : Str}
theorem fe_ccon {i : Int} (rd : ClX.CRead X.K (He.ga X.K C) (.type "type")) (h : ∃ t, PySem.W.findCls X.K (.ref (He.ga X.K C)) (.type "type") f = some (.val (.int i t))) (hm : X.mg C = some (.ref (He.ga X.K C))) (hg : Gl X C := by rfl) (hd : (C == ("__debug__" : Str)) = false := by decide)
    (hb : attributeBase (.Name C p) f X.env (eval (.Name C p) X.env) = eval (.Name C p) X.env := by rfl) : FE X c G (.Attribute (.Name C p) f pos) (fun _ => Xc.ok i) := by
  obtain ⟨t, h⟩ := h
  exact PE.imp (ClX.pe_cval (pe_glob (v := .ref (He.ga X.K C)) hg hm rfl hd) hb) fun σ H Q ⟨F, g, w, q, p⟩ => ⟨_, _, .int i, _, rfl, rd, ⟨h, t, rfl⟩, p (.int i) F H (Wd.refl w.s) rfl⟩
end
/-! dicts with fixed keys -/
structure Dc (ns : List Str) (α : Type) where
  v : α
def kvs (ns : List Str) (vs : List V) : List (Key × V) := (ns.zip vs).map fun p => (.inr p.1, p.2)
instance {ns : List Str} {α : Type} [Rps α] : Rp (Dc ns α) := ⟨fun K F v o => ∃ p vs, v = .ref p ∧ F p = some (.dK (kvs ns vs)) ∧ vs.length = ns.length ∧ Rps.isL K F vs o.v,
  fun s ⟨p, vs, e, h, l, r⟩ => ⟨p, vs, e, s _ _ h, l, Rps.mono s r⟩⟩
instance {ns : List Str} {α : Type} [Rps α] [RpsT α] : RpT (Dc ns α) := ⟨fun s ⟨p, vs, e, h, l, r⟩ => ⟨p, vs, e, s _ _ h (fun _ z => nomatch z), l, RpsT.down s r⟩⟩
instance {ns : List Str} {α : Type} [Rps α] : NotNone (Dc ns α) := ⟨fun ⟨p, vs, h, _⟩ => by subst h; intro z; cases z⟩
theorem kvs_get {f : Str} : ∀ {ns : List Str} {vs : List V} {i : Nat} {v : V}, ns.findIdx (· == f) = i → vs.length = ns.length → vs[i]? = some v → valV (kvs ns vs) (.inr f) = some v
  | [], vs, i, v, h, l, e => by
    have : vs = [] := List.length_eq_zero_iff.mp (by simpa using l)
    subst this
    simp at e
  | n :: ns, [], i, v, h, l, e => by simp at l
  | n :: ns, u :: vs, i, v, h, l, e => by
    rw [List.findIdx_cons] at h
    by_cases q : n = f
    · subst q
      rw [beq_self_eq_true, cond_true] at h
      subst h
      have e : u = v := by simpa using e
      subst e
      exact valV_pos rfl
    · rw [beq_eq_false_iff_ne.mpr q, cond_false] at h
      subst h
      have ih := kvs_get (ns := ns) (vs := vs) (i := ns.findIdx (· == f)) (v := v) rfl (by simpa using l) (by simpa using e)
      unfold valV kvs at ih ⊢
      rw [List.zip_cons_cons, List.map_cons, List.find?_cons]
      have : decide ((Sum.inr n : Key) = Sum.inr f) = false := decide_eq_false fun z => q (Sum.inr.inj z)
      rw [this]
      exact ih
theorem merge_kvs {ns : List Str} (hn : ns.Nodup) {vs : List V} (hl : vs.length = ns.length) : mergeK [] (kvs ns vs) = kvs ns vs := by
  have go : ∀ (ms : List Str) (us : List V) (acc : List (Key × V)), ms.Nodup → (∀ m ∈ ms, ∀ p ∈ acc, p.1 ≠ .inr m) → mergeK acc (kvs ms us) = acc ++ kvs ms us := by
    intro ms
    induction ms with
    | nil => intro us acc _ _; simp [kvs, mergeK]
    | cons m ms ih =>
      intro us acc nd ha
      cases us with
      | nil => simp [kvs, mergeK]
      | cons u us =>
        have nd' := List.nodup_cons.mp nd
        have e : putK acc (.inr m) u = acc ++ [(.inr m, u)] := by
          unfold putK
          rw [if_neg]
          rw [List.any_eq_true]
          rintro ⟨p, mp, hp⟩
          exact ha m (by simp) p mp (of_decide_eq_true hp)
        show mergeK (putK acc (.inr m) u) (kvs ms us) = acc ++ ((.inr m, u) :: kvs ms us)
        rw [e, ih us _ nd'.2 fun n mn p mp => ?_, List.append_assoc]
        · rfl
        · rcases List.mem_append.mp mp with mp | mp
          · exact ha n (by simp [mn]) p mp
          · rw [List.mem_singleton.mp mp]
            exact fun z => nd'.1 (Sum.inr.inj z ▸ mn)
  have := go ns vs [] hn (fun _ _ _ h => by cases h)
  simpa using this
section
variable {X : Cx} {c : C0} {γ α τ αs : Type} {G : EnvT γ} [Rps α] [Rps αs] {o : Expr} {pos p2 : Pos} {ns : List Str} {k j : Nat}
/-- d['f'] -/
theorem fe_dcget (i : Nat) {r : Rp τ} {π : α → τ} [P : Prj α i τ r π] {f : Str} {fa : γ → Xc (Dc ns α)} (hr : Room k X.A) (ha : FE X c G o fa) (hi : ns.findIdx (· == f) = i := by decide) (hs : NoSl (.Constant (.str f) j p2) := by exact fun _ _ => rfl) : FE X c G (.Subscript o (.Constant (.str f) j p2) pos) (fun g => (fa g).bind fun o => Xc.ok (π o.v)) :=
  PE.imp (pe_dget (by have := hr.un; omega) ha pe_str hs) fun σ H Q ⟨F, g, w, q, h⟩ => by
    refine ⟨F, g, w, q, ?_⟩
    cases e1 : fa g with
    | ok o =>
      intro v F1 H1 w1 r1
      simp only [e1] at h
      obtain ⟨p, vs, ev, hp, hl, hr'⟩ := r1
      obtain ⟨u, hu, ru⟩ := P.get hr'
      exact ⟨p, u, ev, .inl ⟨_, .inr f, .inl (w1.s _ _ hp), rfl, (kvs_get hi hl hu).symm⟩, h u F1 H1 w1 ru⟩
    | er c' fs => simp only [e1] at h; exact h
    | no => simp only [e1] at h; exact h
/-- the values of a display -/
def tDp (K : PySem.W.Frag) (c : C0) (G : EnvT γ) (ns : List Str) (f : γ → Xc αs) (σ : St) (H : Hp) (Q : List (V × V) → Hp → Prop) : Prop := ∃ F g, Wd c.F0 c.H0 F H ∧ G.rel K c.H0 F H σ g ∧ PoA K F H (fun vs H' => vs.length = ns.length → Q ((kvs ns vs).map fun kv => (kV kv.1, kv.2)) H') (WE c.W σ) (f g)
structure FDp (X : Cx) (c : C0) (G : EnvT γ) (keys : List (Option Expr)) (values : List Expr) (ns : List Str) (f : γ → Xc αs) : Prop where
  ex : ∃ trs, (∀ pos, PPs X pos keys values trs) ∧ ∀ σ H Q, tDp X.K c G ns f σ H Q → tPairs trs σ H Q
theorem fdp_nil : FDp X c G [] [] [] (fun _ => Xc.ok ()) := ⟨[], fun _ => pps_nil, fun σ H Q ⟨F, g, w, q, h⟩ => h [] F H (Wd.refl w.s) rfl rfl⟩
end
section
variable {X : Cx} {c : C0} {γ α αs : Type} {G : EnvT γ} [Rp α] [Rps αs] {pos p2 : Pos} {ns : List Str} {j : Nat}
theorem fdp_cons {f : Str} {ve : Expr} {keys : List (Option Expr)} {values : List Expr} {fv : γ → Xc α} {fs : γ → Xc αs} (hv : FE X c G ve fv) (hr : FDp X c G keys values ns fs) : FDp X c G (some (.Constant (.str f) j p2) :: keys) (ve :: values) (f :: ns) (fun g => (fv g).bind fun v => (fs g).bind fun r => Xc.ok (v, r)) := by
  obtain ⟨trs, h1, h2⟩ := hr
  refine ⟨_, fun pos => pps_cons pe_str hv (h1 pos), fun σ H Q ⟨F, g, w, q, h⟩ => ?_⟩
  show tF X.K c G fv σ H fun y H2 => tPairs trs σ H2 fun ps H3 => Q ((.str f, y) :: ps) H3
  refine ⟨F, g, w, q, ?_⟩
  cases e1 : fv g with
  | ok v =>
    intro y F1 H1 w1 r1
    simp only [e1] at h
    have h : PoA X.K F H _ (WE c.W σ) ((fs g).bind fun r => Xc.ok (v, r)) := h
    refine h2 σ H1 _ ⟨F1, g, w.trans w1, G.mono q w1, ?_⟩
    cases e2 : fs g with
    | ok r =>
      intro vs F2 H2 w2 r2 l2
      simp only [e2] at h
      exact h (y :: vs) F2 H2 (w1.trans w2) ⟨y, vs, rfl, Rp.mono w2.f r1, r2⟩ (by rw [List.length_cons, List.length_cons, l2])
    | er c' fs => simp only [e2] at h; exact ErP.on (show ErP X.K F H (WE c.W σ) c' fs from h) w1
    | no => simp only [e2] at h; exact h
  | er c' fs => simp only [e1] at h; exact h
  | no => simp only [e1] at h; exact h
/-- {'a': e, ..} -/
theorem fe_dc {keys : List (Option Expr)} {values : List Expr} {fs : γ → Xc αs} {n : Nat} [RN : RpsN αs n] (h : FDp X c G keys values ns fs) (hn : ns.length = n := by rfl) (hd : ns.Nodup := by decide) (h15 : ns.length ≤ 15 := by decide) (hall : keys.all (·.isSome) = true := by rfl) (hl : keys.length = values.length := by rfl) (h0 : keys ≠ [] := by exact fun z => nomatch z)
    (hk15 : keys.length ≤ 15 := by decide) : FE X c G (.Dict keys values pos) (fun g => (fs g).bind fun as => Xc.ok (⟨as⟩ : Dc ns αs)) := by
  obtain ⟨trs, h1, h2⟩ := h
  refine PE.imp (pe_disp (h1 pos) hall hl h0 hk15) fun σ H Q ⟨F, g, w, q, p⟩ => ?_
  intro a ha
  have w0 : Wd F H F (upd H a (.dK [])) := Wd.newO w.s ha
  refine h2 σ _ _ ⟨F, g, w.trans w0, G.mono q w0, ?_⟩
  cases e1 : fs g with
  | ok as =>
    intro vs F1 H1 w1 r1 _
    simp only [e1] at p
    have hl1 : vs.length = ns.length := by rw [RN.len r1, hn]
    have f0 : F a = none := w.s.free ha
    have h1 : H1 a = some (.dK []) := w1.h _ _ upd_same
    have f1 : F1 a = none := w1.own f0 upd_same
    refine ⟨h1, kvs ns vs, rfl, by unfold kvs; rw [List.length_map, List.length_zip, hl1]; omega, ?_⟩
    rw [merge_kvs hd hl1]
    refine p (.ref a) (upd F1 a (.dK (kvs ns vs))) _ ?_ ⟨a, vs, rfl, upd_same, hl1, Rps.mono (same_new f1) r1⟩
    refine ⟨w1.f.trans (same_new f1), fun b u e => ?_, same_upd w1.s, fun b hb e => ?_⟩
    · rw [upd_ne (ne_of_none e ha)]
      exact w1.h b u (by rw [upd_ne (ne_of_none e ha)]; exact e)
    · by_cases z : b = a
      · subst z; exact ha
      · rw [upd_ne z] at hb
        have := w1.n b hb e
        rwa [upd_ne z] at this
  | er c' fs =>
    simp only [e1] at p
    exact ErP.on (show ErP X.K F H (WE c.W σ) c' fs from p) w0
  | no => simp only [e1] at p; exact p
end
end FL

/-! FZ8: a zip whose last tuple is still out, over any two walkers. -/
namespace FZ
open PySem RZ
section
variable {prog : Program} {w : World} {A : Around} {E : Value → Shared → Prop} {s : Shared} {P1 P2 : Nat → Heap → Prop} {g1 g2 : Nat → Option Value} {z TI TO T i1 i2 l1 l2 : Addr} {k1 k2 : Nat} {x y : Value} {f : Bool} {oT : Obj}
theorem nxtH (W1 : Wkr prog w P1 i1 l1 g1) (W2 : Wkr prog w P2 i2 l2 g2) (D : ZipApart z TI TO i1 i2 l1 l2) (hz : IsZipHeld s.heap z TI TO T f) (hT : s.heap.get? T = some oT) (hTI : IsPair s.heap TI (.ref i1) (.ref i2)) (h1 : P1 k1 s.heap) (h2 : P2 k2 s.heap) (hx : g1 k1 = some x) (hy : g2 k2 = some y)
    {Q : Value → Shared → Prop} (hQ : ∀ h', IsZipHeld h' z TI TO T true → P1 (k1 + 1) h' → P2 (k2 + 1) h' → IsPair h' s.heap.objs.size x y → h'.objs.size = s.heap.objs.size + 1 → (∀ c o, c ≠ z → c ≠ i1 → c ≠ i2 → s.heap.get? c = some o → h'.get? c = some o) → Q (.ref s.heap.objs.size) { s with heap := h' }) :
    wpAny (model prog w) A (Builtin.«zip.__next__» ⟨[.ref z], []⟩) (fun fin s' => ∃ v, fin = .done (.ret v) ∧ Q v s') E s := by
  show wpAny _ _ (field (.ref z) 2 >>= _) _ _ _
  refine wpAny_bind (wpAny_field hz rfl (x := .bool false) rfl ?_)
  show wpAny _ _ (field (.ref z) 3 >>= _) _ _ _
  refine wpAny_bind (wpAny_field hz rfl (x := .ref TI) rfl ?_)
  refine wpAny_bind (wpAny_seqItems hTI rfl ?_)
  show wpAny _ _ (Builtin.SmallTypes.ownedTupleIsFree (.ref z) >>= _) _ _ _
  refine wpAny_bind (wpAny_tupleHeld_zip hz hT fun h₁ hz₁ hs₁ => ?_)
  simp only [Bool.false_eq_true, if_false]
  refine wpAny_bind ?_
  rw [← Array.forIn_toList]
  simp only [List.forIn_cons, List.forIn_nil]
  refine wpAny_bind (wpAny_bind (wpAny_holding ?_))
  show wpAny _ _ (Builtin.SmallTypes.nextOf (.ref i1) >>= _) _ _ _
  refine wpAny_bind (W1.item (s := { s with heap := h₁ }) (W1.ext h1 hs₁.extBut D.i1z D.l1z) hx fun h₂ h1₂ hs₂ => wpAny_pure ?_)
  refine wpAny_pure ?_
  refine wpAny_bind (wpAny_bind (wpAny_holding ?_))
  show wpAny _ _ (Builtin.SmallTypes.nextOf (.ref i2) >>= _) _ _ _
  refine wpAny_bind (W2.item (s := { s with heap := h₂ }) (W2.ext (W2.ext h2 hs₁.extBut D.i2z D.l2z) hs₂.extBut D.i12.symm D.l2i1) hy fun h₃ h2₃ hs₃ => wpAny_pure ?_)
  refine wpAny_pure (wpAny_pure ?_)
  show wpAny _ _ (newTuple [x, y] >>= _) _ _ _
  refine wpAny_bind (wpAny_newTuple ?_)
  have hsz : h₃.objs.size = s.heap.objs.size := by rw [hs₃.1, hs₂.1, hs₁.1]
  have hz₃ : IsZipHeld h₃ z TI TO T true := hs₃.extBut _ _ D.i2z.symm (hs₂.extBut _ _ D.i1z.symm hz₁)
  have hk : ∀ c o, c ≠ z → c ≠ i1 → c ≠ i2 → s.heap.get? c = some o → h₃.get? c = some o := fun c o c1 c2 c3 e => hs₃.extBut _ _ c3 (hs₂.extBut _ _ c2 (hs₁.extBut _ _ c1 e))
  have h1₃ : P1 (k1 + 1) h₃ := W1.ext h1₂ hs₃.extBut D.i12 D.l1i2
  refine wpAny_pure ⟨_, rfl, ?_⟩
  show Q (.ref h₃.objs.size) _
  have hp : IsPair (h₃.push { cls := .type "tuple", data := .seq #[x, y] }) h₃.objs.size x y := Heap.get?_push_size _ rfl
  have hz4 : (h₃.push { cls := .type "tuple", data := .seq #[x, y] }).objs.size = h₃.objs.size + 1 := Heap.size_push ..
  rw [hsz] at hp hz4 ⊢
  exact hQ _ (Heap.get?_push_of_some _ hz₃) (W1.up h1₃ (fun o e => Heap.get?_push_of_some _ e) fun o e => Heap.get?_push_of_some _ e) (W2.up h2₃ (fun o e => Heap.get?_push_of_some _ e) fun o e => Heap.get?_push_of_some _ e) hp hz4 fun c o c1 c2 c3 e => Heap.get?_push_of_some _ (hk c o c1 c2 c3 e)
theorem doneH (W1 : Wkr prog w P1 i1 l1 g1) (W2 : Wkr prog w P2 i2 l2 g2) (hh : A.handled = none) (D : ZipApart z TI TO i1 i2 l1 l2) (hz : IsZipHeld s.heap z TI TO T f) (hT : s.heap.get? T = some oT) (hTI : IsPair s.heap TI (.ref i1) (.ref i2)) (h1 : P1 k1 s.heap) (h2 : P2 k2 s.heap) (he : g1 k1 = none ∨ g2 k2 = none)
    {Q : Fin → Shared → Prop} (hE : ∀ h' e, (∀ c o, c ≠ z → c ≠ i1 → c ≠ i2 → s.heap.get? c = some o → h'.get? c = some o) → (∃ o, h'.get? e = some o ∧ o.cls = .type "StopIteration") → E (.ref e) { s with heap := h' }) : wpAny (model prog w) A (Builtin.«zip.__next__» ⟨[.ref z], []⟩) Q E s := by
  show wpAny _ _ (field (.ref z) 2 >>= _) _ _ _
  refine wpAny_bind (wpAny_field hz rfl (x := .bool false) rfl ?_)
  show wpAny _ _ (field (.ref z) 3 >>= _) _ _ _
  refine wpAny_bind (wpAny_field hz rfl (x := .ref TI) rfl ?_)
  refine wpAny_bind (wpAny_seqItems hTI rfl ?_)
  show wpAny _ _ (Builtin.SmallTypes.ownedTupleIsFree (.ref z) >>= _) _ _ _
  refine wpAny_bind (wpAny_tupleHeld_zip hz hT fun h₁ hz₁ hs₁ => ?_)
  simp only [Bool.false_eq_true, if_false]
  refine wpAny_bind ?_
  rw [← Array.forIn_toList]
  simp only [List.forIn_cons, List.forIn_nil]
  refine wpAny_bind (wpAny_bind (wpAny_holding ?_))
  show wpAny _ _ (Builtin.SmallTypes.nextOf (.ref i1) >>= _) _ _ _
  cases hx : g1 k1 with
  | none =>
    refine wpAny_bind (W1.fin (s := { s with heap := h₁ }) hh (W1.ext h1 hs₁.extBut D.i1z D.l1z) hx fun h₂ e hs₂ he => ?_)
    exact hE h₂ e (fun c o c1 c2 _ x => hs₂ _ _ c2 (hs₁.extBut _ _ c1 x)) he
  | some x =>
    have hy : g2 k2 = none := by rcases he with h | h; rw [hx] at h; cases h; exact h
    refine wpAny_bind (W1.item (s := { s with heap := h₁ }) (W1.ext h1 hs₁.extBut D.i1z D.l1z) hx fun h₂ h1₂ hs₂ => wpAny_pure ?_)
    refine wpAny_pure ?_
    refine wpAny_bind (wpAny_bind (wpAny_holding ?_))
    show wpAny _ _ (Builtin.SmallTypes.nextOf (.ref i2) >>= _) _ _ _
    refine wpAny_bind (W2.fin (s := { s with heap := h₂ }) hh (W2.ext (W2.ext h2 hs₁.extBut D.i2z D.l2z) hs₂.extBut D.i12.symm D.l2i1) hy fun h₃ e hs₃ he => ?_)
    exact hE h₃ e (fun c o c1 c2 c3 x => hs₃ _ _ c3 (hs₂.extBut _ _ c2 (hs₁.extBut _ _ c1 x))) he
theorem py_itemH (W1 : Wkr prog w P1 i1 l1 g1) (W2 : Wkr prog w P2 i2 l2 g2) (D : ZipApart z TI TO i1 i2 l1 l2) (hz : IsZipHeld s.heap z TI TO T f) (hT : s.heap.get? T = some oT) (hTI : IsPair s.heap TI (.ref i1) (.ref i2)) (h1 : P1 k1 s.heap) (h2 : P2 k2 s.heap) (hx : g1 k1 = some x) (hy : g2 k2 = some y)
    {Q : Option Value → Shared → Prop} (hQ : ∀ h', IsZipHeld h' z TI TO T true → P1 (k1 + 1) h' → P2 (k2 + 1) h' → IsPair h' s.heap.objs.size x y → h'.objs.size = s.heap.objs.size + 1 → (∀ c o, c ≠ z → c ≠ i1 → c ≠ i2 → s.heap.get? c = some o → h'.get? c = some o) → Q (some (.ref s.heap.objs.size)) { s with heap := h' }) : wpAny (model prog w) A (pyNext (.ref z)) Q E s := by
  have Ty : s.TypeIs (.ref z) "zip" := ⟨_, hz, rfl⟩
  unfold pyNext
  exact wpAny_bind (wpAny_attempt (wpAny_callSpecial?_slot (name := Str.ofString "__next__") Ty F.slot_zip_next (wpAny_call_entry F.slot_zip_next Ty F.entry_zip_next (nxtH W1 W2 D hz hT hTI h1 h2 hx hy fun h' a1 a3 a4 a5 a6 a7 => wpAny_pure (hQ h' a1 a3 a4 a5 a6 a7)) (F.args_zip_next_1 _))))
theorem py_doneH (W1 : Wkr prog w P1 i1 l1 g1) (W2 : Wkr prog w P2 i2 l2 g2) (hh : A.handled = none) (D : ZipApart z TI TO i1 i2 l1 l2) (hz : IsZipHeld s.heap z TI TO T f) (hT : s.heap.get? T = some oT) (hTI : IsPair s.heap TI (.ref i1) (.ref i2)) (h1 : P1 k1 s.heap) (h2 : P2 k2 s.heap) (he : g1 k1 = none ∨ g2 k2 = none)
    {Q : Option Value → Shared → Prop} (hQ : ∀ h', (∀ c o, c ≠ z → c ≠ i1 → c ≠ i2 → s.heap.get? c = some o → h'.get? c = some o) → Q none { s with heap := h' }) : wpAny (model prog w) A (pyNext (.ref z)) Q E s := by
  have Ty : s.TypeIs (.ref z) "zip" := ⟨_, hz, rfl⟩
  unfold pyNext
  refine wpAny_bind (wpAny_attempt (wpAny_callSpecial?_slot (name := Str.ofString "__next__") Ty F.slot_zip_next (wpAny_call_entry F.slot_zip_next Ty F.entry_zip_next (doneH (A := A.in1) W1 W2 hh D hz hT hTI h1 h2 he fun h' e hk ⟨o, ho, hc⟩ => ?_) (F.args_zip_next_1 _))))
  exact wpAny_bind (wpAny_isInstance (T := "StopIteration") (b := true) ⟨o, ho, hc⟩ isSubtype_stop (wpAny_pure (hQ _ hk)))
end
end FZ

/-! FZ9: list(zip(.., ..)): its loop. -/
namespace FZ
open PySem RZ
theorem zip_no_len : typeLookup (.type "zip") "__len__" = pure none := am_miss_of_fast (by decide +kernel)
theorem zip_no_hint : typeLookup (.type "zip") "__length_hint__" = pure none := am_miss_of_fast (by decide +kernel)
def outs (B i : Nat) : Array Value := ((List.range i).map fun j => Value.ref (B + j)).toArray
theorem outs_push (B i : Nat) : (outs B i).push (.ref (B + i)) = outs B (i + 1) := by
  simp [outs, List.range_succ]
theorem outs_size (B i : Nat) : (outs B i).size = i := by simp [outs]
theorem nbB {a B : Addr} {j : Nat} (h : a < B) : B + j ≠ a := Nat.ne_of_gt (Nat.lt_of_lt_of_le h (Nat.le_add_right _ _))
theorem nbT {a B T : Addr} (h : a < B) (b : B ≤ T) : T ≠ a := Nat.ne_of_gt (Nat.lt_of_lt_of_le h b)
structure ZSt (P1 P2 : Nat → Heap → Prop) (g1 g2 : Nat → Option Value) (z TI TO i1 i2 S B : Addr) (h0 : Heap) (i : Nat) (h : Heap) : Prop where
  zip : IsZip h z TI TO .none ∨ ∃ T f oT, B ≤ T ∧ IsZipHeld h z TI TO T f ∧ h.get? T = some oT
  ti : IsPair h TI (.ref i1) (.ref i2)
  to : ∃ a b, IsPair h TO a b
  p1 : P1 i h
  p2 : P2 i h
  ls : ∃ c, h.get? S = some { cls := .type "list", dict := none, data := .seq (outs B i) c, slots := #[] }
  tup : ∀ j, j < i → ∃ x y, g1 j = some x ∧ g2 j = some y ∧ IsPair h (B + j) x y
  size : h.objs.size = B + i
  keep : ∀ c o, c ≠ z → c ≠ TO → c ≠ i1 → c ≠ i2 → c ≠ S → h0.get? c = some o → h.get? c = some o
section
variable {prog : Program} {w : World} {A : Around} {P1 P2 : Nat → Heap → Prop} {g1 g2 : Nat → Option Value} {z TI TO i1 i2 l1 l2 S B : Addr} {h0 : Heap} {n : Nat}
/-- the list is none of the zip's parts -/
structure Sap (z TI TO i1 i2 l1 l2 S B : Addr) : Prop where
  nz : S ≠ z
  nti : S ≠ TI
  nto : S ≠ TO
  n1 : S ≠ i1
  n2 : S ≠ i2
  nl1 : S ≠ l1
  nl2 : S ≠ l2
  zB : z < B
  tiB : TI < B
  toB : TO < B
  i1B : i1 < B
  i2B : i2 < B
  sB : S < B
theorem ZSt.up (W1 : Wkr prog w P1 i1 l1 g1) (W2 : Wkr prog w P2 i2 l2 g2) (Y : Sap z TI TO i1 i2 l1 l2 S B) {i : Nat} {h h' : Heap} {c : Nat} (hzip : IsZip h z TI TO .none ∨ ∃ T f oT, B ≤ T ∧ IsZipHeld h z TI TO T f ∧ h.get? T = some oT)
    (ti : IsPair h TI (.ref i1) (.ref i2)) (to : ∃ a b, IsPair h TO a b) (p1 : P1 i h) (p2 : P2 i h) (tup : ∀ j, j < i → ∃ x y, g1 j = some x ∧ g2 j = some y ∧ IsPair h (B + j) x y) (size : h.objs.size = B + i) (keep : ∀ c o, c ≠ z → c ≠ TO → c ≠ i1 → c ≠ i2 → c ≠ S → h0.get? c = some o → h.get? c = some o)
    (hs : h'.get? S = some { cls := .type "list", dict := none, data := .seq (outs B i) c, slots := #[] }) (sz : h'.objs.size = h.objs.size) (ex : ∀ b o, b ≠ S → h.get? b = some o → h'.get? b = some o) : ZSt P1 P2 g1 g2 z TI TO i1 i2 S B h0 i h' where
  zip := hzip.imp (fun e => ex _ _ Y.nz.symm e) fun ⟨T, f, oT, bT, e, eT⟩ => ⟨T, f, oT, bT, ex _ _ Y.nz.symm e, ex _ _ (Nat.ne_of_gt (Nat.lt_of_lt_of_le Y.sB bT)) eT⟩
  ti := ex _ _ Y.nti.symm ti
  to := to.imp fun a ⟨b, e⟩ => ⟨b, ex _ _ Y.nto.symm e⟩
  p1 := W1.up p1 (fun o e => ex _ _ Y.n1.symm e) fun o e => ex _ _ Y.nl1.symm e
  p2 := W2.up p2 (fun o e => ex _ _ Y.n2.symm e) fun o e => ex _ _ Y.nl2.symm e
  ls := ⟨c, hs⟩
  tup := fun j hj => by obtain ⟨x, y, e1, e2, e3⟩ := tup j hj; exact ⟨x, y, e1, e2, ex _ _ (nbB Y.sB) e3⟩
  size := sz.trans size
  keep := fun b o c1 c2 c3 c4 c5 e => ex b o c5 (keep b o c1 c2 c3 c4 c5 e)
theorem loopZ (W1 : Wkr prog w P1 i1 l1 g1) (W2 : Wkr prog w P2 i2 l2 g2) (hh : A.handled = none) (D : ZipApart z TI TO i1 i2 l1 l2) (Y : Sap z TI TO i1 i2 l1 l2 S B) (hn : n ≤ sizeLine) (hg : ∀ i, i < n → ∃ x y, g1 i = some x ∧ g2 i = some y) (he : g1 n = none ∨ g2 n = none) (res : Value) {R : Result → Shared → Prop} :
    ∀ (k i : Nat) (s : Shared), n - i = k → i ≤ n → ZSt P1 P2 g1 g2 z TI TO i1 i2 S B h0 i s.heap →
    (∀ h', (∃ c, h'.get? S = some { cls := .type "list", dict := none, data := .seq (outs B n) c, slots := #[] }) → (∀ j, j < n → ∃ x y, g1 j = some x ∧ g2 j = some y ∧ IsPair h' (B + j) x y) → (∀ c o, c ≠ z → c ≠ TO → c ≠ i1 → c ≠ i2 → c ≠ S → h0.get? c = some o → h'.get? c = some o) → R (.ok (.ret res)) { s with heap := h' }) →
    codeAny (model prog w) A (.builtin "list.extend.loop" ⟨[.ref S, .ref z, res], []⟩) R s := by
  have hA : A.in1.handled = none := hh
  intro k
  induction k with
  | zero =>
    intro i s hk hi st hR
    have hin : i = n := by omega
    subst hin
    refine codeAny_builtin F.entry_extend_loop ?_
    rw [Around.under_plainId F.plain_extend_loop _]
    show wpAny _ A.in1 (pyNext (.ref z) >>= _) _ _ s
    obtain ⟨c, hS⟩ := st.ls
    obtain ⟨a, b, to⟩ := st.to
    have fin : ∀ h', (∀ c o, c ≠ z → c ≠ TO → c ≠ i1 → c ≠ i2 → s.heap.get? c = some o → h'.get? c = some o) → R (.ok (.ret res)) { s with heap := h' } := fun h' hk => hR h' ⟨c, hk S _ Y.nz Y.nto Y.n1 Y.n2 hS⟩ (fun j hj => by
      obtain ⟨x, y, e1, e2, e3⟩ := st.tup j hj
      exact ⟨x, y, e1, e2, hk _ _ (nbB Y.zB) (nbB Y.toB) (nbB Y.i1B) (nbB Y.i2B) e3⟩) fun b o c1 c2 c3 c4 c5 e => hk b o c1 c2 c3 c4 (st.keep b o c1 c2 c3 c4 c5 e)
    rcases st.zip with hz | ⟨T, f, oT, bT, hz, hT⟩
    · exact wpAny_bind (py_done (A := A.in1) W1 W2 hA D hz st.ti to st.p1 st.p2 he fun h' hk => wpAny_pure (fin h' hk))
    · exact wpAny_bind (py_doneH (A := A.in1) W1 W2 hA D hz hT st.ti st.p1 st.p2 he fun h' hk => wpAny_pure (fin h' fun b o c1 _ c3 c4 e => hk b o c1 c3 c4 e))
  | succ k ih =>
    intro i s hk hi st hR
    have hlt : i < n := by omega
    refine codeAny_builtin F.entry_extend_loop ?_
    rw [Around.under_plainId F.plain_extend_loop _]
    show wpAny _ A.in1 (pyNext (.ref z) >>= _) _ _ s
    obtain ⟨c, hS⟩ := st.ls
    obtain ⟨a, b, to⟩ := st.to
    obtain ⟨x, y, ex, ey⟩ := hg i hlt
    have step : ∀ h' : Heap, (IsZip h' z TI TO .none ∨ ∃ T f oT, B ≤ T ∧ IsZipHeld h' z TI TO T f ∧ h'.get? T = some oT) → IsPair h' TI (.ref i1) (.ref i2) → (∃ a b, IsPair h' TO a b) → P1 (i + 1) h' → P2 (i + 1) h' → IsPair h' s.heap.objs.size x y → h'.objs.size = s.heap.objs.size + 1 →
        (∀ c o, c ≠ z → c ≠ TO → c ≠ i1 → c ≠ i2 → s.heap.get? c = some o → h'.get? c = some o) →
        wpAny (model prog w) A.in1 (updateSeq S (·.push (.ref s.heap.objs.size)) >>= fun _ => again (.builtin "list.extend.loop" ⟨[.ref S, .ref z, res], []⟩)) (fun fin s' => match fin with | .done f => R (.ok f) s' | .again c' => c'.quiet = true ∧ codeAny (model prog w) A c' R s') (fun e s' => R (.error e) s') { s with heap := h' } := by
      intro h' hzip ti to' q1 q2 hp sz hk'
      have hS' : h'.get? S = _ := hk' S _ Y.nz Y.nto Y.n1 Y.n2 hS
      refine wpAny_bind (wpAny_updateSeq hS' rfl (wpAny_pure ⟨plainId_quiet F.plain_extend_loop _, ih (i + 1) _ (by omega) hlt ?_ fun h'' a1 a2 a3 => hR h'' a1 a2 a3⟩) (by rw [outs_size]; omega) (by show ((outs B i).push _).size ≤ sizeLine + 1; rw [Array.size_push, outs_size]; omega))
      have hS'' := Heap.get?_update_self (Obj.mapSeq (·.push (Value.ref s.heap.objs.size))) hS' rfl
      have e3 : (outs B i).push (.ref s.heap.objs.size) = outs B (i + 1) := by rw [st.size]; exact outs_push B i
      refine ZSt.up (c := _) W1 W2 Y hzip ti to' q1 q2 (fun j hj => ?_) (by rw [sz, st.size]; omega) (fun b o c1 c2 c3 c4 c5 e => hk' b o c1 c2 c3 c4 (st.keep b o c1 c2 c3 c4 c5 e)) (hS''.trans (by rw [← e3]; rfl)) (Heap.size_update ..) (fun b o hb e => (Heap.get?_update_other _ _ (Ne.symm hb)).trans e)
      rcases Nat.lt_or_ge j i with hj' | hj'
      · obtain ⟨x', y', e1, e2, e3⟩ := st.tup j hj'
        exact ⟨x', y', e1, e2, hk' _ _ (nbB Y.zB) (nbB Y.toB) (nbB Y.i1B) (nbB Y.i2B) e3⟩
      · have : j = i := by omega
        subst this
        rw [st.size] at hp
        exact ⟨x, y, ex, ey, hp⟩
    rcases st.zip with hz | ⟨T, f, oT, bT, hz, hT⟩
    · refine wpAny_bind (py_item (A := A.in1) W1 W2 D hz st.ti to st.p1 st.p2 ex ey fun h' z' to' q1 q2 hp sz hk' => ?_)
      exact step h' (.inr ⟨_, false, _, (by rw [st.size]; exact Nat.le_add_right _ _), z', hp⟩) (hk' _ _ D.TIz D.TITO D.TIi1 D.TIi2 st.ti) ⟨_, _, to'⟩ q1 q2 hp sz hk'
    · refine wpAny_bind (py_itemH (A := A.in1) W1 W2 D hz hT st.ti st.p1 st.p2 ex ey fun h' z' q1 q2 hp sz hk' => ?_)
      exact step h' (.inr ⟨T, true, oT, bT, z', hk' _ _ (nbT Y.zB bT) (nbT Y.i1B bT) (nbT Y.i2B bT) hT⟩) (hk' _ _ D.TIz D.TIi1 D.TIi2 st.ti) ⟨_, _, hk' _ _ D.TOz D.TOi1 D.TOi2 to⟩ q1 q2 hp sz fun b o c1 _ c3 c4 e => hk' b o c1 c3 c4 e
end
end FZ

/-! FZ10: list(z) of a fresh zip z. -/
namespace FZ
open PySem RZ
section
variable {prog : Program} {w : World} {A : Around} {E : Value → Shared → Prop} {s : Shared} {P1 P2 : Nat → Heap → Prop} {g1 g2 : Nat → Option Value} {z TI TO i1 i2 l1 l2 : Addr} {n : Nat} {a b : Value}
theorem call_listZ (W1 : Wkr prog w P1 i1 l1 g1) (W2 : Wkr prog w P2 i2 l2 g2) (hh : A.handled = none) (D : ZipApart z TI TO i1 i2 l1 l2) (hz : IsZip s.heap z TI TO .none) (hTI : IsPair s.heap TI (.ref i1) (.ref i2)) (hTO : IsPair s.heap TO a b) (h1 : P1 0 s.heap) (h2 : P2 0 s.heap)
    (b1 : i1 < s.heap.objs.size) (b2 : i2 < s.heap.objs.size) (c1 : l1 < s.heap.objs.size) (c2 : l2 < s.heap.objs.size) (hn : n ≤ sizeLine) (hg : ∀ i, i < n → ∃ x y, g1 i = some x ∧ g2 i = some y) (he : g1 n = none ∨ g2 n = none) {Q : Value → Shared → Prop}
    (hQ : ∀ h', (∃ c, h'.get? s.heap.objs.size = some { cls := .type "list", dict := none, data := .seq (outs (s.heap.objs.size + 1) n) c, slots := #[] }) → (∀ j, j < n → ∃ x y, g1 j = some x ∧ g2 j = some y ∧ IsPair h' (s.heap.objs.size + 1 + j) x y) → (∀ c o, c ≠ z → c ≠ TO → c ≠ i1 → c ≠ i2 → s.heap.get? c = some o → h'.get? c = some o) → Q (.ref s.heap.objs.size) { s with heap := h' }) :
    wpAny (model prog w) A (call (.type "list") [.ref z]) Q E s := by
  have lz : z < s.heap.objs.size := Heap.lt_size hz
  have Y : Sap z TI TO i1 i2 l1 l2 s.heap.objs.size (s.heap.objs.size + 1) := ⟨Nat.ne_of_gt lz, Nat.ne_of_gt (Heap.lt_size hTI), Nat.ne_of_gt (Heap.lt_size hTO), Nat.ne_of_gt b1, Nat.ne_of_gt b2, Nat.ne_of_gt c1, Nat.ne_of_gt c2, Nat.lt_succ_of_lt lz, Nat.lt_succ_of_lt (Heap.lt_size hTI), Nat.lt_succ_of_lt (Heap.lt_size hTO), Nat.lt_succ_of_lt b1, Nat.lt_succ_of_lt b2, Nat.lt_succ_self _⟩
  refine callType_codes (Q₁ := fun obj s₁ => obj = .ref s.heap.objs.size ∧ s₁ = { s with heap := s.heap.push { cls := .type "list", data := .seq #[] } }) PySem.F.called_list (PySem.F.typeCall_list_1 _) PySem.F.entry_list_init
    (code_list_new _ ⟨rfl, rfl⟩) fun obj s₁ h₁ => ?_
  obtain ⟨rfl, rfl⟩ := h₁
  have hS : (s.heap.push { cls := .type "list", data := .seq #[] }).get? s.heap.objs.size = some { cls := .type "list", data := .seq #[] } := Heap.get?_push_size _ rfl
  refine ⟨⟨_, hS, rfl⟩, PySem.F.args_list_init_2 _ _, ?_⟩
  show wpAny _ A.in1.in1 (do let old ← Builtin.List.listItems (.ref s.heap.objs.size); Builtin.List.listUpdate (.ref s.heap.objs.size) (fun _ => #[]); letGo old.toList.reverse; Builtin.List.listExtendWith (.ref s.heap.objs.size) (.ref z) .none) _ _ _
  refine wpAny_bind ?_
  unfold Builtin.List.listItems
  refine wpAny_bind (wpAny_seqItems hS rfl (wpAny_pure ?_))
  show wpAny _ A.in1.in1 (updateSeq s.heap.objs.size (fun _ => #[]) >>= fun _ => letGo (#[] : Array Value).toList.reverse >>= fun _ => Builtin.List.listExtendWith (.ref s.heap.objs.size) (.ref z) .none) _ _ _
  refine wpAny_bind (wpAny_updateSeq hS rfl ?_)
  have hS2 := Heap.get?_update_self (Obj.mapSeq (fun _ => (#[] : Array Value))) hS rfl
  refine wpAny_bind (wpAny_letGo ?_)
  unfold Builtin.List.listExtendWith
  have up : ∀ (h : Heap) (f : Obj → Obj), (∀ b o, s.heap.get? b = some o → h.get? b = some o) → ∀ b o, s.heap.get? b = some o → (h.update s.heap.objs.size f).get? b = some o := fun h f q b o e =>
    (Heap.get?_update_other _ _ (Ne.symm (Nat.ne_of_lt (Heap.lt_size e)))).trans (q b o e)
  have k1 : ∀ b o, s.heap.get? b = some o → (s.heap.push { cls := .type "list", data := .seq #[] }).get? b = some o := fun b o e => Heap.get?_push_of_some _ e
  have k2 := up _ (Obj.mapSeq (fun _ => (#[] : Array Value))) k1
  have zty : ∀ {h : Heap}, (∀ b o, s.heap.get? b = some o → h.get? b = some o) → ({ s with heap := h } : Shared).TypeIs (.ref z) "zip" := fun {h} q => ⟨_, q _ _ hz, rfl⟩
  refine wpAny_bind (wpAny_typeOf (zty k2) ?_)
  have q1 : Builtin.List.listSameRef (.ref s.heap.objs.size) (.ref z) = false := by simp [Builtin.List.listSameRef, Y.nz]
  have q2 : (Value.type "zip" == Value.type "list") = false := by decide
  have q3 : (Value.type "zip" == Value.type "tuple") = false := by decide
  simp only [q1, q2, q3, Bool.or_false, Bool.false_eq_true, if_false]
  refine wpAny_bind (wpAny_pyIter_zip (s := { s with heap := _ }) (k2 _ _ hz) ?_)
  refine wpAny_bind (wpAny_holding ?_)
  unfold Builtin.List.listLengthHint
  refine wpAny_bind (wpAny_specialOf (zty k2) zip_no_len ?_)
  show wpAny _ A.in1.in1 (specialOf (Value.ref z) (Str.ofString "__length_hint__") >>= _) _ _ _
  refine wpAny_bind (wpAny_specialOf (zty k2) zip_no_hint ?_)
  refine wpAny_pure ?_
  show wpAny _ A.in1.in1 (rule "list.extend.makes-room" >>= fun _ => Builtin.List.listTouch (.ref s.heap.objs.size) >>= fun _ =>
    again (.builtin "list.extend.loop" ⟨[.ref s.heap.objs.size, .ref z, .none], []⟩)) _ _ _
  refine wpAny_bind (wpAny_rule ?_)
  refine wpAny_bind ?_
  show wpAny _ A.in1.in1 (updateSeq s.heap.objs.size (·.push .none) >>= fun _ => updateSeq s.heap.objs.size (·.pop)) _ _ _
  refine wpAny_bind (wpAny_updateSeq hS2 rfl ?_)
  have hS3 := Heap.get?_update_self (Obj.mapSeq (·.push Value.none)) hS2 rfl
  refine wpAny_updateSeq (hz := by seq_fits) hS3 rfl ?_
  have hS4 := Heap.get?_update_self (Obj.mapSeq (·.pop)) hS3 rfl
  have k4 := up _ (Obj.mapSeq (·.pop)) (up _ (Obj.mapSeq (·.push Value.none)) k2)
  refine wpAny_pure ⟨plainId_quiet PySem.F.plain_extend_loop _, ?_⟩
  refine loopZ (A := A.in1) (h0 := s.heap) W1 W2 hh D Y hn hg he .none n 0 _ rfl (Nat.zero_le _) ⟨.inl (k4 _ _ hz), k4 _ _ hTI, ⟨a, b, k4 _ _ hTO⟩, W1.up h1 (fun o e => k4 _ _ e) (fun o e => k4 _ _ e), W2.up h2 (fun o e => k4 _ _ e) (fun o e => k4 _ _ e), ⟨_, hS4⟩, fun j hj => absurd hj (Nat.not_lt_zero _), ?_, fun c o _ _ _ _ _ e => k4 _ _ e⟩ fun h' a1 a2 a3 => ?_
  · show ((((s.heap.push _).update _ _).update _ _).update _ _).objs.size = _
    rw [Heap.size_update, Heap.size_update, Heap.size_update, Heap.size_push]
  · exact ⟨rfl, hQ h' a1 a2 fun c o d1 d2 d3 d4 e => a3 c o d1 d2 d3 d4 (Nat.ne_of_lt (Heap.lt_size e)) e⟩
end
end FZ

/-! FZ11: list(zip(a, b)) as an expression. -/
namespace FZ
open PySem RZ L2 PyProof.Rows FL
theorem turnedAll {X : Cx} {pins : List (Addr × Obj)} {σ : L2.St} {H H' : Hp} {s : Shared} {h' : Heap} {ch : List Addr} (I : Inv X pins σ H s) (k : ∀ b o, b ∉ ch → s.heap.get? b = some o → h'.get? b = some o) (hf : ∀ b ∈ ch, FpOk X pins H b)
    (ex : ∀ b, b < s.heap.objs.size → H' b = H b) (new : ∀ b u, s.heap.objs.size ≤ b → H' b = some u → ObjOk X.prog X.w H' h' b u) : Inv X pins σ H' { s with heap := h' } := by
  have nit : ∀ b u, H b = some u → b ∉ ch := fun b u e z => by
    have q := (hf b z).1
    rw [q] at e; cases e
  have old : ∀ b u, H b = some u → H' b = some u := fun b u e => (ex b (I.hok b u e).lt).trans e
  refine I.step (g' := s.gens) (t' := s.toks) (d' := s.drawn) (ch := ch) (fun b hb => ⟨(hf b hb).2.2.2.1, (hf b hb).2.1, (hf b hb).2.2.2.2.1, (hf b hb).2.2.2.2.2⟩) (fun b o _ _ hc e _ => k b o hc e) (fun b o _ _ hc e _ => ⟨o.slots, k b o hc e⟩)
    (fun b o _ e n => (ex b (Heap.lt_size e)).trans n) (fun b o hc e => ⟨o, k b o hc e⟩) (fun b xs e => old _ _ e) (fun b o u e => old _ _ e) (fun b ps e => ⟨#[], ?_⟩) (fun m hm => ?_) (fun b u e => ?_) I.bare
  · rw [old _ _ e]; simp
  · obtain ⟨o, es, ep, ho, r⟩ := hm
    exact ⟨o, es, ep, k _ o (fun z => (hf _ z).2.1 rfl) ho, r⟩
  · rcases Nat.lt_or_ge b s.heap.objs.size with hb | hb
    · rw [ex b hb] at e
      refine (I.hok b u e).stay (fun c v hc q => k c v ?_ q) (fun c q => old _ _ q) fun c xs q => old _ _ q
      rcases hc with z | z
      · rw [z]; exact nit b u e
      · exact nit c _ z
    · exact new b u hb e
/-- tuples laid from B on -/
def tpH (H : Hp) (B : Addr) (ps : List (V × V)) : Hp := fun b => if b < B then H b else match ps[b - B]? with | some p => some (.tup [p.1, p.2]) | none => H b
theorem tpH_lt {H : Hp} {B b : Addr} {ps : List (V × V)} (h : b < B) : tpH H B ps b = H b := if_pos h
theorem tpH_at {H : Hp} {B : Addr} {ps : List (V × V)} {j : Nat} {p : V × V} (h : ps[j]? = some p) : tpH H B ps (B + j) = some (.tup [p.1, p.2]) := by
  unfold tpH
  rw [if_neg (Nat.not_lt.mpr (Nat.le_add_right _ _)), show (B + j - B : Nat) = j from Nat.add_sub_cancel_left B j, h]
theorem tpH_off {H : Hp} {B b : Addr} {ps : List (V × V)} (h : H b = none) {u : HO} (e : tpH H B ps b = some u) : ∃ j p, ps[j]? = some p ∧ b = B + j ∧ u = .tup [p.1, p.2] := by
  unfold tpH at e
  by_cases hb : b < B
  · rw [if_pos hb, h] at e; cases e
  · rw [if_neg hb] at e
    cases hq : ps[b - B]? with
    | none => simp only [hq] at e; rw [h] at e; cases e
    | some p => simp only [hq] at e; cases e; exact ⟨_, p, hq, (Nat.add_sub_cancel' (Nat.le_of_not_lt hb)).symm, rfl⟩
def outV (B : Addr) (n : Nat) : List V := (List.range n).map fun j => V.ref (B + j)
def lzH (H : Hp) (S : Addr) (ps : List (V × V)) : Hp := upd (tpH H (S + 1) ps) S (.lst (outV (S + 1) ps.length))
/-- the kinds: a tuple, a list -/
def ZIs : Bool → Heap → Addr → Array Value → Prop
  | true, h, a, xs => h.IsTuple a xs
  | false, h, a, xs => h.IsList a xs
def znm : Bool → String
  | true => "tuple_iterator"
  | false => "list_iterator"
def PK : Bool → Addr → Addr → Array Value → Nat → Heap → Prop
  | true => PT
  | false => PL
def SqK : Bool → PySem.W.Frag → Hp → Addr → List V → Prop
  | true => SqT
  | false => SqL
theorem wkK {prog : Program} {w : World} {it l : Addr} {items : Array Value} (k : Bool) (ne : l ≠ it) : Wkr prog w (PK k it l items) it l (fun i => items[i]?) := by
  cases k
  · exact wkL ne
  · exact wkT ne
theorem newLL (a b : Addr) (xs ys : Array Value) : Meets (Builtin.«zip.__new__» ⟨[.type "zip", .ref a, .ref b], []⟩) (fun _ R s => (s.heap.IsList a xs ∧ s.heap.IsList b ys) ∧ R (.ok (.ret (.ref (ZD "list_iterator" "list_iterator" s.heap a b).objs.size))) { s with heap := ZE "list_iterator" "list_iterator" s.heap a b }) :=
  .of_wp fun prog w A R s h => by
    obtain ⟨hp, g, d, tk, os⟩ := s; obtain ⟨⟨m1, m2⟩, h⟩ := h; have hsub := sub_zip
    have hL1 : Heap.IsList (Shared.heap ⟨hp, g, d, tk, os⟩) a xs := m1; have hL2 : Heap.IsList (Shared.heap ⟨ZA "list_iterator" hp a, g, d, tk, os⟩) b ys := Heap.IsList.at m2 fun o e => Heap.get?_push_of_some _ e
    wp_walk using wpAny_pyIter_list hL1, wpAny_pyIter_list hL2; exact ⟨_, rfl, h⟩
theorem newTT (a b : Addr) (xs ys : Array Value) : Meets (Builtin.«zip.__new__» ⟨[.type "zip", .ref a, .ref b], []⟩) (fun _ R s => (s.heap.IsTuple a xs ∧ s.heap.IsTuple b ys) ∧ R (.ok (.ret (.ref (ZD "tuple_iterator" "tuple_iterator" s.heap a b).objs.size))) { s with heap := ZE "tuple_iterator" "tuple_iterator" s.heap a b }) :=
  .of_wp fun prog w A R s h => by
    obtain ⟨hp, g, d, tk, os⟩ := s; obtain ⟨⟨m1, m2⟩, h⟩ := h; have hsub := sub_zip
    have hL1 : Heap.IsTuple (Shared.heap ⟨hp, g, d, tk, os⟩) a xs := m1; have hL2 : Heap.IsTuple (Shared.heap ⟨ZA "tuple_iterator" hp a, g, d, tk, os⟩) b ys := Heap.IsTuple.at m2 fun o e => Heap.get?_push_of_some _ e
    wp_walk using wpAny_pyIter_tuple hL1, wpAny_pyIter_tuple hL2; exact ⟨_, rfl, h⟩
theorem newKK (k1 k2 : Bool) (a b : Addr) (xs ys : Array Value) : Meets (Builtin.«zip.__new__» ⟨[.type "zip", .ref a, .ref b], []⟩) (fun _ R s => (ZIs k1 s.heap a xs ∧ ZIs k2 s.heap b ys) ∧ R (.ok (.ret (.ref (ZD (znm k1) (znm k2) s.heap a b).objs.size))) { s with heap := ZE (znm k1) (znm k2) s.heap a b }) := by
  cases k1 <;> cases k2
  · exact newLL a b xs ys
  · exact newLT a b xs ys
  · exact newTL a b xs ys
  · exact newTT a b xs ys
theorem pk0 {k : Bool} {it l : Addr} {items : Array Value} {h : Heap} (e : h.get? it = some { cls := .type (znm k), data := .fields #[.ref l, .int 0 0] }) (q : ZIs k h l items) : PK k it l items 0 h := by
  cases k
  · exact ⟨⟨_, e, rfl, rfl⟩, q⟩
  · exact ⟨⟨_, e, rfl, rfl⟩, q⟩
theorem zis_up {k : Bool} {l : Addr} {items : Array Value} {h h' : Heap} (q : ZIs k h l items) (e : ∀ o, h.get? l = some o → h'.get? l = some o) : ZIs k h' l items := by
  cases k
  · exact Heap.IsList.at q e
  · exact Heap.IsTuple.at q e
theorem inv_sq {X : Cx} {pins : List (Addr × Obj)} {σ : L2.St} {H : Hp} {s : Shared} {k : Bool} {a : Addr} {xs : List V} (I : Inv X pins σ H s) (q : SqK k X.K H a xs) : ∃ its : List Value, Vals xs its ∧ ZIs k s.heap a its.toArray ∧ a < s.heap.objs.size ∧ xs.length ≤ sizeLine := by
  cases k
  · obtain ⟨its, rv, p, z⟩ := I.list q
    exact ⟨its, rv, p.isList, p.lt, z⟩
  · obtain ⟨its, rv, p, z⟩ := I.tuple q
    obtain ⟨o, ho, _⟩ := id p
    exact ⟨its, rv, p, Heap.lt_size ho, z⟩
def tLZ (K : PySem.W.Frag) (k1 k2 : Bool) (ta : TA) : TE := fun σ H Q => ta σ H fun vs H1 => ∃ a b xs ys, vs = [.ref a, .ref b] ∧ SqK k1 K H1 a xs ∧ SqK k2 K H1 b ys ∧ ∀ S, (∀ b, S ≤ b → H1 b = none) → Q (.ref S) (lzH H1 S (xs.zip ys))
theorem vals_out (B : Addr) (n : Nat) : Vals (outV B n) (outs B n).toList := by
  have h : ∀ l : List Nat, Vals (l.map fun j => V.ref (B + j)) (l.map fun j => Value.ref (B + j)) := fun l => by
    induction l with
    | nil => exact .nil
    | cons i l ih => exact .cons rfl ih
  exact h _
theorem pe_listZ {X : Cx} {e e2 : Expr} {ta : TA} {p p2 pos pos2 : Pos} (k1 k2 : Bool) (hc : X.calm = true) (hg : Gl X "zip") (hm : X.mg "zip" = none) (hgl : Gl X "list") (hml : X.mg "list" = none) (ha : PA X [e, e2] ta) (hs : starEach [e, e2] X.env = (false, eval e X.env) :: starEach [e2] X.env) (hpl : (backTo pos2 (starEach [e2] X.env)).any (·.1) = false)
    (he : starEach [.Call (.Name "zip" p2) [e, e2] [] pos2] X.env = (false, eval (.Call (.Name "zip" p2) [e, e2] [] pos2) X.env) :: starEach [] X.env) :
    PE X (.Call (.Name "list" p) [.Call (.Name "zip" p2) [e, e2] [] pos2] [] pos) (tLZ X.K k1 k2 ta) := by
  refine ⟨fun pins s σ H Q I h => Call_ (ld_blt I hgl hml (u := .type "list") (by decide +kernel) (PyProof.Rows.callWith_type1 ?_ he rfl))⟩
  rw [he]
  show wpAny _ _ (spliced ((false, eval _ X.env) :: backTo pos (starEach [] X.env))) _ _ s
  refine Calls.spliced_cons (wpAny_mono (Q := fun v s' => wpAny _ _ (call (.type "list") [v]) (EP X pins σ Q) X.xe s') (Call_ (ld_blt I hg hm PyProof.Rows.boot_zip (PyProof.Rows.callWith_type1 (thn (ha.run pos2 pins s σ H _ I h) fun us s1 ⟨vs, H1, I1, r1, a, b, xs, ys, ex, hqx, hqy, q⟩ => ?_) hs hpl))) (fun v s' hv => Calls.spliced_nil hv) fun _ _ z => z)
  subst ex
  cases r1 with
  | cons r rr =>
    cases rr with
    | cons r' rr =>
      cases rr; cases r; cases r'
      obtain ⟨its, rv, p1, la, z1⟩ := inv_sq I1 hqx; obtain ⟨its2, rv2, p2', lb, z2⟩ := inv_sq I1 hqy
      refine zcall (A := znm k1) (B := znm k2) (Pre := fun h => ZIs k1 h a its.toArray ∧ ZIs k2 h b its2.toArray) (newKK k1 k2 a b its.toArray its2.toArray) ⟨p1, p2'⟩ fun h' hz hTI hTO h1 h2 hk => ?_
      have I2 : Inv X pins σ H1 { s1 with heap := h' } := I1.kept (t' := s1.toks) hk
      have D := PySem.W.ktu_apart s1.heap.objs.size a b la lb
      have le : ∀ {c : Addr} {o : Obj}, s1.heap.get? c = some o → c < h'.objs.size := fun e => Heap.lt_size (hk _ _ e)
      have m1 := rv.length; have m2 := rv2.length
      have la' : a < h'.objs.size := by cases k1 <;> (obtain ⟨o, ho, _⟩ := id p1; exact le ho)
      have lb' : b < h'.objs.size := by cases k2 <;> (obtain ⟨o, ho, _⟩ := id p2'; exact le ho)
      have ln : (xs.zip ys).length = min xs.length ys.length := List.length_zip
      refine call_listZ (n := (xs.zip ys).length) (wkK (items := its.toArray) k1 D.l1i1) (wkK (items := its2.toArray) k2 D.l2i2) (I2.ok.hd hc) D hz hTI hTO (pk0 h1 (zis_up p1 fun o e => hk _ _ e)) (pk0 h2 (zis_up p2' fun o e => hk _ _ e)) (Heap.lt_size h1) (Heap.lt_size h2) la' lb' (by rw [ln]; exact Nat.le_trans (Nat.min_le_left _ _) z1) (fun i hi => ?_) ?_ fun h'' hl ht hkk => ?_
      · rw [ln] at hi
        exact ⟨its[i]'(by omega), its2[i]'(by omega), by simp, by simp⟩
      · rw [ln]
        rcases Nat.le_total xs.length ys.length with q' | q'
        · left; rw [Nat.min_eq_left q']; simp; omega
        · right; rw [Nat.min_eq_right q']; simp; omega
      · have fr : ∀ b, h'.objs.size ≤ b → H1 b = none := fun b hb => I2.hok.fresh hb
        have hS : tpH H1 (h'.objs.size + 1) (xs.zip ys) h'.objs.size = none := (tpH_lt (Nat.lt_succ_self _)).trans (fr _ (Nat.le_refl _))
        have fp : ∀ c ∈ [s1.heap.objs.size + 4, s1.heap.objs.size + 3, s1.heap.objs.size, s1.heap.objs.size + 1], FpOk X pins H1 c := fun c hcm => by
          have hle : s1.heap.objs.size ≤ c := (by simp at hcm; omega)
          exact I1.fpOk hle (I1.hok.fresh hle)
        refine ⟨.ref h'.objs.size, lzH H1 h'.objs.size (xs.zip ys), turnedAll I2 (ch := [s1.heap.objs.size + 4, s1.heap.objs.size + 3, s1.heap.objs.size, s1.heap.objs.size + 1]) (fun c o hb q => hkk c o (fun q' => hb (by simp [q'])) (fun q' => hb (by simp [q'])) (fun q' => hb (by simp [q'])) (fun q' => hb (by simp [q'])) q) fp (fun c hcl => ?_) (fun c u hcl e => ?_), rfl, q _ fr⟩
        · show upd _ _ _ _ = _
          rw [upd_ne (Nat.ne_of_lt hcl)]
          exact tpH_lt (Nat.lt_succ_of_lt hcl)
        · have e : upd _ _ _ c = some u := e
          by_cases hcS : c = h'.objs.size
          · subst hcS
            rw [upd_same] at e
            cases e
            obtain ⟨cc, hcc⟩ := hl
            exact ⟨by simp only [outV, List.length_map, List.length_range]; rw [ln]; exact Nat.le_trans (Nat.min_le_left _ _) z1, (outs (h'.objs.size + 1) (xs.zip ys).length).toList, cc, vals_out _ _, by rw [Array.toArray_toList]; exact hcc⟩
          · rw [upd_ne hcS] at e
            obtain ⟨j, pr, hj, rfl, rfl⟩ := tpH_off (fr _ hcl) e
            have hjl : j < (xs.zip ys).length := (List.getElem?_eq_some_iff.mp hj).1
            obtain ⟨x, y, ex, ey, hp⟩ := ht j hjl
            obtain ⟨g1, g2⟩ := List.getElem?_zip_eq_some.mp hj
            obtain ⟨u1, hu1, ru1⟩ := rv.get g1
            obtain ⟨u2, hu2, ru2⟩ := rv2.get g2
            have ex : its.toArray[j]? = some x := ex
            have ey : its2.toArray[j]? = some y := ey
            rw [List.getElem?_toArray, hu1] at ex
            rw [List.getElem?_toArray, hu2] at ey
            cases ex; cases ey
            exact ⟨(show 2 ≤ sizeLine by decide), [x, y], .cons ru1 (.cons ru2 .nil), ⟨_, hp, rfl, _, rfl⟩⟩
end FZ

/-! FZ12: list(zip(a, b)), typed: a, b lists or tuples. -/
namespace FZ
open PySem RZ L2 PyProof.Rows FL
theorem wdZ {F H : Hp} {B : Addr} {ps : List (V × V)} (s : Same F H) (fr : ∀ b, B ≤ b → H b = none) : Wd F H (tpH F B ps) (tpH H B ps) := by
  have up : ∀ (G : Hp), (∀ b, B ≤ b → G b = none) → Same G (tpH G B ps) := fun G g b u e => by
    rcases Nat.lt_or_ge b B with hb | hb
    · rw [tpH_lt hb]; exact e
    · rw [g b hb] at e; cases e
  have fF : ∀ b, B ≤ b → F b = none := fun b hb => s.free (fr b hb)
  refine ⟨up F fF, up H fr, fun b u e => ?_, fun b h e => ?_⟩
  · rcases Nat.lt_or_ge b B with hb | hb
    · rw [tpH_lt hb] at e ⊢; exact s b u e
    · obtain ⟨j, p, hp, rfl, rfl⟩ := tpH_off (fF b hb) e
      exact tpH_at hp
  · rcases Nat.lt_or_ge b B with hb | hb
    · rw [tpH_lt hb] at h; exact absurd e h
    · exact fr b hb
/-- a sequence of the kind k that stands for a list -/
class Sqk (k : outParam Bool) (τ : Type) (α : outParam Type) [Rp α] [Rp τ] where
  l : τ → List α
  of : ∀ {K F v t}, Rp.is K F v t → ∃ a xs, v = .ref a ∧ SqK k K F a xs ∧ (l t).length ≤ sizeLine ∧ Al K F xs (l t)
instance {α : Type} [Rp α] : Sqk false (List α) α := ⟨fun l => l, fun r => r⟩
instance {α : Type} [Rp α] : Sqk true (Tu α) α := ⟨fun l => l.l, fun r => r⟩
theorem sqk_same {k : Bool} {K : PySem.W.Frag} {H H' : Hp} {a : Addr} {xs : List V} (s : Same H H') (h : SqK k K H a xs) : SqK k K H' a xs := by
  cases k
  · exact Same.seq s h
  · exact Same.seqT s h
theorem adr1 (B j : Nat) : B + (j + 1) = B + 1 + j := by omega
theorem al_outZ {α β : Type} [Rp α] [Rp β] {K : PySem.W.Frag} {F0 G : Hp} : ∀ {B : Addr} {xs ys : List V} {l : List α} {m : List β}, Al K F0 xs l → Al K F0 ys m → Same F0 G → (∀ j p, (xs.zip ys)[j]? = some p → G (B + j) = some (.tup [p.1, p.2])) → Al K G (outV B (xs.zip ys).length) (l.zip m)
  | B, [], _, _, _, .nil, _, _, _ => by simp [outV]; exact .nil
  | B, _ :: _, [], _, _, .cons _ _, .nil, _, _ => by simp [outV]; exact .nil
  | B, x :: xs, y :: ys, _, _, .cons (a := a) r1 h1, .cons (a := b) r2 h2, s, g => by
    have e : outV B ((x :: xs).zip (y :: ys)).length = .ref B :: outV (B + 1) (xs.zip ys).length := by
      simp [outV, List.range_succ_eq_map, Function.comp_def]
      intro j _
      exact adr1 B j
    rw [e]
    refine .cons ⟨B, x, y, rfl, SqT.of (g 0 (x, y) rfl), Rp.mono s r1, Rp.mono s r2⟩ (al_outZ h1 h2 s fun j p hp => ?_)
    have q := g (j + 1) p hp
    rwa [show B + (j + 1) = B + 1 + j from adr1 B j] at q
section
variable {X : Cx} {c : C0} {γ α β τ τ' : Type} {G : EnvT γ} [Rp α] [Rp β] [Rp τ] [Rp τ'] {k1 k2 : Bool} [S1 : Sqk k1 τ α] [S2 : Sqk k2 τ' β] {a b : Expr} {pos pos2 p p2 : Pos}
theorem fo_listzip {f1 : γ → Xc τ} {f2 : γ → Xc τ'} (hc : X.calm = true) (h1 : FE X c G a f1) (h2 : FE X c G b f2) (hm : X.mg "zip" = none) (hml : X.mg "list" = none) (hg : Gl X "zip" := by rfl) (hgl : Gl X "list" := by rfl)
    (hs : starEach [a, b] X.env = (false, eval a X.env) :: starEach [b] X.env := by rfl) (hs2 : starEach [b] X.env = (false, eval b X.env) :: starEach [] X.env := by rfl) (hpl : (backTo pos2 (starEach [b] X.env)).any (·.1) = false := by rfl)
    (he : starEach [.Call (.Name "zip" p2) [a, b] [] pos2] X.env = (false, eval (.Call (.Name "zip" p2) [a, b] [] pos2) X.env) :: starEach [] X.env := by rfl) :
    FO X c G (.Call (.Name "list" p) [.Call (.Name "zip" p2) [a, b] [] pos2] [] pos) (fun g => (f1 g).bind fun l => (f2 g).bind fun m => Xc.ok ((S1.l l).zip (S2.l m))) :=
  PE.imp (pe_listZ k1 k2 hc hg hm hgl hml (pa_cons h1 (pa_cons h2 pa_nil hs2) hs) hs hpl he) fun σ H R ⟨F, g, w, q, p⟩ => by
    refine ⟨F, g, w, q, ?_⟩
    cases e1 : f1 g with
    | ok l =>
      intro v F1 H1 w1 r1
      obtain ⟨a1, xs, rfl, hx, hz, rx⟩ := S1.of r1
      simp only [e1] at p
      have p : PoO X.K F H R (WE c.W σ) ((f2 g).bind fun m => Xc.ok ((S1.l l).zip (S2.l m))) := p
      refine ⟨F1, g, w.trans w1, G.mono q w1, ?_⟩
      cases e2 : f2 g with
      | ok m =>
        intro u F2 H2 w2 r2
        obtain ⟨a2, ys, rfl, hy, hz2, ry⟩ := S2.of r2
        simp only [e2] at p
        have p : PoO X.K F H R (WE c.W σ) (.ok ((S1.l l).zip (S2.l m))) := p
        have rx2 := rx.mono w2.f
        have lz : ((S1.l l).zip (S2.l m)).length = min (S1.l l).length (S2.l m).length := List.length_zip
        refine ⟨a1, a2, xs, ys, rfl, sqk_same w2.s (sqk_same w2.f hx), sqk_same w2.s hy, fun S fr => ?_⟩
        have fr' : ∀ b, S + 1 ≤ b → H2 b = none := fun b hb => fr b (Nat.le_of_succ_le hb)
        have w3 : Wd F2 H2 (tpH F2 (S + 1) (xs.zip ys)) (tpH H2 (S + 1) (xs.zip ys)) := wdZ w2.s fr'
        have hS : H2 S = none := fr S (Nat.le_refl _)
        have hS' : tpH H2 (S + 1) (xs.zip ys) S = none := (tpH_lt (Nat.lt_succ_self _)).trans hS
        have w12 := w1.trans w2
        have w13 := w12.trans w3
        exact p S _ _ _ (w13.trans (Wd.newO w3.s hS')) (w12.h.free hS) ((tpH_lt (Nat.lt_succ_self _)).trans (w2.s.free hS)) upd_same (by rw [lz]; exact Nat.le_trans (Nat.min_le_left _ _) hz)
          (al_outZ rx2 ry w3.f fun j p hp => tpH_at hp)
      | er c' fs => simp only [e2] at p; exact ErP.on (show ErP X.K F H (WE c.W σ) c' fs from p) w1
      | no => simp only [e2] at p; exact p
    | er c' fs => simp only [e1] at p; exact p
    | no => simp only [e1] at p; exact p
end
end FZ

/-! PL1: plain laws of the mirrors' words. -/
namespace FL
open PySem L2
theorem size_ge : 1000000 ≤ sizeLine := by rw [sizeLine_eq]; decide
theorem mulX_r {i j : Int} (h : j.natAbs < 2 ^ 64) : mulX i j = .ok (i * j) := by unfold mulX; rw [if_pos (.inr (.inl h))]
theorem mulX_l {i j : Int} (h : i.natAbs < 2 ^ 64) : mulX i j = .ok (i * j) := by unfold mulX; rw [if_pos (.inl h)]
theorem log2_of {n b : Nat} (h : n < 2 ^ b) (h0 : 0 < b) : n.log2 < b := by
  by_cases e : n = 0
  · subst e; simpa using h0
  · exact (Nat.log2_lt e).2 h
theorem mulX_b {i j : Int} {a b : Nat} (hi : i.natAbs < 2 ^ a) (hj : j.natAbs < 2 ^ b) (h : a + b ≤ 1000000) (ha : 0 < a := by decide) (hb : 0 < b := by decide) : mulX i j = .ok (i * j) := by
  unfold mulX
  have := log2_of hi ha
  have := log2_of hj hb
  rw [if_pos (.inr (.inr (by omega)))]
theorem fdvX_b {i j : Int} {b : Nat} (h : j ≠ 0) (hj : j.natAbs < 2 ^ b) (hb : b ≤ 9000) (h0 : 0 < b := by decide) : fdvX i j = .ok (i.fdiv j) := by
  unfold fdvX
  have := log2_of hj h0
  rw [if_pos ⟨h, by omega⟩]
theorem modX_b {i j : Int} (h : j ≠ 0) : modX i j = .ok (i.fmod j) := by unfold modX; rw [if_pos h]
theorem powX_b {i j : Int} (h : 0 ≤ j ∧ j ≤ 1000000 ∧ i.natAbs < 2 ^ 64) : powX i j = .ok (i ^ j.toNat) := by unfold powX; rw [if_pos h]
theorem rngX_b {i j : Int} (hi : 0 ≤ i) (hj : j ≤ 1000000) (hi2 : i ≤ 1000000) (hj0 : -1000000 ≤ j) : rngX i j = .ok (rangeL i j) := by
  have := size_ge
  unfold rngX
  rw [if_pos ⟨by omega, by omega, by omega, by omega, by omega⟩]
theorem appX_b {α : Type} {l : List α} {a : α} (h : l.length < 1000000) : appX l a = .ok (l ++ [a]) := by
  have := size_ge
  unfold appX
  rw [if_pos (by omega)]
theorem szX_b {α : Type} {l : List α} (h : l.length ≤ 1000000) : szX l = .ok l := by
  have := size_ge
  unfold szX
  rw [if_pos (by omega)]
theorem atI_n {α : Type} {l : List α} {i : Int} {n : Nat} {a : α} (hi : i = n) (h : l[n]? = some a) : atI l i = some a := by
  subst hi
  exact atI_nat h
theorem getX_b {α : Type} {l : List α} {i : Int} {a : α} (h0 : 0 ≤ i) (h : l[i.toNat]? = some a) : getX l i = .ok a := by
  unfold getX
  rw [atI_n (n := i.toNat) (by omega) h]
theorem getX_ex {α : Type} {l : List α} {i : Int} (h0 : 0 ≤ i) (h : i < l.length) : ∃ a, getX l i = .ok a ∧ a ∈ l ∧ l[i.toNat]? = some a := by
  have h' : i.toNat < l.length := by omega
  exact ⟨l[i.toNat], getX_b h0 (List.getElem?_eq_getElem h'), List.getElem_mem h', List.getElem?_eq_getElem h'⟩
theorem setX_b {α : Type} {l : List α} {i : Int} {a : α} (h0 : 0 ≤ i) (h : i < l.length) : setX l i a = .ok (l.set i.toNat a) := by
  unfold setX
  rw [show ixN l.length i = some i.toNat from by
    unfold ixN
    rw [if_pos h0, if_pos h]]
theorem someX_ok {α : Type} (a : α) : someX (some a) = .ok a := rfl
theorem bind_okI {α β : Type} {m : Xc α} {k : α → Xc β} {a : α} {r : Xc β} (h : m = .ok a) (h2 : k a = r) : m.bind k = r := by rw [h]; exact h2
theorem foldX_inv {γ α : Type} {f : γ → α → Xc γ} (P : γ → Prop) : ∀ {l : List α} {g : γ}, P g → (∀ g a, a ∈ l → P g → ∃ g', f g a = .ok g' ∧ P g') → ∃ g', foldX f l g = .ok g' ∧ P g'
  | [], g, h, _ => ⟨g, rfl, h⟩
  | a :: l, g, h, hs => by
    obtain ⟨g1, e1, h1⟩ := hs g a List.mem_cons_self h
    obtain ⟨g2, e2, h2⟩ := foldX_inv (f := f) P (l := l) h1 fun g a m => hs g a (List.mem_cons_of_mem _ m)
    exact ⟨g2, by show (f g a).bind _ = _; rw [e1]; exact e2, h2⟩
theorem foldX_ix {γ α : Type} {f : γ → α → Xc γ} (P : Nat → γ → Prop) {l : List α} {g : γ} (h : P 0 g) (hs : ∀ i g a, l[i]? = some a → P i g → ∃ g', f g a = .ok g' ∧ P (i + 1) g') : ∃ g', foldX f l g = .ok g' ∧ P l.length g' := by
  have go : ∀ (l' : List α) (k : Nat) (g : γ), (∀ i, l'[i]? = l[k + i]?) → P k g → ∃ g', foldX f l' g = .ok g' ∧ P (k + l'.length) g' := by
    intro l'
    induction l' with
    | nil => intro k g _ h; exact ⟨g, rfl, h⟩
    | cons a l' ih =>
      intro k g he h
      obtain ⟨g1, e1, h1⟩ := hs k g a (by have := he 0; simpa using this.symm) h
      obtain ⟨g2, e2, h2⟩ := ih (k + 1) g1 (fun i => by have := he (i + 1); simp only [List.getElem?_cons_succ] at this; rw [this]; congr 1; omega) h1
      exact ⟨g2, by show (f g a).bind _ = _; rw [e1]; exact e2, by rw [List.length_cons, show k + (l'.length + 1) = k + 1 + l'.length by omega]; exact h2⟩
  obtain ⟨g', e, h'⟩ := go l 0 g (fun i => by rw [Nat.zero_add]) h
  exact ⟨g', e, by simpa using h'⟩
/-- a loop whose turns either go on or return r -/
theorem forX_ct {γ α ρ : Type} {f : γ → α → Xc (Lp γ ρ)} (P : γ → Prop) : ∀ {l : List α} {g : γ}, P g → (∀ g a, a ∈ l → P g → ∃ g', f g a = .ok (.ct g') ∧ P g') → ∃ g', forX f l g = .ok (.inl g') ∧ P g'
  | [], g, h, _ => ⟨g, rfl, h⟩
  | a :: l, g, h, hs => by
    obtain ⟨g1, e1, h1⟩ := hs g a List.mem_cons_self h
    obtain ⟨g2, e2, h2⟩ := forX_ct (f := f) P (l := l) h1 fun g a m => hs g a (List.mem_cons_of_mem _ m)
    exact ⟨g2, by show (f g a).bind _ = _; rw [e1]; exact e2, h2⟩
theorem forX_cons {γ α ρ : Type} {f : γ → α → Xc (Lp γ ρ)} {a : α} {l : List α} {g : γ} : forX f (a :: l) g = (f g a).bind fun t => match t with
    | .ct g' => forX f l g'
    | .bk g' => .ok (.inl g')
    | .rt r => .ok (.inr r) := rfl
theorem forK_inl {γ ρ τ : Type} {g : γ} {rt : ρ → τ} {k : γ → Xc τ} : forK (.ok (.inl g)) rt k = k g := rfl
theorem forK_inr {γ ρ τ : Type} {r : ρ} {rt : ρ → τ} {k : γ → Xc τ} : forK (.ok (.inr r)) rt k = .ok (rt r) := rfl
theorem compX_map {α β : Type} {t : α → Xc Bool} {f : α → Xc β} {h : α → β} : ∀ {l : List α}, (∀ a ∈ l, t a = .ok true ∧ f a = .ok (h a)) → compX t f l = .ok (l.map h)
  | [], _ => rfl
  | a :: l, hs => by
    obtain ⟨h1, h2⟩ := hs a List.mem_cons_self
    have ih := compX_map (t := t) (f := f) (h := h) (l := l) fun a m => hs a (List.mem_cons_of_mem _ m)
    simp only [compX, h1, h2, nx, bind_ok, if_true, ih, List.map_cons]
theorem compX_fil {α : Type} {t : α → Xc Bool} {p : α → Bool} : ∀ {l : List α}, (∀ a ∈ l, t a = .ok (p a)) → compX t (fun a => Xc.ok a) l = .ok (l.filter p)
  | [], _ => rfl
  | a :: l, hs => by
    have h1 := hs a List.mem_cons_self
    have ih := compX_fil (t := t) (p := p) (l := l) fun a m => hs a (List.mem_cons_of_mem _ m)
    simp only [compX, h1, nx, bind_ok, ih, List.filter_cons]
    cases p a <;> simp [bind_ok]
theorem rangeL_mem {lo hi a : Int} (h : a ∈ rangeL lo hi) : lo ≤ a ∧ a < hi := by
  unfold rangeL at h
  obtain ⟨i, hi', rfl⟩ := List.mem_map.mp h
  have := List.mem_range.mp hi'
  omega
end FL

/-! PL2: what a mirror gives, as a wish. -/
namespace FL
open PySem L2
def Ok {α : Type} (m : Xc α) (Q : α → Prop) : Prop := ∃ a, m = .ok a ∧ Q a
theorem ok_ok {α : Type} {a : α} {Q : α → Prop} : Ok (.ok a) Q ↔ Q a := ⟨fun ⟨b, e, h⟩ => by cases e; exact h, fun h => ⟨a, rfl, h⟩⟩
theorem ok_bind {α β : Type} {m : Xc α} {k : α → Xc β} {Q : β → Prop} : Ok (m.bind k) Q ↔ Ok m fun a => Ok (k a) Q := by
  constructor
  · rintro ⟨b, e, h⟩
    obtain ⟨a, e1, e2⟩ := bind_eq_ok.mp e
    exact ⟨a, e1, b, e2, h⟩
  · rintro ⟨a, e1, b, e2, h⟩
    exact ⟨b, by rw [e1]; exact e2, h⟩
theorem Ok.imp {α : Type} {m : Xc α} {Q Q' : α → Prop} (h : Ok m Q) (i : ∀ a, Q a → Q' a) : Ok m Q' := let ⟨a, e, q⟩ := h; ⟨a, e, i a q⟩
theorem Ok.of {α : Type} {m : Xc α} {a : α} {Q : α → Prop} (h : m = .ok a) (q : Q a) : Ok m Q := ⟨a, h, q⟩
theorem ok_of {α : Type} {m : Xc α} {a : α} {Q : α → Prop} (h : m = .ok a) : Ok m Q ↔ Q a := by rw [h, ok_ok]
theorem ok_ite {α : Type} {b : Bool} {A B : Xc α} {Q : α → Prop} : Ok (if b = true then A else B) Q ↔ (b = true → Ok A Q) ∧ (b = false → Ok B Q) := by
  cases b <;> simp
theorem ok_mulr {i j : Int} {Q : Int → Prop} (h : j.natAbs < 2 ^ 64) : Ok (mulX i j) Q ↔ Q (i * j) := ok_of (mulX_r h)
theorem ok_mull {i j : Int} {Q : Int → Prop} (h : i.natAbs < 2 ^ 64) : Ok (mulX i j) Q ↔ Q (i * j) := ok_of (mulX_l h)
theorem ok_mod {i j : Int} {Q : Int → Prop} (h : j ≠ 0) : Ok (modX i j) Q ↔ Q (i.fmod j) := ok_of (modX_b h)
theorem ok_fdv {i j : Int} {Q : Int → Prop} (h : j ≠ 0) (h2 : j.natAbs < 2 ^ 64) : Ok (fdvX i j) Q ↔ Q (i.fdiv j) := ok_of (fdvX_b h h2 (by decide))
theorem ok_pow {i j : Int} {Q : Int → Prop} (h : 0 ≤ j ∧ j ≤ 1000000 ∧ i.natAbs < 2 ^ 64) : Ok (powX i j) Q ↔ Q (i ^ j.toNat) := ok_of (powX_b h)
theorem ok_rng {i j : Int} {Q : List Int → Prop} (h : 0 ≤ i ∧ j ≤ 1000000 ∧ i ≤ 1000000 ∧ -1000000 ≤ j) : Ok (rngX i j) Q ↔ Q (rangeL i j) := ok_of (rngX_b h.1 h.2.1 h.2.2.1 h.2.2.2)
theorem ok_app {α : Type} {l : List α} {a : α} {Q : List α → Prop} (h : l.length < 1000000) : Ok (appX l a) Q ↔ Q (l ++ [a]) := ok_of (appX_b h)
theorem ok_fold {γ α : Type} {f : γ → α → Xc γ} {l : List α} {g : γ} {Q : γ → Prop} (P : γ → Prop) (h : P g) (hs : ∀ g a, a ∈ l → P g → Ok (f g a) P) (hq : ∀ g, P g → Q g) : Ok (foldX f l g) Q := by
  obtain ⟨g', e, p⟩ := foldX_inv (f := f) P h hs
  exact ⟨g', e, hq g' p⟩
theorem ok_foldI {γ α : Type} {f : γ → α → Xc γ} {l : List α} {g : γ} {Q : γ → Prop} (P : Nat → γ → Prop) (h : P 0 g) (hs : ∀ i g a, l[i]? = some a → P i g → Ok (f g a) (P (i + 1))) (hq : ∀ g, P l.length g → Q g) : Ok (foldX f l g) Q := by
  obtain ⟨g', e, p⟩ := foldX_ix (f := f) P h hs
  exact ⟨g', e, hq g' p⟩
theorem len_app {α : Type} {l : List α} {a : α} : (l ++ [a]).length = l.length + 1 := by simp
end FL

/-! QG: greatest common divisors of lists, lowest terms of points. -/
namespace FL
open PySem L2
def gcdL (l : List Int) (s : Int) : Nat := l.foldl (fun g a => Nat.gcd g a.natAbs) s.natAbs
theorem gcdF_dvd : ∀ (l : List Int) (g : Nat), l.foldl (fun g a => Nat.gcd g a.natAbs) g ∣ g ∧ ∀ a ∈ l, l.foldl (fun g a => Nat.gcd g a.natAbs) g ∣ a.natAbs
  | [], g => ⟨Nat.dvd_refl _, fun a m => by cases m⟩
  | x :: l, g => by
    obtain ⟨h1, h2⟩ := gcdF_dvd l (Nat.gcd g x.natAbs)
    refine ⟨Nat.dvd_trans h1 (Nat.gcd_dvd_left _ _), fun a m => ?_⟩
    rcases List.mem_cons.mp m with e | m
    · subst e; exact Nat.dvd_trans h1 (Nat.gcd_dvd_right _ _)
    · exact h2 a m
theorem dvd_gcdF : ∀ (l : List Int) (g d : Nat), d ∣ g → (∀ a ∈ l, d ∣ a.natAbs) → d ∣ l.foldl (fun g a => Nat.gcd g a.natAbs) g
  | [], g, d, h, _ => h
  | x :: l, g, d, h, hs => dvd_gcdF l _ d (Nat.dvd_gcd h (hs x (by simp))) fun a m => hs a (by simp [m])
theorem gcdL_s (l : List Int) (s : Int) : gcdL l s ∣ s.natAbs := (gcdF_dvd l _).1
theorem gcdL_a (l : List Int) (s : Int) {a : Int} (h : a ∈ l) : gcdL l s ∣ a.natAbs := (gcdF_dvd l _).2 a h
theorem dvd_gcdL {l : List Int} {s : Int} {d : Nat} (h : d ∣ s.natAbs) (hs : ∀ a ∈ l, d ∣ a.natAbs) : d ∣ gcdL l s := dvd_gcdF l _ d h hs
theorem gcdL_nil (s : Int) : gcdL [] s = s.natAbs := rfl
theorem gcdL_eq_of {l l' : List Int} {s s' : Int} (h : ∀ d : Nat, (d ∣ s.natAbs ∧ ∀ a ∈ l, d ∣ a.natAbs) ↔ (d ∣ s'.natAbs ∧ ∀ a ∈ l', d ∣ a.natAbs)) : gcdL l s = gcdL l' s' := by
  apply Nat.dvd_antisymm
  · have := (h (gcdL l s)).mp ⟨gcdL_s _ _, fun a m => gcdL_a _ _ m⟩
    exact dvd_gcdL this.1 this.2
  · have := (h (gcdL l' s')).mpr ⟨gcdL_s _ _, fun a m => gcdL_a _ _ m⟩
    exact dvd_gcdL this.1 this.2
theorem gcdF_mul (c : Int) : ∀ (l : List Int) (g : Nat), (l.map (c * ·)).foldl (fun g a => Nat.gcd g a.natAbs) (c.natAbs * g) = c.natAbs * l.foldl (fun g a => Nat.gcd g a.natAbs) g
  | [], g => rfl
  | x :: l, g => by
    simp only [List.map_cons, List.foldl_cons]
    rw [Int.natAbs_mul, Nat.gcd_mul_left]
    exact gcdF_mul c l _
theorem gcdL_mul (c : Int) (l : List Int) (s : Int) : gcdL (l.map (c * ·)) (c * s) = c.natAbs * gcdL l s := by
  unfold gcdL
  rw [Int.natAbs_mul]
  exact gcdF_mul c l _
theorem gcdL_le {l : List Int} {s : Int} (h : s ≠ 0) : gcdL l s ≤ s.natAbs ∧ 0 < gcdL l s := by
  have h1 : 0 < s.natAbs := by omega
  exact ⟨Nat.le_of_dvd h1 (gcdL_s l s), Nat.pos_of_dvd_of_pos (gcdL_s l s) h1⟩
/-- the divisor of lowest terms, with the sign of the bottom -/
def sgd (l : List Int) (b : Int) : Int := if b < 0 then -(gcdL l b : Int) else (gcdL l b : Int)
def pt (l : List Int) (b : Int) : Tu Int × Int := (tu (l.map fun t => t.fdiv (sgd l b)), b.fdiv (sgd l b))
structure Low (p : Tu Int × Int) : Prop where
  pos : 1 ≤ p.2
  cop : gcdL (Tu.l p.1) p.2 = 1
theorem sgd_ne {l : List Int} {b : Int} (h : b ≠ 0) : sgd l b ≠ 0 := by
  have := (gcdL_le (l := l) h).2
  unfold sgd
  split <;> omega
theorem sgd_abs (l : List Int) (b : Int) : (sgd l b).natAbs = gcdL l b := by
  unfold sgd
  split <;> omega
theorem pt_of_mul {c y : Int} {xs : List Int} (hc : c ≠ 0) (hy : 1 ≤ y) (h1 : gcdL xs y = 1) : pt (xs.map (c * ·)) (c * y) = (tu xs, y) := by
  have e : sgd (xs.map (c * ·)) (c * y) = c := by
    unfold sgd
    rw [gcdL_mul, h1]
    by_cases hn : c < 0
    · rw [if_pos (Int.mul_neg_of_neg_of_pos hn (by omega))]; omega
    · rw [if_neg (by have := Int.mul_nonneg (show 0 ≤ c by omega) (show 0 ≤ y by omega); omega)]; omega
  unfold pt
  rw [e, Int.mul_fdiv_cancel_left _ hc, List.map_map]
  congr 1
  show tu (xs.map _) = tu xs
  congr 1
  conv => rhs; rw [← List.map_id xs]
  apply List.map_congr_left
  intro x _
  show (c * x).fdiv c = x
  rw [Int.mul_fdiv_cancel_left _ hc]
theorem pt_split {l : List Int} {b : Int} (hb : b ≠ 0) : ∃ (c : Int) (xs : List Int) (y : Int), c ≠ 0 ∧ l = xs.map (c * ·) ∧ b = c * y ∧ 1 ≤ y ∧ gcdL xs y = 1 ∧ pt l b = (tu xs, y) := by
  have hc := sgd_ne (l := l) hb
  have ha := sgd_abs l b
  have hdb : sgd l b ∣ b := Int.natAbs_dvd_natAbs.mp (by rw [ha]; exact gcdL_s l b)
  have hda : ∀ a ∈ l, sgd l b ∣ a := fun a m => Int.natAbs_dvd_natAbs.mp (by rw [ha]; exact gcdL_a l b m)
  have el : l = (l.map fun t => t.fdiv (sgd l b)).map (sgd l b * ·) := by
    rw [List.map_map]
    conv => lhs; rw [← List.map_id l]
    apply List.map_congr_left
    intro x m
    obtain ⟨z, hz⟩ := hda x m
    show x = sgd l b * x.fdiv (sgd l b)
    rw [hz, Int.mul_fdiv_cancel_left _ hc]
  have eb : b = sgd l b * b.fdiv (sgd l b) := by
    obtain ⟨z, hz⟩ := hdb
    generalize sgd l b = c at *
    rw [hz, Int.mul_fdiv_cancel_left _ hc]
  have pos : 1 ≤ b.fdiv (sgd l b) := by
    obtain ⟨z, hz⟩ := hdb
    have hs : 0 < sgd l b ↔ 0 < b := by
      have := (gcdL_le (l := l) hb).2
      unfold sgd
      split <;> omega
    generalize sgd l b = c at *
    subst hz
    rw [Int.mul_fdiv_cancel_left _ hc]
    by_cases hcp : 0 < c
    · have h1 := hs.mp hcp
      by_cases q : 0 < z
      · exact q
      · have h2 := Int.mul_le_mul_of_nonneg_left (show z ≤ 0 by omega) (show 0 ≤ c by omega)
        rw [Int.mul_zero] at h2
        omega
    · have h1 : ¬ 0 < c * z := fun q => hcp (hs.mpr q)
      have h2 : c < 0 := by omega
      have hz0 : z ≠ 0 := fun q => hb (by rw [q, Int.mul_zero])
      by_cases q : 0 < z
      · exact q
      · have := Int.mul_pos_of_neg_of_neg h2 (show z < 0 by omega)
        omega
  refine ⟨sgd l b, l.map fun t => t.fdiv (sgd l b), b.fdiv (sgd l b), hc, el, eb, pos, ?_, rfl⟩
  have hg := gcdL_mul (sgd l b) (l.map fun t => t.fdiv (sgd l b)) (b.fdiv (sgd l b))
  rw [← el, ← eb, ha] at hg
  have h0 := (gcdL_le (l := l) hb).2
  exact (Nat.eq_of_mul_eq_mul_left h0 (by rw [Nat.mul_one]; exact hg)).symm
theorem pt_lp {l : List Int} {b : Int} (hb : b ≠ 0) : Low (pt l b) := by
  obtain ⟨c, xs, y, _, _, _, h1, h2, e⟩ := pt_split (l := l) hb
  rw [e]
  exact ⟨h1, h2⟩
theorem cross_dvd {xs xs' : List Int} {y y' : Int} (h1 : gcdL xs y = 1) (h : xs.map (· * y') = xs'.map (· * y)) : y.natAbs ∣ y'.natAbs := by
  have e : gcdL (xs.map (y' * ·)) (y' * y) = y'.natAbs := by rw [gcdL_mul, h1, Nat.mul_one]
  rw [← e]
  refine dvd_gcdL ⟨y'.natAbs, by rw [Int.natAbs_mul, Nat.mul_comm]⟩ fun a m => ?_
  have e2 : xs.map (y' * ·) = xs'.map (· * y) := by
    rw [← h]
    exact List.map_congr_left fun x _ => Int.mul_comm _ _
  rw [e2] at m
  obtain ⟨z, _, rfl⟩ := List.mem_map.mp m
  exact ⟨z.natAbs, by rw [Int.natAbs_mul, Nat.mul_comm]⟩
theorem cross_pt {xs xs' : List Int} {y y' : Int} (hy : 1 ≤ y) (hy' : 1 ≤ y') (h1 : gcdL xs y = 1) (h2 : gcdL xs' y' = 1) (h : xs.map (· * y') = xs'.map (· * y)) : xs = xs' ∧ y = y' := by
  have d1 := cross_dvd h1 h
  have d2 := cross_dvd h2 h.symm
  have e : y = y' := by have := Nat.dvd_antisymm d1 d2; omega
  subst e
  refine ⟨?_, rfl⟩
  exact (List.map_inj_right fun a b q => Int.eq_of_mul_eq_mul_right (show y ≠ 0 by omega) q).mp h
theorem pt_eq {l l' : List Int} {b b' : Int} (hb : b ≠ 0) (hb' : b' ≠ 0) (h : l.map (· * b') = l'.map (· * b)) : pt l b = pt l' b' := by
  obtain ⟨c, xs, y, hc, hl, hbe, hy, hg, e⟩ := pt_split (l := l) hb
  obtain ⟨c', xs', y', hc', hl', hbe', hy', hg', e'⟩ := pt_split (l := l') hb'
  rw [e, e']
  have hx : xs.map (· * y') = xs'.map (· * y) := by
    subst hl hl' hbe hbe'
    simp only [List.map_map] at h
    refine (List.map_inj_right (f := fun z : Int => (c * c') * z) fun a b q => Int.eq_of_mul_eq_mul_left (Int.mul_ne_zero hc hc') q).mp ?_
    simp only [List.map_map]
    refine Eq.trans (List.map_congr_left fun a _ => ?_) (h.trans (List.map_congr_left fun a _ => ?_))
    · show c * c' * (a * y') = c * a * (c' * y'); grind
    · show c' * a * (c * y) = c * c' * (a * y); grind
  obtain ⟨h1, h2⟩ := cross_pt hy hy' hg hg' hx
  rw [h1, h2]
theorem pt_red {p : Tu Int × Int} (h : Low p) : pt (Tu.l p.1) p.2 = p := by
  have := pt_of_mul (c := 1) (xs := Tu.l p.1) (by decide) h.pos h.cop
  simp only [Int.one_mul, List.map_id'] at this
  exact this
/-- what the coordinates are -/
theorem pt_len (l : List Int) (b : Int) : (Tu.l (pt l b).1).length = l.length := by
  show (l.map _).length = _
  rw [List.length_map]
theorem pt_cross {l : List Int} {b : Int} (hb : b ≠ 0) : (Tu.l (pt l b).1).map (· * b) = l.map (· * (pt l b).2) := by
  obtain ⟨c, xs, y, hc, hl, hbe, hy, hg, e⟩ := pt_split (l := l) hb
  rw [e]
  subst hl hbe
  rw [List.map_map]
  exact List.map_congr_left fun a _ => by show a * (c * y) = c * a * y; grind
theorem pt_cross_at {l : List Int} {b : Int} (hb : b ≠ 0) {i : Nat} {x t : Int} (hx : (Tu.l (pt l b).1)[i]? = some x) (ht : l[i]? = some t) : x * b = t * (pt l b).2 := by
  have h := congrArg (fun l => l[i]?) (pt_cross (l := l) hb)
  simp only [List.getElem?_map, hx, ht, Option.map_some] at h
  exact Option.some.inj h
theorem pt_le {l : List Int} {b : Int} (hb : b ≠ 0) : (pt l b).2.natAbs ≤ b.natAbs ∧ ∀ x ∈ Tu.l (pt l b).1, ∃ t ∈ l, x.natAbs ≤ t.natAbs := by
  obtain ⟨c, xs, y, hc, hl, hbe, hy, hg, e⟩ := pt_split (l := l) hb
  rw [e]
  subst hl hbe
  refine ⟨by rw [Int.natAbs_mul]; exact Nat.le_mul_of_pos_left _ (by omega), fun x m => ⟨c * x, List.mem_map.mpr ⟨x, m, rfl⟩, ?_⟩⟩
  rw [Int.natAbs_mul]; exact Nat.le_mul_of_pos_left _ (by omega)
end FL

/-! QB: sizes of ints, found as instances. -/
namespace FL
open PySem L2
class Bd (n : outParam Nat) (i : Int) : Prop where
  lt : i.natAbs < 2 ^ n
theorem two_mono {a b : Nat} (h : a ≤ b) : 2 ^ a ≤ 2 ^ b := Nat.pow_le_pow_right (by decide) h
theorem Bd.mono {m n : Nat} {i : Int} (h : Bd m i) (l : m ≤ n) : Bd n i := ⟨Nat.lt_of_lt_of_le h.lt (two_mono l)⟩
instance bd_mul {m n : Nat} {i j : Int} [h : Bd m i] [k : Bd n j] : Bd (m + n) (i * j) := ⟨by rw [Int.natAbs_mul, Nat.pow_add]; exact Nat.mul_lt_mul'' h.lt k.lt⟩
theorem bd_sum {m n : Nat} {i j s : Int} (h : Bd m i) (k : Bd n j) (hs : s.natAbs ≤ i.natAbs + j.natAbs) : Bd (m + n + 1) s := ⟨by
  have h1 := Nat.lt_of_lt_of_le h.lt (two_mono (Nat.le_add_right m n))
  have h2 := Nat.lt_of_lt_of_le k.lt (two_mono (Nat.le_add_left n m))
  rw [Nat.pow_succ]
  omega⟩
theorem bd_sumx {m n : Nat} {i j s : Int} (h : Bd m i) (k : Bd n j) (hs : s.natAbs ≤ i.natAbs + j.natAbs) : Bd (max m n + 1) s := ⟨by
  have h1 := Nat.lt_of_lt_of_le h.lt (two_mono (Nat.le_max_left m n))
  have h2 := Nat.lt_of_lt_of_le k.lt (two_mono (Nat.le_max_right m n))
  rw [Nat.pow_succ]
  omega⟩
instance bd_add {m n : Nat} {i j : Int} [h : Bd m i] [k : Bd n j] : Bd (max m n + 1) (i + j) := bd_sumx h k (by omega)
instance bd_sub {m n : Nat} {i j : Int} [h : Bd m i] [k : Bd n j] : Bd (max m n + 1) (i - j) := bd_sumx h k (by omega)
instance bd_neg {m : Nat} {i : Int} [h : Bd m i] : Bd m (-i) := ⟨by rw [Int.natAbs_neg]; exact h.lt⟩
instance bd_lit {n : Nat} : Bd (n.log2 + 1) (no_index (OfNat.ofNat n) : Int) := ⟨by show n < _; exact Nat.lt_log2_self⟩
theorem fdiv_leP (x c : Int) (hp : 0 < c) : (x.fdiv c).natAbs ≤ x.natAbs := by
  have h1 := Int.mul_fdiv_add_fmod x c
  generalize hq : x.fdiv c = q at *
  have a1 := Int.fmod_nonneg_of_pos x hp
  have a2 := Int.fmod_lt_of_pos x hp
  generalize x.fmod c = r at *
  by_cases q0 : 0 ≤ q
  · have := Int.mul_le_mul_of_nonneg_right (show 1 ≤ c by omega) q0
    omega
  · have := Int.mul_le_mul_of_nonneg_right (show 1 ≤ c by omega) (show 0 ≤ -q - 1 by omega)
    have e : c * (-q - 1) = -(c * q) - c := by grind
    omega
theorem fdiv_le (x c : Int) : (x.fdiv c).natAbs ≤ x.natAbs := by
  by_cases hc : c = 0
  · subst hc; simp
  · by_cases hp : 0 < c
    · exact fdiv_leP x c hp
    · have := fdiv_leP (-x) (-c) (by omega)
      rw [Int.neg_fdiv_neg, Int.natAbs_neg] at this
      exact this
instance bd_fdiv {m : Nat} {i c : Int} [h : Bd m i] : Bd m (i.fdiv c) := ⟨Nat.lt_of_le_of_lt (fdiv_le i c) h.lt⟩
theorem bd_range {i : Int} {n : Nat} (h : -(n : Int) ≤ i ∧ i ≤ n) : Bd (n.log2 + 1) i := ⟨by have := @Nat.lt_log2_self n; omega⟩
theorem mulX_bd {m n : Nat} {i j : Int} [hi : Bd m i] [hj : Bd n j] (h : m + n ≤ 999998) : mulX i j = .ok (i * j) :=
  mulX_b (a := m + 1) (b := n + 1) (hi.mono (by omega)).lt (hj.mono (by omega)).lt (by omega) (by omega) (by omega)
theorem fdvX_bd {n : Nat} {i j : Int} [hj : Bd n j] (hn : n ≤ 8999) (h0 : j ≠ 0) : fdvX i j = .ok (i.fdiv j) :=
  fdvX_b (b := n + 1) h0 (hj.mono (by omega)).lt (by omega) (by omega)
class BdL (n : outParam Nat) (l : List Int) : Prop where
  all : ∀ a ∈ l, Bd n a
theorem BdL.mono {m n : Nat} {l : List Int} (h : BdL m l) (z : m ≤ n) : BdL n l := ⟨fun a q => (h.all a q).mono z⟩
theorem bd_pt {m : Nat} {l : List Int} {b : Int} (h : Bd m b) : Bd m (pt l b).2 := ⟨Nat.lt_of_le_of_lt (fdiv_le _ _) h.lt⟩
theorem bdl_pt {m : Nat} {l : List Int} {b : Int} (h : BdL m l) : BdL m (Tu.l (pt l b).1) := ⟨fun a q => by
  obtain ⟨t, ht, rfl⟩ := List.mem_map.mp (show a ∈ l.map _ from q)
  exact ⟨Nat.lt_of_le_of_lt (fdiv_le _ _) (h.all t ht).lt⟩⟩
/-! slices -/
theorem cutL_init {α : Type} (l : List α) : cutL l none (some (-1)) = l.dropLast := by
  unfold cutL
  have e : HT.sIx l.length l.length (some (-1)) = l.length - 1 := by
    unfold HT.sIx
    simp
    omega
  rw [e, HT.sIx_none, List.drop_zero, List.dropLast_eq_take]
  rfl
theorem cutL_take {α : Type} (l : List α) {k : Int} (h : 0 ≤ k) : cutL l none (some k) = l.take k.toNat := by
  obtain ⟨n, rfl⟩ := Int.eq_ofNat_of_zero_le h
  unfold cutL
  rw [HT.sIx_nat, HT.sIx_none, List.drop_zero, Nat.sub_zero, Int.toNat_natCast]
  by_cases z : n ≤ l.length
  · rw [Nat.min_eq_left z]
  · rw [Nat.min_eq_right (by omega), List.take_of_length_le (Nat.le_refl _), List.take_of_length_le (by omega)]
theorem cutL_drop {α : Type} (l : List α) {k : Int} (h : 0 ≤ k) : cutL l (some k) none = l.drop k.toNat := by
  obtain ⟨n, rfl⟩ := Int.eq_ofNat_of_zero_le h
  unfold cutL
  rw [HT.sIx_nat, HT.sIx_none, Int.toNat_natCast, List.take_of_length_le (by rw [List.length_drop]; omega)]
  by_cases z : n ≤ l.length
  · rw [Nat.min_eq_left z]
  · rw [Nat.min_eq_right (by omega), List.drop_of_length_le (Nat.le_refl _), List.drop_of_length_le (by omega)]
theorem cutL_mid {α : Type} (l : List α) {k m : Int} (h : 0 ≤ k) (h2 : 0 ≤ m) : cutL l (some k) (some m) = (l.take m.toNat).drop k.toNat := by
  obtain ⟨n, rfl⟩ := Int.eq_ofNat_of_zero_le h
  obtain ⟨p, rfl⟩ := Int.eq_ofNat_of_zero_le h2
  unfold cutL
  rw [HT.sIx_nat, HT.sIx_nat, Int.toNat_natCast, Int.toNat_natCast]
  rw [List.drop_take]
  by_cases z : n ≤ l.length
  · rw [Nat.min_eq_left z]
    by_cases y : p ≤ l.length
    · rw [Nat.min_eq_left y]
    · rw [Nat.min_eq_right (by omega), List.take_of_length_le (by rw [List.length_drop]; omega), List.take_of_length_le (by rw [List.length_drop]; omega)]
  · rw [Nat.min_eq_right (show l.length ≤ n by omega), List.drop_of_length_le (Nat.le_refl _), List.drop_of_length_le (show l.length ≤ n by omega)]
    simp
theorem cutL_tail {α : Type} (l : List α) {k : Int} (h : 0 ≤ k) : cutL l (some k) (some (-1)) = l.dropLast.drop k.toNat := by
  obtain ⟨n, rfl⟩ := Int.eq_ofNat_of_zero_le h
  unfold cutL
  have e : HT.sIx l.length l.length (some (-1)) = l.length - 1 := by
    unfold HT.sIx
    simp
    omega
  rw [e, HT.sIx_nat, Int.toNat_natCast, List.dropLast_eq_take, List.drop_take]
  by_cases z : n ≤ l.length
  · rw [Nat.min_eq_left z]
  · rw [Nat.min_eq_right (by omega), List.drop_of_length_le (Nat.le_refl _), List.drop_of_length_le (by omega)]
    simp
theorem getX_last {α : Type} {l : List α} {a : α} : getX (l ++ [a]) (-1) = .ok a := by
  unfold getX atI
  have : ixN (l ++ [a]).length (-1) = some l.length := by
    unfold ixN
    simp
    omega
  rw [this]
  simp
end FL

/-! QC: comprehensions over a range, cross multiplied lists. -/
namespace FL
open PySem L2
theorem compX_of {α β : Type} {t : α → Xc Bool} {f : α → Xc β} (ht : ∀ a, t a = .ok true) : ∀ {l : List α} {r : List β}, l.length = r.length → (∀ (i : Nat) (a : α) (b : β), l[i]? = some a → r[i]? = some b → f a = .ok b) → compX t f l = .ok r
  | [], [], _, _ => rfl
  | [], _ :: _, h, _ => by simp at h
  | _ :: _, [], h, _ => by simp at h
  | a :: l, b :: r, hl, h => by
    have h1 := h 0 a b rfl rfl
    have ih := compX_of (t := t) (f := f) ht (l := l) (r := r) (by simpa using hl) fun i a b ha hb => h (i + 1) a b (by simpa using ha) (by simpa using hb)
    simp only [compX, ht, h1, nx, bind_ok', if_true, ih]
theorem rangeL_nat {n : Nat} {i : Nat} {a : Int} (h : (rangeL 0 (n : Int))[i]? = some a) : a = (i : Int) ∧ i < n := by
  obtain ⟨h1, h2⟩ := rangeL_get h
  omega
theorem comp_range {β : Type} {t : Int → Xc Bool} {f : Int → Xc β} {n : Int} {r : List β} (ht : ∀ a, t a = .ok true) (hr : (r.length : Int) = n) (h : ∀ (k : Nat) b, r[k]? = some b → f (k : Int) = .ok b) : compX t f (rangeL 0 n) = .ok r := by
  subst hr
  refine compX_of ht (by rw [rangeL_len]; omega) fun i a b ha hb => ?_
  obtain ⟨rfl, _⟩ := rangeL_nat ha
  exact h i b hb
theorem getX_nat {α : Type} {l : List α} {k : Nat} {a : α} (h : l[k]? = some a) : getX l (k : Int) = .ok a := getX_b (by omega) (by rw [Int.toNat_natCast]; exact h)
theorem getX_app {α : Type} {l l' : List α} {k : Nat} {a : α} (h : l[k]? = some a) : getX (l ++ l') (k : Int) = .ok a := getX_nat (by
  have := List.getElem?_eq_some_iff.mp h
  rw [List.getElem?_append_left this.1]; exact h)
/-! cross multiplied -/
theorem map_cross {xs l : List Int} {b y : Int} (h : xs.map (· * b) = l.map (· * y)) {f g : Int → Int} (c : Int → Int) (hf : ∀ a, f a = c (a * b)) (hg : ∀ t, g t = c (t * y)) : xs.map f = l.map g := by
  have := congrArg (List.map c) h
  rw [List.map_map, List.map_map] at this
  rw [show f = c ∘ (· * b) from funext hf, show g = c ∘ (· * y) from funext hg]
  exact this
theorem zip_cross {xs l xs' l' : List Int} {b y b' y' : Int} (h : xs.map (· * b) = l.map (· * y)) (h' : xs'.map (· * b') = l'.map (· * y')) {f g : Int → Int → Int} (c : Int → Int → Int) (hf : ∀ a a', f a a' = c (a * b) (a' * b')) (hg : ∀ t t', g t t' = c (t * y) (t' * y')) :
    List.zipWith f xs xs' = List.zipWith g l l' := by
  have e1 : List.zipWith f xs xs' = List.zipWith c (xs.map (· * b)) (xs'.map (· * b')) := by
    rw [List.zipWith_map]
    congr 1
    funext a a'
    exact hf a a'
  have e2 : List.zipWith g l l' = List.zipWith c (l.map (· * y)) (l'.map (· * y')) := by
    rw [List.zipWith_map]
    congr 1
    funext a a'
    exact hg a a'
  rw [e1, e2, h, h']
theorem Bd.ok {n m : Nat} {i : Int} (h : Bd n i) (z : n ≤ m := by decide) : Bd m i := h.mono z
theorem zip_map {α β γ : Type} (f : α × β → γ) (l : List α) (m : List β) : (l.zip m).map f = List.zipWith (fun a b => f (a, b)) l m := by
  rw [List.zip, List.map_zipWith]
/-- the first part of a chain -/
theorem okB {α β : Type} {m : Xc α} {k : α → Xc β} {r : Xc β} (a : α) (h : m = .ok a) (h2 : k a = r) : m.bind k = r := by rw [h]; exact h2
/-! loops: what follows them -/
theorem forK_ct {γ α ρ τ : Type} {f : γ → α → Xc (Lp γ ρ)} {l : List α} {g : γ} {rt : ρ → τ} {k : γ → Xc τ} {r : Xc τ} (P : γ → Prop) (h : P g) (hs : ∀ g a, a ∈ l → P g → ∃ g', f g a = .ok (.ct g') ∧ P g') (hk : ∀ g, P g → k g = r) : forK (forX f l g) rt k = r := by
  obtain ⟨g', e, p⟩ := forX_ct (f := f) P h hs
  rw [e, forK_inl]
  exact hk g' p
theorem foldK {γ α τ : Type} {f : γ → α → Xc γ} {l : List α} {g : γ} {k : γ → Xc τ} {r : Xc τ} (P : γ → Prop) (h : P g) (hs : ∀ g a, a ∈ l → P g → ∃ g', f g a = .ok g' ∧ P g') (hk : ∀ g, P g → k g = r) : (foldX f l g).bind k = r := by
  obtain ⟨g', e, p⟩ := foldX_inv (f := f) P h hs
  rw [e, bind_ok']
  exact hk g' p
theorem foldKi {γ α τ : Type} {f : γ → α → Xc γ} {l : List α} {g : γ} {k : γ → Xc τ} {r : Xc τ} (P : Nat → γ → Prop) (h : P 0 g) (hs : ∀ (i : Nat) g a, l[i]? = some a → P i g → ∃ g', f g a = .ok g' ∧ P (i + 1) g') (hk : ∀ g, P l.length g → k g = r) : (foldX f l g).bind k = r := by
  obtain ⟨g', e, p⟩ := foldX_ix (f := f) P h hs
  rw [e, bind_ok']
  exact hk g' p
/-- a loop's state that does not change -/
theorem forK_id {γ α ρ τ : Type} {f : γ → α → Xc (Lp γ ρ)} {l : List α} {g : γ} {rt : ρ → τ} {k : γ → Xc τ} {r : Xc τ} (hs : ∀ a, a ∈ l → f g a = .ok (.ct g)) (hk : k g = r) : forK (forX f l g) rt k = r :=
  forK_ct (fun g' => g' = g) rfl (fun g' a m e => ⟨g, by rw [e]; exact hs a m, rfl⟩) fun g' e => by rw [e]; exact hk
end FL
namespace FL
open PySem L2
theorem bd_up {n m : Nat} {i : Int} [h : Bd n i] (z : n ≤ m := by decide) : Bd m i := h.mono z
theorem comp_list {α β : Type} {t : α → Xc Bool} {f : α → Xc β} {h : α → β} {l : List α} (ht : ∀ a, t a = .ok true) (hf : ∀ a ∈ l, f a = .ok (h a)) : compX t f l = .ok (l.map h) := compX_map fun a m => ⟨ht a, hf a m⟩
theorem comp_at1 {α β : Type} {t : Int → Xc Bool} {g : α → Xc β} {h : α → β} {l l' : List α} {n : Int} (ht : ∀ a, t a = .ok true) (hn : (l.length : Int) = n) (hg : ∀ x ∈ l, g x = .ok (h x)) : compX t (fun a => (getX (l ++ l') a).bind g) (rangeL 0 n) = .ok (l.map h) := by
  refine comp_range ht (by rw [List.length_map]; exact hn) fun k b hb => ?_
  rw [List.getElem?_map] at hb
  cases e : l[k]? with
  | none => rw [e] at hb; cases hb
  | some x =>
    rw [e] at hb
    cases hb
    rw [getX_app e, bind_ok']
    exact hg x (List.mem_of_getElem? e)
theorem comp_at2 {α δ β : Type} {t : Int → Xc Bool} {f : Int → Xc β} {h : α → δ → β} {l l' : List α} {m m' : List δ} {n : Int} (ht : ∀ a, t a = .ok true) (hn : (l.length : Int) = n) (hm : m.length = l.length) (hf : ∀ (k : Int) x y, x ∈ l → y ∈ m → getX (l ++ l') k = .ok x → getX (m ++ m') k = .ok y → f k = .ok (h x y)) :
    compX t f (rangeL 0 n) = .ok (List.zipWith h l m) := by
  refine comp_range ht (by rw [List.length_zipWith]; omega) fun k b hb => ?_
  rw [List.getElem?_zipWith] at hb
  cases e : l[k]? with
  | none => rw [e] at hb; simp at hb
  | some x =>
    cases e2 : m[k]? with
    | none => rw [e, e2] at hb; simp at hb
    | some y =>
      rw [e, e2] at hb
      simp at hb
      subst hb
      exact hf k x y (List.mem_of_getElem? e) (List.mem_of_getElem? e2) (getX_app e) (getX_app e2)
theorem mulX_all {n m : Nat} {l : List Int} {b : Int} (hl : BdL n l) (hb : Bd m b) (h : n + m ≤ 999998) : ∀ x ∈ l, mulX x b = .ok (x * b) := fun x q => by
  have := hl.all x q
  exact mulX_bd h
theorem catL_ok {α : Type} {l m : List α} (h : l.length + m.length ≤ 1000000) : catL l m = .ok (l ++ m) := by
  have := size_ge
  unfold catL
  rw [if_pos (by omega)]
theorem bdl_map {n m : Nat} {l : List Int} {f : Int → Int} (h : BdL n l) (hf : ∀ x, Bd n x → Bd m (f x)) : BdL m (l.map f) := ⟨fun a q => by
  obtain ⟨x, mx, rfl⟩ := List.mem_map.mp q
  exact hf x (h.all x mx)⟩
theorem bdl_app {n : Nat} {l m : List Int} (h : BdL n l) (k : BdL n m) : BdL n (l ++ m) := ⟨fun a q => (List.mem_append.mp q).elim (h.all a) (k.all a)⟩
theorem bdl_zip {n m p : Nat} {l k : List Int} {f : Int → Int → Int} (h : BdL n l) (h' : BdL m k) (hf : ∀ x y, Bd n x → Bd m y → Bd p (f x y)) : BdL p (List.zipWith f l k) := ⟨fun a q => by
  rw [← List.map_uncurry_zip_eq_zipWith] at q
  obtain ⟨⟨x, y⟩, mx, rfl⟩ := List.mem_map.mp q
  exact hf x y (h.all x (List.of_mem_zip mx).1) (h'.all y (List.of_mem_zip mx).2)⟩
end FL

/-! QD: data: no deeper than k; == of alike data. -/
namespace FL
open PySem L2
class Flat (α : Type) [Rp α] [ToD α] (k : outParam Nat) : Prop where
  lay : ∀ a : α, PyData.canLay0 (ToD.d a) = true
  dep : ∀ a : α, PyData.depth (ToD.d a) ≤ k
instance : Flat Int 0 := ⟨fun _ => rfl, fun _ => Nat.le_refl _⟩
instance : Flat Bool 0 := ⟨fun _ => rfl, fun _ => Nat.le_refl _⟩
instance : Flat Unit 0 := ⟨fun _ => rfl, fun _ => Nat.le_refl _⟩
section
variable {α β : Type} [Rp α] [Rp β] [ToD α] [ToD β] {k j : Nat}
theorem lay_all [F : Flat α k] : ∀ l : List α, PyData.canLayAll0 (l.map ToD.d) = true
  | [] => by simp [PyData.canLayAll0]
  | a :: l => by
    show PyData.canLayAll0 (ToD.d a :: l.map ToD.d) = true
    simp only [PyData.canLayAll0, F.lay a, lay_all l, Bool.and_self]
theorem dep_all [F : Flat α k] : ∀ l : List α, PyData.depthAll (l.map ToD.d) ≤ k
  | [] => by simp [PyData.depthAll]
  | a :: l => by
    have h1 := F.dep a
    have h2 := dep_all l
    show PyData.depthAll (ToD.d a :: l.map ToD.d) ≤ k
    simp only [PyData.depthAll]
    omega
instance [F : Flat α k] : Flat (Option α) k := ⟨fun a => by cases a with
  | none => rfl
  | some a => exact F.lay a, fun a => by cases a with
  | none => exact Nat.zero_le _
  | some a => exact F.dep a⟩
instance [F : Flat α k] : Flat (List α) (k + 1) := ⟨fun l => by
  show PyData.canLay0 (.list (l.map ToD.d)) = true
  simp only [PyData.canLay0, lay_all], fun l => by
  show PyData.depth (.list (l.map ToD.d)) ≤ _
  have := dep_all l
  simp only [PyData.depth]
  omega⟩
instance [F : Flat α k] : Flat (Tu α) (k + 1) := ⟨fun l => by
  show PyData.canLay0 (.tuple (l.l.map ToD.d)) = true
  simp only [PyData.canLay0, lay_all], fun l => by
  show PyData.depth (.tuple (l.l.map ToD.d)) ≤ _
  have := dep_all l.l
  simp only [PyData.depth]
  omega⟩
instance [F : Flat α k] [E : Flat β j] : Flat (α × β) (max k j + 1) := ⟨fun t => by
  show PyData.canLay0 (.tuple [ToD.d t.1, ToD.d t.2]) = true
  simp only [PyData.canLay0, PyData.canLayAll0, F.lay, E.lay, Bool.and_self], fun t => by
  show PyData.depth (.tuple [ToD.d t.1, ToD.d t.2]) ≤ _
  have h1 := F.dep t.1
  have h2 := E.dep t.2
  simp only [PyData.depth, PyData.depthAll]
  omega⟩
theorem shaped_of [F : Flat α k] (h : k ≤ 64 := by decide) (a : α) : SeqAt.shaped (ToD.d a) = true := by
  unfold SeqAt.shaped
  have := F.dep a
  rw [F.lay a, decide_eq_true (by omega)]
  rfl
theorem datX_ok [F : Flat α k] (h : k ≤ 64 := by decide) (a : α) : datX a = .ok (ToD.d a) := by
  unfold datX
  rw [if_pos (shaped_of h a)]
end
/-- == of alike data tells equality -/
class EqD (α : Type) [Rp α] [ToD α] : Prop where
  eq : ∀ a b : α, PyData.eqv (ToD.d a) (ToD.d b) = true ↔ a = b
instance : EqD Int := ⟨fun a b => by show (a == b) = true ↔ _; simp⟩
instance : EqD Bool := ⟨fun a b => by show (a == b) = true ↔ _; simp⟩
instance : EqD Unit := ⟨fun a b => ⟨fun _ => rfl, fun _ => rfl⟩⟩
instance : EqD Str := ⟨fun a b => by show (a == b) = true ↔ _; simp⟩
section
variable {α β : Type} [Rp α] [Rp β] [ToD α] [ToD β] {k j : Nat}
theorem eq_all [E : EqD α] : ∀ l m : List α, PyData.eqvAll (l.map ToD.d) (m.map ToD.d) = true ↔ l = m
  | [], [] => by simp [PyData.eqvAll]
  | [], b :: m => by simp [PyData.eqvAll]
  | a :: l, [] => by simp [PyData.eqvAll]
  | a :: l, b :: m => by
    show PyData.eqvAll (ToD.d a :: l.map ToD.d) (ToD.d b :: m.map ToD.d) = true ↔ _
    simp only [PyData.eqvAll, Bool.and_eq_true, E.eq, eq_all l m, List.cons.injEq]
instance [E : EqD α] : EqD (List α) := ⟨fun a b => eq_all a b⟩
instance [E : EqD α] : EqD (Tu α) := ⟨fun a b => eq_all a.l b.l⟩
instance [E : EqD α] [E' : EqD β] : EqD (α × β) := ⟨fun a b => by
  show PyData.eqvAll [ToD.d a.1, ToD.d a.2] [ToD.d b.1, ToD.d b.2] = true ↔ _
  simp only [PyData.eqvAll, Bool.and_eq_true, E.eq, E'.eq, and_true]
  constructor
  · rintro ⟨h1, h2⟩; exact Prod.ext h1 h2
  · intro h; subst h; exact ⟨rfl, rfl⟩⟩
theorem eqdX_ok [F : Flat α k] [E : EqD α] (h : k ≤ 64 := by decide) (a b : α) [D : Decidable (a = b)] : eqdX a b = .ok (decide (a = b)) := by
  unfold eqdX
  rw [if_pos ⟨shaped_of h a, shaped_of h b⟩]
  congr 1
  by_cases q : a = b
  · rw [decide_eq_true q, (E.eq a b).mpr q]
  · rw [decide_eq_false q]
    cases r : PyData.eqv (ToD.d a) (ToD.d b) with
    | false => rfl
    | true => exact absurd ((E.eq a b).mp r) q
theorem inDX_ok [F : Flat α k] [E : EqD α] (h : k + 1 ≤ 64 := by decide) (a : α) (l : List α) [D : Decidable (a ∈ l)] : inDX a l = .ok (decide (a ∈ l)) := by
  unfold inDX
  rw [if_pos ⟨shaped_of (by omega) a, shaped_of h l⟩]
  congr 1
  by_cases q : a ∈ l
  · rw [decide_eq_true q, List.any_eq_true]
    exact ⟨ToD.d a, List.mem_map.mpr ⟨a, q, rfl⟩, (E.eq a a).mpr rfl⟩
  · rw [decide_eq_false q, List.any_eq_false]
    intro x m
    obtain ⟨b, mb, rfl⟩ := List.mem_map.mp m
    intro z
    exact q ((E.eq b a).mp z ▸ mb)
end
instance {α : Type} [d : DecidableEq α] : DecidableEq (Tu α) := inferInstanceAs (DecidableEq (List α))
/-! one datum -/
structure Fl (k : Nat) (d : PyData) : Prop where
  lay : PyData.canLay0 d = true
  dep : PyData.depth d ≤ k
theorem Fl.mono {k j : Nat} {d : PyData} (h : Fl k d) (z : k ≤ j) : Fl j d := ⟨h.lay, Nat.le_trans h.dep z⟩
theorem Fl.of {α : Type} [Rp α] [ToD α] {k : Nat} [F : Flat α k] (a : α) : Fl k (ToD.d a) := ⟨F.lay a, F.dep a⟩
theorem Fl.int (i : Int) : Fl 0 (.int i) := ⟨rfl, Nat.le_refl _⟩
theorem Fl.non : Fl 0 .none := ⟨rfl, Nat.le_refl _⟩
theorem Fl.bl (b : Bool) : Fl 0 (.bool b) := ⟨rfl, Nat.le_refl _⟩
theorem fl_all {k : Nat} : ∀ {ds : List PyData}, (∀ d ∈ ds, Fl k d) → PyData.canLayAll0 ds = true ∧ PyData.depthAll ds ≤ k
  | [], _ => ⟨by simp [PyData.canLayAll0], by simp [PyData.depthAll]⟩
  | d :: ds, h => by
    have h1 := h d (by simp)
    obtain ⟨h2, h3⟩ := fl_all (ds := ds) fun d m => h d (by simp [m])
    have h4 := h1.dep
    refine ⟨by simp only [PyData.canLayAll0, h1.lay, h2, Bool.and_self], ?_⟩
    simp only [PyData.depthAll]
    omega
theorem Fl.tup {k : Nat} {ds : List PyData} (h : ∀ d ∈ ds, Fl k d) : Fl (k + 1) (.tuple ds) := by
  obtain ⟨h1, h2⟩ := fl_all h
  exact ⟨by simp only [PyData.canLay0, h1], by simp only [PyData.depth]; omega⟩
theorem Fl.lst {k : Nat} {ds : List PyData} (h : ∀ d ∈ ds, Fl k d) : Fl (k + 1) (.list ds) := by
  obtain ⟨h1, h2⟩ := fl_all h
  exact ⟨by simp only [PyData.canLay0, h1], by simp only [PyData.depth]; omega⟩
theorem Fl.sh {k : Nat} {d : PyData} (h : Fl k d) (z : k ≤ 64 := by decide) : SeqAt.shaped d = true := by
  unfold SeqAt.shaped
  have := h.dep
  rw [h.lay, decide_eq_true (by omega)]
  rfl
theorem datX_fl {α : Type} [Rp α] [ToD α] {k : Nat} {a : α} {d : PyData} (e : ToD.d a = d) (h : Fl k d) (z : k ≤ 64 := by decide) : datX a = .ok d := by
  subst e
  unfold datX
  rw [if_pos (h.sh z)]
theorem Fl.two {k : Nat} {x y : PyData} (hx : Fl k x) (hy : Fl k y) : Fl (k + 1) (.tuple [x, y]) := Fl.tup fun d m => by
  rcases List.mem_cons.mp m with e | m
  · rw [e]; exact hx
  · rw [List.mem_singleton.mp m]; exact hy
theorem Fl.ints (l : List Int) : ∀ d ∈ l.map ToD.d, Fl 0 d := fun d m => by
  obtain ⟨i, _, rfl⟩ := List.mem_map.mp m
  exact Fl.int i
/-! kinds -/
theorem asT_ok {l : List PyData} (h : l.length ≤ 1000) (s : l.all SeqAt.shaped = true) : asT (.tuple l) = .ok (tu l) := by
  have := size_ge
  unfold asT
  show (if _ then _ else _) = _
  rw [if_pos ⟨by omega, s⟩]
theorem asI_ok (i : Int) : asI (.int i) = .ok i := by unfold asI; rfl
theorem intsD_map : ∀ l : List Int, intsD (l.map ToD.d) = some l
  | [] => rfl
  | a :: l => by
    show intsD (.int a :: l.map ToD.d) = _
    unfold intsD
    rw [intsD_map l]
    rfl
theorem shaped_ints (l : List Int) : (l.map ToD.d).all SeqAt.shaped = true := by
  rw [List.all_eq_true]
  intro d m
  obtain ⟨x, _, rfl⟩ := List.mem_map.mp m
  rfl
theorem isD (d : PyData) (T : String) : isiX (HasTy.ty d) T = isiX (tyD d) T := rfl
theorem k_tt : isiX "tuple" "tuple" = .ok true := by unfold isiX; rfl
theorem k_lt : isiX "list" "tuple" = .ok false := by unfold isiX; rfl
theorem k_nt : isiX "NoneType" "tuple" = .ok false := by unfold isiX; rfl
theorem k_it : isiX "int" "tuple" = .ok false := by unfold isiX; rfl
theorem k_st : isiX "str" "tuple" = .ok false := by unfold isiX; rfl
theorem k_bt : isiX "bool" "tuple" = .ok false := by unfold isiX; rfl
theorem k_ii : isiX "int" "int" = .ok true := by unfold isiX; rfl
theorem k_ib : isiX "int" "bool" = .ok false := by unfold isiX; rfl
theorem k_bi : isiX "bool" "int" = .ok true := by unfold isiX; rfl
theorem k_bb : isiX "bool" "bool" = .ok true := by unfold isiX; rfl
theorem k_ni : isiX "NoneType" "int" = .ok false := by unfold isiX; rfl
theorem k_si : isiX "str" "int" = .ok false := by unfold isiX; rfl
theorem k_ti : isiX "tuple" "int" = .ok false := by unfold isiX; rfl
theorem k_li : isiX "list" "int" = .ok false := by unfold isiX; rfl
def notTup : PyData → Prop
  | .tuple _ => False
  | .dict _ => False
  | _ => True
theorem not_tup {d : PyData} (h : notTup d) : isiX (HasTy.ty d) "tuple" = .ok false := by
  cases d <;> first | exact h.elim | exact k_nt | exact k_bt | exact k_it | exact k_st | exact k_lt
def notInt : PyData → Prop
  | .int _ => False
  | .dict _ => False
  | _ => True
/-- isinstance(x, int) and not isinstance(x, bool) -/
def isIB : PyData → Bool
  | .int _ => true
  | _ => false
theorem not_int {d : PyData} (h : notInt d) : ((isiX (HasTy.ty d) "int").bind fun t => (Xc.ok (!t))).bind (fun t => if t = true then Xc.ok true else isiX (HasTy.ty d) "bool") = .ok true := by
  cases d <;> first
    | exact h.elim
    | (show ((isiX "NoneType" "int").bind _).bind _ = _; rw [k_ni]; rfl)
    | (show ((isiX "bool" "int").bind _).bind (fun t => if t = true then _ else isiX "bool" "bool") = _; rw [k_bi, k_bb]; rfl)
    | (show ((isiX "str" "int").bind _).bind _ = _; rw [k_si]; rfl)
    | (show ((isiX "list" "int").bind _).bind _ = _; rw [k_li]; rfl)
    | (show ((isiX "tuple" "int").bind _).bind _ = _; rw [k_ti]; rfl)
theorem yes_int (i : Int) : ((isiX (HasTy.ty (PyData.int i)) "int").bind fun t => (Xc.ok (!t))).bind (fun t => if t = true then Xc.ok true else isiX (HasTy.ty (PyData.int i)) "bool") = .ok false := by
  show ((isiX "int" "int").bind _).bind (fun t => if t = true then _ else isiX "int" "bool") = _
  rw [k_ii, k_ib]
  rfl
end FL

/-! QS: sorting data; lists in strict order. -/
namespace FL
open PySem L2
class Alk (α : Type) [Rp α] [ToD α] : Prop where
  al : ∀ a b : α, PySem.W.alike (ToD.d a) (ToD.d b) = true
instance : Alk Int := ⟨fun _ _ => rfl⟩
instance : Alk Str := ⟨fun _ _ => rfl⟩
instance : Alk Bool := ⟨fun _ _ => rfl⟩
section
variable {α β : Type} [Rp α] [Rp β] [ToD α] [ToD β] {k j : Nat}
theorem alk_all [A : Alk α] : ∀ l m : List α, PySem.W.alikeAll (l.map ToD.d) (m.map ToD.d) = true
  | [], m => by simp [PySem.W.alikeAll]
  | a :: l, [] => by simp [PySem.W.alikeAll]
  | a :: l, b :: m => by
    show PySem.W.alikeAll (ToD.d a :: l.map ToD.d) (ToD.d b :: m.map ToD.d) = true
    simp only [PySem.W.alikeAll, A.al a b, alk_all l m, Bool.and_self]
instance [A : Alk α] : Alk (List α) := ⟨fun a b => by
  show PySem.W.alike (.list (a.map ToD.d)) (.list (b.map ToD.d)) = true
  simp only [PySem.W.alike, alk_all]⟩
instance [A : Alk α] : Alk (Tu α) := ⟨fun a b => by
  show PySem.W.alike (.tuple (a.l.map ToD.d)) (.tuple (b.l.map ToD.d)) = true
  simp only [PySem.W.alike, alk_all]⟩
instance [A : Alk α] [B : Alk β] : Alk (α × β) := ⟨fun a b => by
  show PySem.W.alike (.tuple [ToD.d a.1, ToD.d a.2]) (.tuple [ToD.d b.1, ToD.d b.2]) = true
  simp only [PySem.W.alike, PySem.W.alikeAll, A.al, B.al, Bool.and_self]⟩
/-- x < y, of data -/
def ltD (a b : α) : Bool := PySem.W.dataLt (ToD.d a) (ToD.d b)
def leD (a b : α) : Bool := !ltD b a
theorem sort_le : PySem.W.dataLe false (ToD.d (α := α)) = leD := rfl
theorem leD_trans (a b c : α) (h1 : leD a b = true) (h2 : leD b c = true) : leD a c = true := (PySem.W.sortLe_total (PyProof.Rows.listOrd PyProof.Rows.itemOrd) false fun b : α => PySem.W.keyToks (ToD.d b)).trans a b c h1 h2
theorem leD_total (a b : α) : (leD a b || leD b a) = true := by
  have := (PySem.W.sortLe_total (PyProof.Rows.listOrd PyProof.Rows.itemOrd) false fun b : α => PySem.W.keyToks (ToD.d b)).total a b
  exact Bool.or_eq_true_iff.mpr this
theorem sortX_ok [F : Flat α k] [A : Alk α] (h : k ≤ 64 := by decide) {l : List α} (ht : (∀ a ∈ l, tup1B (ToD.d a) = true) ∨ ∀ a ∈ l, noTupB (ToD.d a) = true) :
    ∃ r, sortX l = .ok r ∧ r.Perm l ∧ r.Pairwise fun a b => ltD b a = false := by
  refine ⟨l.mergeSort leD, ?_, List.mergeSort_perm _ _, ?_⟩
  · have c1 : alikeB (l.map ToD.d) = true := by
      unfold alikeB
      rw [List.all_eq_true]
      intro d hd
      rw [List.all_eq_true]
      intro e he
      obtain ⟨a, _, rfl⟩ := List.mem_map.mp hd
      obtain ⟨b, _, rfl⟩ := List.mem_map.mp he
      exact A.al a b
    have c2 : sortableB (l.map ToD.d) = true := by
      unfold sortableB
      rw [Bool.or_eq_true_iff, List.all_eq_true, List.all_eq_true]
      rcases ht with ht | ht
      · exact .inl fun d hd => by obtain ⟨a, m, rfl⟩ := List.mem_map.mp hd; exact ht a m
      · exact .inr fun d hd => by obtain ⟨a, m, rfl⟩ := List.mem_map.mp hd; exact ht a m
    unfold sortX
    rw [if_pos ⟨List.all_eq_true.mpr fun a _ => shaped_of h a, c1, c2⟩]
    rfl
  · have := List.pairwise_mergeSort (le := leD (α := α)) leD_trans leD_total l
    exact this.imp fun {a b} q => by
      unfold leD at q
      simpa using q
end
theorem ltD_ints (a b : Tu Int) : ltD a b = decide (Tu.l a < Tu.l b) := by
  show PySem.W.dataLt (.tuple (a.l.map ToD.d)) (.tuple (b.l.map ToD.d)) = _
  rw [PySem.W.dataLt_tuple]
  exact PySem.W.dataLt_ints a.l b.l
theorem ltD_pair {α β : Type} [Rp α] [Rp β] [ToD α] [ToD β] [Alk α] [Alk β] [EqD α] [EqD β] [DecidableEq α] [DecidableEq β] (a b : α × β) : ltD a b = if a.1 = b.1 then (if a.2 = b.2 then false else ltD a.2 b.2) else ltD a.1 b.1 := by
  show PySem.W.dataLt (.tuple [ToD.d a.1, ToD.d a.2]) (.tuple [ToD.d b.1, ToD.d b.2]) = _
  rw [PySem.W.dataLt_pair (Alk.al _ _) (Alk.al _ _)]
  by_cases h1 : a.1 = b.1
  · rw [if_pos ((EqD.eq _ _).mpr h1), if_pos h1]
    by_cases h2 : a.2 = b.2
    · rw [if_pos ((EqD.eq _ _).mpr h2), if_pos h2]
    · rw [if_neg (fun z => h2 ((EqD.eq _ _).mp z)), if_neg h2]; rfl
  · rw [if_neg (fun z => h1 ((EqD.eq _ _).mp z)), if_neg h1]; rfl
/-! lists in strict order -/
section
variable {α : Type} {R : α → α → Prop}
theorem strict_uniq (ir : ∀ a, ¬ R a a) (tr : ∀ a b c, R a b → R b c → R a c) : ∀ {l m : List α}, l.Pairwise R → m.Pairwise R → (∀ a, a ∈ l ↔ a ∈ m) → l = m
  | [], [], _, _, _ => rfl
  | [], b :: m, _, _, h => by have := (h b).mpr (by simp); cases this
  | a :: l, [], _, _, h => by have := (h a).mp (by simp); cases this
  | a :: l, b :: m, hl, hm, h => by
    have hl' := List.pairwise_cons.mp hl
    have hm' := List.pairwise_cons.mp hm
    have e : a = b := by
      rcases List.mem_cons.mp ((h a).mp (by simp)) with e | ma
      · exact e
      · rcases List.mem_cons.mp ((h b).mpr (by simp)) with e | mb
        · exact e.symm
        · exact absurd (tr _ _ _ (hl'.1 b mb) (hm'.1 a ma)) (ir a)
    subst e
    rw [strict_uniq ir tr hl'.2 hm'.2 fun c => ?_]
    constructor
    · intro mc
      rcases List.mem_cons.mp ((h c).mp (by simp [mc])) with e | q
      · subst e; exact absurd (hl'.1 c mc) (ir c)
      · exact q
    · intro mc
      rcases List.mem_cons.mp ((h c).mpr (by simp [mc])) with e | q
      · subst e; exact absurd (hm'.1 c mc) (ir c)
      · exact q
end
theorem lt_scale {c : Int} (hc : 0 < c) : ∀ xs ys : List Int, (xs.map (· * c) < ys.map (· * c)) ↔ xs < ys
  | [], [] => by simp
  | [], _ :: _ => by simp
  | _ :: _, [] => by simp
  | x :: xs, y :: ys => by
    simp only [List.map_cons, List.cons_lt_cons_iff, lt_scale hc xs ys]
    constructor
    · rintro (h | ⟨h1, h2⟩)
      · exact .inl (Int.lt_of_mul_lt_mul_right h (by omega))
      · exact .inr ⟨Int.eq_of_mul_eq_mul_right (show c ≠ 0 by omega) h1, h2⟩
    · rintro (h | ⟨h1, h2⟩)
      · exact .inl (Int.mul_lt_mul_of_pos_right h hc)
      · exact .inr ⟨by rw [h1], h2⟩
end FL
namespace FL
open PySem L2
theorem foldX_pre {γ α : Type} {f : γ → α → Xc γ} {l : List α} {g : γ} (P : List α → γ → Prop) (h : P [] g) (hs : ∀ pre a rest g, l = pre ++ a :: rest → P pre g → ∃ g', f g a = .ok g' ∧ P (pre ++ [a]) g') : ∃ g', foldX f l g = .ok g' ∧ P l g' := by
  have go : ∀ (rest pre : List α) (g : γ), l = pre ++ rest → P pre g → ∃ g', foldX f rest g = .ok g' ∧ P l g' := by
    intro rest
    induction rest with
    | nil => intro pre g e p; exact ⟨g, rfl, by rw [e, List.append_nil]; exact p⟩
    | cons a rest ih =>
      intro pre g e p
      obtain ⟨g1, e1, p1⟩ := hs pre a rest g e p
      obtain ⟨g2, e2, p2⟩ := ih (pre ++ [a]) g1 (by rw [e, List.append_assoc]; rfl) p1
      exact ⟨g2, by show (f g a).bind _ = _; rw [e1]; exact e2, p2⟩
  exact go l [] g rfl h
theorem foldKp {γ α τ : Type} {f : γ → α → Xc γ} {l : List α} {g : γ} {k : γ → Xc τ} {r : Xc τ} (P : List α → γ → Prop) (h : P [] g) (hs : ∀ pre a rest g, l = pre ++ a :: rest → P pre g → ∃ g', f g a = .ok g' ∧ P (pre ++ [a]) g') (hk : ∀ g, P l g → k g = r) : (foldX f l g).bind k = r := by
  obtain ⟨g', e, p⟩ := foldX_pre (f := f) P h hs
  rw [e, bind_ok']
  exact hk g' p
theorem foldEx {γ α τ : Type} {f : γ → α → Xc γ} {l : List α} {g : γ} {k : γ → Xc τ} {Q : τ → Prop} (P : List α → γ → Prop) (h : P [] g) (hs : ∀ pre a rest g, l = pre ++ a :: rest → P pre g → ∃ g', f g a = .ok g' ∧ P (pre ++ [a]) g') (hk : ∀ g, P l g → ∃ r, k g = .ok r ∧ Q r) : ∃ r, (foldX f l g).bind k = .ok r ∧ Q r := by
  obtain ⟨g', e, p⟩ := foldX_pre (f := f) P h hs
  rw [e, bind_ok']
  exact hk g' p
theorem foldEi {γ α τ : Type} {f : γ → α → Xc γ} {l : List α} {g : γ} {k : γ → Xc τ} {Q : τ → Prop} (P : Nat → γ → Prop) (h : P 0 g) (hs : ∀ (i : Nat) g a, l[i]? = some a → P i g → ∃ g', f g a = .ok g' ∧ P (i + 1) g') (hk : ∀ g, P l.length g → ∃ r, k g = .ok r ∧ Q r) : ∃ r, (foldX f l g).bind k = .ok r ∧ Q r := by
  obtain ⟨g', e, p⟩ := foldX_ix (f := f) P h hs
  rw [e, bind_ok']
  exact hk g' p
theorem insX_ok {α : Type} {l : List α} {i : Int} {a : α} (h : l.length < 1000000) (h0 : 0 ≤ i) (h1 : i < 2 ^ 63) : insX l i a = .ok (l.take i.toNat ++ [a] ++ l.drop i.toNat) := by
  have := size_ge
  unfold insX
  rw [if_pos ⟨by omega, h0, h1⟩]
end FL

namespace LW
open PySem L2 FL
def top (i : Nat) : Stmt := PySem.Challenge.pw_leadersets_k21_node_plans_told.main.body.getD i (.Pass ⟨0, 0, 0, 0⟩)
abbrev FnP (K : PySem.W.Frag) (x : Str) (st : Stmt) (f : Addr) (fd : FuncData) : Prop := FunD K x x (defArgs st) (defBody st) (defScope st) [] [] f fd
abbrev Fs_Affine : List Str := [("coefs" : Str), ("constant" : Str), ("bottom" : Str), ("size" : Str)]
abbrev Ty_Affine := Ob "Affine" Fs_Affine ((Tu Int) × Int × Int × Int × Unit)
abbrev Fs_Task : List Str := [("size" : Str), ("replies" : Str), ("cost" : Str), ("rules" : Str), ("aim" : Str), ("rows" : Str)]
abbrev Ty_Task := Ob "Task" Fs_Task (Int × Int × Ty_Affine × (Tu Ty_Affine) × Ty_Affine × (Tu Ty_Affine) × Unit)
abbrev Fs_Plan : List Str := [("size" : Str), ("rows" : Str), ("cost" : Str)]
abbrev Ty_Plan := Ob "Plan" Fs_Plan (Int × (Tu Ty_Affine) × Ty_Affine × Unit)
abbrev Fs_Pairs : List Str := [("task" : Str), ("prices" : Str), ("firsts" : Str), ("seconds" : Str)]
abbrev Ty_Pairs := Ob "Pairs" Fs_Pairs (Ty_Task × (List Ty_Affine) × (List Ty_Affine) × (List Ty_Affine) × Unit)
abbrev Fs_Piece : List Str := [("value" : Str), ("rows" : Str), ("weights" : Str), ("inside" : Str)]
abbrev Ty_Piece := Ob "Piece" Fs_Piece (Ty_Affine × (Tu Ty_Affine) × (Tu ((Tu Int) × Int)) × ((Tu Int) × Int) × Unit)
def mt_Affine___init__ : Stmt := (clsBody (top 13)).getD 0 (.Pass ⟨0, 0, 0, 0⟩)
def mt_Affine_variable : Stmt := (clsBody (top 13)).getD 1 (.Pass ⟨0, 0, 0, 0⟩)
def mt_Affine_from_numbers : Stmt := (clsBody (top 13)).getD 3 (.Pass ⟨0, 0, 0, 0⟩)
def mt_Affine___sub__ : Stmt := (clsBody (top 13)).getD 8 (.Pass ⟨0, 0, 0, 0⟩)
def mt_Affine___neg__ : Stmt := (clsBody (top 13)).getD 9 (.Pass ⟨0, 0, 0, 0⟩)
def mt_Affine_scaled : Stmt := (clsBody (top 13)).getD 12 (.Pass ⟨0, 0, 0, 0⟩)
def mt_Affine_placed : Stmt := (clsBody (top 13)).getD 13 (.Pass ⟨0, 0, 0, 0⟩)
def mt_Affine_head : Stmt := (clsBody (top 13)).getD 15 (.Pass ⟨0, 0, 0, 0⟩)
def mt_Plan___init__ : Stmt := (clsBody (top 18)).getD 2 (.Pass ⟨0, 0, 0, 0⟩)
def mt_Pairs___init__ : Stmt := (clsBody (top 20)).getD 0 (.Pass ⟨0, 0, 0, 0⟩)
def mt_Pairs_plans_at : Stmt := (clsBody (top 20)).getD 1 (.Pass ⟨0, 0, 0, 0⟩)
def mt_Piece___init__ : Stmt := (clsBody (top 24)).getD 0 (.Pass ⟨0, 0, 0, 0⟩)
def mt_Task___init__ : Stmt := (clsBody (top 32)).getD 4 (.Pass ⟨0, 0, 0, 0⟩)
def m_ratio (z : Int × Int × Unit) : Xc (Int × Int) := (if (decide (z.2.1 = (0 : Int))) = true then (Xc.er "BadNumber" []) else (Xc.bind (if (decide (z.2.1 < (0 : Int))) = true then (Xc.ok (z.1, (z.2.1, ((-(gcdI z.1 z.2.1)), ())))) else (Xc.ok (z.1, (z.2.1, ((gcdI z.1 z.2.1), ()))))) fun (g3 : (Int × (Int × (Int × Unit)))) => (Xc.bind (fdvX g3.1 g3.2.2.1) fun t4 => (Xc.bind (fdvX g3.2.1 g3.2.2.1) fun t5 => (Xc.ok (t4, t5))))))
def m_common_divisor_l (z : (List Int) × Int × Unit) : Xc Int := (Xc.bind (foldX (fun (g7 : ((List Int) × (Int × (Int × Unit)))) a8 => (Xc.ok (g7.1, (g7.2.1, ((gcdI g7.2.2.1 a8), ()))))) z.1 (z.1, (z.2.1, ((absI z.2.1), ())))) fun (g10 : ((List Int) × (Int × (Int × Unit)))) => (Xc.ok g10.2.2.1))
def m_common_divisor_u (z : (Tu Int) × Int × Unit) : Xc Int := (Xc.bind (foldX (fun (g12 : ((Tu Int) × (Int × (Int × Unit)))) a13 => (Xc.ok (g12.1, (g12.2.1, ((gcdI g12.2.2.1 a13), ()))))) (Tu.l z.1) (z.1, (z.2.1, ((absI z.2.1), ())))) fun (g15 : ((Tu Int) × (Int × (Int × Unit)))) => (Xc.ok g15.2.2.1))
def m_point_l (z : (List Int) × Int × Unit) : Xc ((Tu Int) × Int) := (if (decide (z.2.1 = (0 : Int))) = true then (Xc.er "BadNumber" []) else (Xc.bind (m_common_divisor_l (z.1, (z.2.1, ()))) fun t17 => (Xc.bind (if (decide (z.2.1 < (0 : Int))) = true then (Xc.ok (z.1, (z.2.1, ((-t17), ())))) else (Xc.ok (z.1, (z.2.1, (t17, ()))))) fun (g19 : ((List Int) × (Int × (Int × Unit)))) => (Xc.bind (Xc.bind (compX (fun a20 => (Xc.ok true)) (fun a20 => (fdvX a20 g19.2.2.1)) g19.1) fun t21 => (Xc.ok (tu t21))) fun t22 => (Xc.bind (fdvX g19.2.1 g19.2.2.1) fun t23 => (Xc.ok (t22, t23)))))))
def m_point_u (z : (Tu Int) × Int × Unit) : Xc ((Tu Int) × Int) := (if (decide (z.2.1 = (0 : Int))) = true then (Xc.er "BadNumber" []) else (Xc.bind (m_common_divisor_u (z.1, (z.2.1, ()))) fun t25 => (Xc.bind (if (decide (z.2.1 < (0 : Int))) = true then (Xc.ok (z.1, (z.2.1, ((-t25), ())))) else (Xc.ok (z.1, (z.2.1, (t25, ()))))) fun (g27 : ((Tu Int) × (Int × (Int × Unit)))) => (Xc.bind (Xc.bind (compX (fun a28 => (Xc.ok true)) (fun a28 => (fdvX a28 g27.2.2.1)) (Tu.l g27.1)) fun t29 => (Xc.ok (tu t29))) fun t30 => (Xc.bind (fdvX g27.2.1 g27.2.2.1) fun t31 => (Xc.ok (t30, t31)))))))
def m_point_of (z : (List (Int × Int)) × Unit) : Xc ((Tu Int) × Int) := (Xc.bind (foldX (fun (g34 : ((List (Int × Int)) × (Int × Unit))) a35 => (Xc.bind (lcmX g34.2.1 a35.2) fun t36 => (Xc.ok (g34.1, (t36, ()))))) z.1 (z.1, ((1 : Int), ()))) fun (g38 : ((List (Int × Int)) × (Int × Unit))) => (Xc.bind (Xc.bind (compX (fun a39 => (Xc.ok true)) (fun a39 => (Xc.bind (fdvX g38.2.1 a39.2) fun t40 => (mulX a39.1 t40))) g38.1) fun t41 => (Xc.ok (t41, (g38.2.1, ())))) fun t42 => (m_point_l t42)))
def m_Affine___init___l (z : (List Int) × Int × Int × Unit) : Xc ((Tu Int) × Int × Int × Int × Unit) := (Xc.bind (if (decide (z.2.2.1 = (0 : Int))) = true then (Xc.er "BadNumber" []) else (Xc.ok ((), (z.1, (z.2.1, (z.2.2.1, ())))))) fun (g44 : ((Unit) × ((List Int) × (Int × (Int × Unit))))) => (Xc.bind (m_common_divisor_l (g44.2.1, ((gcdI g44.2.2.1 g44.2.2.2.1), ()))) fun t45 => (Xc.bind (if (decide (g44.2.2.2.1 < (0 : Int))) = true then (Xc.ok (g44.1, (g44.2.1, (g44.2.2.1, (g44.2.2.2.1, ((-t45), ())))))) else (Xc.ok (g44.1, (g44.2.1, (g44.2.2.1, (g44.2.2.2.1, (t45, ()))))))) fun (g47 : ((Unit) × ((List Int) × (Int × (Int × (Int × Unit)))))) => (Xc.bind (Xc.bind (compX (fun a48 => (Xc.ok true)) (fun a48 => (fdvX a48 g47.2.2.2.2.1)) g47.2.1) fun t49 => (Xc.ok (tu t49))) fun t50 => (Xc.bind (fdvX g47.2.2.1 g47.2.2.2.2.1) fun t51 => (Xc.bind (fdvX g47.2.2.2.1 g47.2.2.2.2.1) fun t52 => (Xc.ok (t50, (t51, (t52, (((HasLen.len t50 : Nat) : Int), ())))))))))))
def m_Affine___init___u (z : (Tu Int) × Int × Int × Unit) : Xc ((Tu Int) × Int × Int × Int × Unit) := (Xc.bind (if (decide (z.2.2.1 = (0 : Int))) = true then (Xc.er "BadNumber" []) else (Xc.ok ((), (z.1, (z.2.1, (z.2.2.1, ())))))) fun (g54 : ((Unit) × ((Tu Int) × (Int × (Int × Unit))))) => (Xc.bind (m_common_divisor_u (g54.2.1, ((gcdI g54.2.2.1 g54.2.2.2.1), ()))) fun t55 => (Xc.bind (if (decide (g54.2.2.2.1 < (0 : Int))) = true then (Xc.ok (g54.1, (g54.2.1, (g54.2.2.1, (g54.2.2.2.1, ((-t55), ())))))) else (Xc.ok (g54.1, (g54.2.1, (g54.2.2.1, (g54.2.2.2.1, (t55, ()))))))) fun (g57 : ((Unit) × ((Tu Int) × (Int × (Int × (Int × Unit)))))) => (Xc.bind (Xc.bind (compX (fun a58 => (Xc.ok true)) (fun a58 => (fdvX a58 g57.2.2.2.2.1)) (Tu.l g57.2.1)) fun t59 => (Xc.ok (tu t59))) fun t60 => (Xc.bind (fdvX g57.2.2.1 g57.2.2.2.2.1) fun t61 => (Xc.bind (fdvX g57.2.2.2.1 g57.2.2.2.2.1) fun t62 => (Xc.ok (t60, (t61, (t62, (((HasLen.len t60 : Nat) : Int), ())))))))))))
def m_Affine_variable (z : Int × Int × Unit) : Xc Ty_Affine := (Xc.bind (Xc.bind (Xc.bind (rngX 0 z.1) fun t64 => (compX (fun a63 => (Xc.ok true)) (fun a63 => (Xc.ok (if (decide (a63 = z.2.1)) = true then (1 : Int) else 0))) t64)) fun t65 => (Xc.ok (t65, ((0 : Int), ())))) fun t66 => (Xc.bind (m_Affine___init___l (t66.1, (t66.2.1, ((1 : Int), ())))) fun t67 => (Xc.ok (⟨t67⟩ : Ty_Affine))))
def m_Affine_from_numbers (z : (List (Int × Int)) × (Int × Int) × Unit) : Xc Ty_Affine := (Xc.bind (Xc.bind (Xc.bind (Xc.bind (szX (z.2.1 :: ([] : List (Int × Int)))) fun t68 => (catL z.1 t68)) fun t69 => (Xc.ok (t69, ()))) fun t70 => (m_point_of t70)) fun t71 => (Xc.bind (Xc.bind (Xc.bind (getX (Tu.l t71.1) (-(1 : Int))) fun t72 => (Xc.ok (t72, (t71.2, ())))) fun t73 => (Xc.ok ((tu (cutL (Tu.l t71.1) none (some (-(1 : Int))))), t73))) fun t74 => (Xc.bind (m_Affine___init___u t74) fun t75 => (Xc.ok (⟨t75⟩ : Ty_Affine)))))
def m_Affine___sub__ (z : Ty_Affine × Ty_Affine × Unit) : Xc Ty_Affine := (if (!true) = true then Xc.no else (Xc.bind (lcmX z.1.v.2.2.1 z.2.1.v.2.2.1) fun t77 => (Xc.bind (fdvX t77 z.1.v.2.2.1) fun t78 => (Xc.bind (fdvX t77 z.2.1.v.2.2.1) fun t79 => (Xc.bind (compX (fun a80 => (Xc.ok true)) (fun a80 => (Xc.bind (mulX t78 a80.1) fun t81 => (Xc.bind (mulX t79 a80.2) fun t82 => (Xc.ok (t81 - t82))))) (List.zip (Tu.l z.1.v.1) (Tu.l z.2.1.v.1))) fun t83 => (Xc.bind (Xc.bind (Xc.bind (Xc.bind (mulX t78 z.1.v.2.1) fun t84 => (Xc.bind (mulX t79 z.2.1.v.2.1) fun t85 => (Xc.ok (t84 - t85)))) fun t86 => (Xc.ok (t86, (t77, ())))) fun t87 => (Xc.ok (t83, t87))) fun t88 => (Xc.bind (m_Affine___init___l t88) fun t89 => (Xc.ok (⟨t89⟩ : Ty_Affine)))))))))
def m_Affine___neg__ (z : Ty_Affine × Unit) : Xc Ty_Affine := (Xc.bind (Xc.bind (compX (fun a90 => (Xc.ok true)) (fun a90 => (Xc.ok (-a90))) (Tu.l z.1.v.1)) fun t91 => (Xc.ok (t91, ((-z.1.v.2.1), (z.1.v.2.2.1, ()))))) fun t92 => (Xc.bind (m_Affine___init___l t92) fun t93 => (Xc.ok (⟨t93⟩ : Ty_Affine))))
def m_Affine_scaled (z : Ty_Affine × (Int × Int) × Unit) : Xc Ty_Affine := (Xc.bind (compX (fun a94 => (Xc.ok true)) (fun a94 => (mulX z.2.1.1 a94)) (Tu.l z.1.v.1)) fun t95 => (Xc.bind (Xc.bind (Xc.bind (mulX z.2.1.1 z.1.v.2.1) fun t97 => (Xc.bind (Xc.bind (mulX z.2.1.2 z.1.v.2.2.1) fun t96 => (Xc.ok (t96, ()))) fun t98 => (Xc.ok (t97, t98)))) fun t99 => (Xc.ok (t95, t99))) fun t100 => (Xc.bind (m_Affine___init___l t100) fun t101 => (Xc.ok (⟨t101⟩ : Ty_Affine)))))
def m_Affine_placed (z : Ty_Affine × Int × Int × Unit) : Xc Ty_Affine := (Xc.bind (Xc.bind (Xc.bind (Xc.bind (szX ((0 : Int) :: ([] : List Int))) fun t102 => (repX t102 z.2.2.1)) fun t103 => (catL t103 (Tu.l z.1.v.1))) fun t105 => (Xc.bind (Xc.bind (szX ((0 : Int) :: ([] : List Int))) fun t104 => (repX t104 ((z.2.1 - z.2.2.1) - z.1.v.2.2.2.1))) fun t106 => (catL t105 t106))) fun t107 => (Xc.bind (m_Affine___init___l (t107, (z.1.v.2.1, (z.1.v.2.2.1, ())))) fun t108 => (Xc.ok (⟨t108⟩ : Ty_Affine))))
def m_Affine_head (z : Ty_Affine × Int × Unit) : Xc Ty_Affine := (Xc.bind (m_Affine___init___u ((tu (cutL (Tu.l z.1.v.1) none (some z.2.1))), (z.1.v.2.1, (z.1.v.2.2.1, ())))) fun t109 => (Xc.ok (⟨t109⟩ : Ty_Affine)))
def m_weight_rows (z : Ty_Task × Unit) : Xc (List Ty_Affine) := (Xc.bind (Xc.bind (rngX z.1.v.1 (z.1.v.1 + z.1.v.2.1)) fun t137 => (foldX (fun (g122 : (Ty_Task × (List Ty_Affine × Unit))) a123 => (Xc.bind (compX (fun a124 => (Xc.ok true)) (fun a124 => (Xc.bind (Xc.bind (getX (Tu.l a124.v.1) a123) fun t125 => (Xc.ok (-t125))) fun t126 => (Xc.ok (t126, a124.v.2.2.1)))) (Tu.l g122.1.v.2.2.2.2.2.1)) fun t127 => (Xc.bind (Xc.bind (Xc.bind (Xc.bind (Xc.bind (getX (Tu.l g122.1.v.2.2.2.2.1.v.1) a123) fun t128 => (Xc.ok (t128, g122.1.v.2.2.2.2.1.v.2.2.1))) fun t129 => (Xc.ok (t129, ()))) fun t130 => (Xc.ok (t127, t130))) fun t131 => (m_Affine_from_numbers t131)) fun t133 => (Xc.bind (appX g122.2.1 t133) fun t134 => (Xc.ok (g122.1, (t134, ()))))))) t137 (z.1, (([] : List Ty_Affine), ())))) fun (g136 : (Ty_Task × (List Ty_Affine × Unit))) => (Xc.ok g136.2.1))
def m_value_of (z : Ty_Task × ((Tu Int) × Int) × Unit) : Xc Ty_Affine := (Xc.bind (m_Affine_head (z.1.v.2.2.2.2.1, (z.1.v.1, ()))) fun t138 => (Xc.bind (foldX (fun (g143 : (Ty_Task × (((Tu Int) × Int) × (Ty_Affine × Unit)))) a144 => (Xc.bind (Xc.bind (Xc.bind (m_Affine_head (a144.1, (g143.1.v.1, ()))) fun t145 => (m_Affine_scaled (t145, ((a144.2, g143.2.1.2), ())))) fun t146 => (m_Affine___sub__ (g143.2.2.1, (t146, ())))) fun t147 => (Xc.ok (g143.1, (g143.2.1, (t147, ())))))) (List.zip (Tu.l z.1.v.2.2.2.2.2.1) (Tu.l z.2.1.1)) (z.1, (z.2.1, (t138, ())))) fun (g149 : (Ty_Task × (((Tu Int) × Int) × (Ty_Affine × Unit)))) => (Xc.ok g149.2.2.1)))
def m_Plan___init__ (z : Int × (List Ty_Affine) × Ty_Affine × Unit) : Xc (Int × (Tu Ty_Affine) × Ty_Affine × Unit) := (Xc.bind (Xc.bind (Xc.bind (if (1 : Int) ≤ z.1 then (Xc.ok (decide (z.1 ≤ (20 : Int)))) else Xc.ok false) fun t150 => (Xc.ok (!t150))) fun t152 => (if t152 = true then Xc.no else (Xc.ok ((), (z.1, (z.2.1, (z.2.2.1, ()))))))) fun (g153 : ((Unit) × (Int × ((List Ty_Affine) × (Ty_Affine × Unit))))) => (Xc.bind (Xc.bind (if (decide ((60 : Int) < ((HasLen.len g153.2.2.1 : Nat) : Int))) = true then Xc.ok true else (Xc.bind (compX (fun a154 => (Xc.ok true)) (fun a154 => (Xc.ok (!decide (a154.v.2.2.2.1 = g153.2.1)))) g153.2.2.1) fun t155 => (Xc.ok (List.any t155 id)))) fun t157 => (if t157 = true then Xc.no else (Xc.ok (g153.1, (g153.2.1, (g153.2.2.1, (g153.2.2.2.1, ()))))))) fun (g158 : ((Unit) × (Int × ((List Ty_Affine) × (Ty_Affine × Unit))))) => (Xc.bind (if (!decide (g158.2.2.2.1.v.2.2.2.1 = g158.2.1)) = true then Xc.no else (Xc.ok (g158.1, (g158.2.1, (g158.2.2.1, (g158.2.2.2.1, ())))))) fun (g160 : ((Unit) × (Int × ((List Ty_Affine) × (Ty_Affine × Unit))))) => (Xc.ok (g160.2.1, ((tu g160.2.2.1), (g160.2.2.2.1, ())))))))
def m_Pairs___init__ (z : Ty_Task × Unit) : Xc (Ty_Task × (List Ty_Affine) × (List Ty_Affine) × (List Ty_Affine) × Unit) := (let vmany_161 : Int := ((HasLen.len z.1.v.2.2.2.2.2.1 : Nat) : Int); (Xc.bind (m_weight_rows (z.1, ())) fun t162 => (Xc.bind (Xc.bind (Xc.bind (rngX z.1.v.1 (z.1.v.1 + z.1.v.2.1)) fun t164 => (compX (fun a163 => (Xc.ok true)) (fun a163 => (m_Affine_variable ((z.1.v.1 + z.1.v.2.1), (a163, ())))) t164)) fun t165 => (catL (Tu.l z.1.v.2.2.2.2.2.1) t165)) fun t166 => (Xc.bind (Xc.bind (Xc.bind (rngX 0 vmany_161) fun t168 => (compX (fun a167 => (Xc.ok true)) (fun a167 => (m_Affine_variable (vmany_161, (a167, ())))) t168)) fun t169 => (catL t169 t162)) fun t170 => (Xc.ok (z.1, (t162, (t166, (t170, ())))))))))
def m_Pairs_plans_at (z : Ty_Pairs × (List (Option Str)) × Unit) : Xc (Ty_Plan × Ty_Plan) := (let vmany_171 : Int := ((HasLen.len z.1.v.1.v.2.2.2.2.2.1 : Nat) : Int); (Xc.bind (Xc.bind (rngX 0 ((HasLen.len z.2.1 : Nat) : Int)) fun t175 => (compX (fun a172 => (Xc.bind (getX z.2.1 a172) fun t173 => (eqdX t173 (some ("task" : Str))))) (fun a172 => (Xc.bind (getX z.1.v.2.2.1 a172) fun t174 => (m_Affine___neg__ (t174, ())))) t175)) fun t176 => (Xc.bind (Xc.bind (rngX 0 ((HasLen.len z.2.1 : Nat) : Int)) fun t180 => (compX (fun a177 => (Xc.bind (getX z.2.1 a177) fun t178 => (eqdX t178 (some ("price" : Str))))) (fun a177 => (Xc.bind (getX z.1.v.2.2.2.1 a177) fun t179 => (m_Affine___neg__ (t179, ())))) t180)) fun t181 => (Xc.bind (Xc.bind (Xc.bind (Xc.bind (Xc.bind (catL (Tu.l z.1.v.1.v.2.2.2.1) (Tu.l z.1.v.1.v.2.2.2.2.2.1)) fun t182 => (catL t182 t176)) fun t183 => (Xc.ok (t183, (z.1.v.1.v.2.2.1, ())))) fun t184 => (Xc.ok ((z.1.v.1.v.1 + z.1.v.1.v.2.1), t184))) fun t185 => (Xc.bind (m_Plan___init__ t185) fun t186 => (Xc.ok (⟨t186⟩ : Ty_Plan)))) fun t187 => (Xc.bind (Xc.bind (Xc.bind (Xc.bind (catL z.1.v.2.1 t181) fun t193 => (Xc.bind (Xc.bind (Xc.bind (Xc.bind (Xc.bind (szX ((0 : Int) :: ([] : List Int))) fun t188 => (repX t188 vmany_171)) fun t189 => (Xc.ok (t189, ((0 : Int), ())))) fun t190 => (Xc.bind (m_Affine___init___l (t190.1, (t190.2.1, ((1 : Int), ())))) fun t191 => (Xc.ok (⟨t191⟩ : Ty_Affine)))) fun t192 => (Xc.ok (t192, ()))) fun t194 => (Xc.ok (t193, t194)))) fun t195 => (Xc.ok (vmany_171, t195))) fun t196 => (Xc.bind (m_Plan___init__ t196) fun t197 => (Xc.ok (⟨t197⟩ : Ty_Plan)))) fun t198 => (Xc.ok (t187, t198)))))))
def m_pair_functions (z : Ty_Task × Unit) : Xc (List (Ty_Affine × Ty_Affine)) := (Xc.bind (Xc.bind (m_Pairs___init__ (z.1, ())) fun t199 => (Xc.ok (⟨t199⟩ : Ty_Pairs))) fun t200 => (Xc.ok (List.zip t200.v.2.2.1 t200.v.2.2.2.1)))
def m_node_plans (z : Ty_Task × (List (Option Str)) × Unit) : Xc (Ty_Plan × Ty_Plan) := (Xc.bind (Xc.bind (m_Pairs___init__ (z.1, ())) fun t201 => (Xc.ok (⟨t201⟩ : Ty_Pairs))) fun t202 => (m_Pairs_plans_at (t202, (z.2.1, ()))))
def m_Piece___init__ (z : Ty_Affine × (List Ty_Affine) × (List ((Tu Int) × Int)) × ((Tu Int) × Int) × Unit) : Xc (Ty_Affine × (Tu Ty_Affine) × (Tu ((Tu Int) × Int)) × ((Tu Int) × Int) × Unit) := (Xc.ok (z.1, ((tu z.2.1), ((tu z.2.2.1), (z.2.2.2.1, ())))))
def m__answer_plan_l (z : Ty_Task × Ty_Affine × (List Ty_Affine) × Unit) : Xc Ty_Plan := (Xc.bind (Xc.bind (catL (Tu.l z.1.v.2.2.2.1) (Tu.l z.1.v.2.2.2.2.2.1)) fun t204 => (Xc.bind (compX (fun a203 => (Xc.ok true)) (fun a203 => (m_Affine_placed (a203, ((z.1.v.1 + z.1.v.2.1), ((0 : Int), ()))))) z.2.2.1) fun t205 => (catL t204 t205))) fun t206 => (Xc.bind (Xc.bind (Xc.bind (Xc.bind (Xc.bind (Xc.bind (Xc.bind (m_Affine_placed (z.2.1, ((z.1.v.1 + z.1.v.2.1), ((0 : Int), ())))) fun t207 => (m_Affine___sub__ (t207, (z.1.v.2.2.2.2.1, ())))) fun t208 => (Xc.ok (t208 :: ([] : List Ty_Affine)))) fun t209 => (szX t209)) fun t210 => (catL t206 t210)) fun t211 => (Xc.ok (t211, (z.1.v.2.2.1, ())))) fun t212 => (Xc.ok ((z.1.v.1 + z.1.v.2.1), t212))) fun t213 => (Xc.bind (m_Plan___init__ t213) fun t214 => (Xc.ok (⟨t214⟩ : Ty_Plan)))))
def m__answer_plan_u (z : Ty_Task × Ty_Affine × (Tu Ty_Affine) × Unit) : Xc Ty_Plan := (Xc.bind (Xc.bind (catL (Tu.l z.1.v.2.2.2.1) (Tu.l z.1.v.2.2.2.2.2.1)) fun t216 => (Xc.bind (compX (fun a215 => (Xc.ok true)) (fun a215 => (m_Affine_placed (a215, ((z.1.v.1 + z.1.v.2.1), ((0 : Int), ()))))) (Tu.l z.2.2.1)) fun t217 => (catL t216 t217))) fun t218 => (Xc.bind (Xc.bind (Xc.bind (Xc.bind (Xc.bind (Xc.bind (Xc.bind (m_Affine_placed (z.2.1, ((z.1.v.1 + z.1.v.2.1), ((0 : Int), ())))) fun t219 => (m_Affine___sub__ (t219, (z.1.v.2.2.2.2.1, ())))) fun t220 => (Xc.ok (t220 :: ([] : List Ty_Affine)))) fun t221 => (szX t221)) fun t222 => (catL t218 t222)) fun t223 => (Xc.ok (t223, (z.1.v.2.2.1, ())))) fun t224 => (Xc.ok ((z.1.v.1 + z.1.v.2.1), t224))) fun t225 => (Xc.bind (m_Plan___init__ t225) fun t226 => (Xc.ok (⟨t226⟩ : Ty_Plan)))))
def m_kind_plan (z : Ty_Task × ((Tu Int) × Int) × Unit) : Xc Ty_Plan := (Xc.bind (Xc.bind (Xc.bind (m_value_of (z.1, (z.2.1, ()))) fun t227 => (Xc.ok (t227, (([] : List Ty_Affine), ())))) fun t228 => (Xc.ok (z.1, t228))) fun t229 => (m__answer_plan_l t229))
def m_piece_plan (z : Ty_Task × Ty_Piece × Unit) : Xc Ty_Plan := (m__answer_plan_u (z.1, (z.2.1.v.1, (z.2.1.v.2.1, ()))))
def m__check (z : Str × Bool × Unit) : Xc Unit := (if (!z.2.1) = true then Xc.no else (Xc.ok ()))
def m__all_fit (z : (List Ty_Affine) × Int × Unit) : Xc Bool := (Xc.bind (compX (fun a231 => (Xc.ok true)) (fun a231 => (Xc.ok (decide (a231.v.2.2.2.1 = z.2.1)))) z.1) fun t232 => (Xc.ok (List.all t232 id)))
def m_Task___init__ (z : Int × Int × Ty_Affine × (List Ty_Affine) × Ty_Affine × (List Ty_Affine) × Unit) : Xc (Int × Int × Ty_Affine × (Tu Ty_Affine) × Ty_Affine × (Tu Ty_Affine) × Unit) := (Xc.bind (Xc.bind (Xc.bind (Xc.bind (if (1 : Int) ≤ z.1 then (Xc.ok (decide (z.1 ≤ (3 : Int)))) else Xc.ok false) fun t233 => (Xc.ok (t233, ()))) fun t234 => (Xc.ok (("size" : Str), t234))) fun t235 => (m__check t235)) fun t236 => (Xc.bind (Xc.bind (Xc.bind (Xc.bind (if (1 : Int) ≤ z.2.1 then (Xc.ok (decide (z.2.1 ≤ (3 : Int)))) else Xc.ok false) fun t237 => (Xc.ok (t237, ()))) fun t238 => (Xc.ok (("replies" : Str), t238))) fun t239 => (m__check t239)) fun t240 => (Xc.bind (m__check (("cost" : Str), ((decide (z.2.2.1.v.2.2.2.1 = (z.1 + z.2.1))), ()))) fun t241 => (Xc.bind (Xc.bind (Xc.bind (Xc.bind (if (decide (((HasLen.len z.2.2.2.1 : Nat) : Int) ≤ (4 : Int))) = true then (m__all_fit (z.2.2.2.1, ((z.1 + z.2.1), ()))) else Xc.ok false) fun t242 => (Xc.ok (t242, ()))) fun t243 => (Xc.ok (("rules" : Str), t243))) fun t244 => (m__check t244)) fun t245 => (Xc.bind (m__check (("aim" : Str), ((decide (z.2.2.2.2.1.v.2.2.2.1 = (z.1 + z.2.1))), ()))) fun t246 => (Xc.bind (Xc.bind (Xc.bind (Xc.bind (Xc.bind (if (1 : Int) ≤ ((HasLen.len z.2.2.2.2.2.1 : Nat) : Int) then (Xc.ok (decide (((HasLen.len z.2.2.2.2.2.1 : Nat) : Int) ≤ (4 : Int)))) else Xc.ok false) fun t247 => (if t247 = true then (m__all_fit (z.2.2.2.2.2.1, ((z.1 + z.2.1), ()))) else Xc.ok false)) fun t248 => (Xc.ok (t248, ()))) fun t249 => (Xc.ok (("rows" : Str), t249))) fun t250 => (m__check t250)) fun t251 => (Xc.ok (z.1, (z.2.1, (z.2.2.1, ((tu z.2.2.2.1), (z.2.2.2.2.1, ((tu z.2.2.2.2.2.1), ())))))))))))))
def m__law_draws (z : (List Int) × Int × Unit) : Xc (List Int) := (Xc.bind (foldX (fun (g361 : ((List Int) × (Int × (List Int × Unit)))) a362 => (Xc.bind (Xc.bind (Xc.bind (powX (10 : Int) (18 : Int)) fun t363 => (Xc.ok (decide (t363 ≤ a362)))) fun t469 => (if t469 = true then (Xc.bind (Xc.bind (rngX 0 (60 : Int)) fun t443 => (foldX (fun (g428 : ((List Int) × (Int × (List Int × (Int × (Int × Unit)))))) a429 => (Xc.bind (Xc.bind (if (decide ((0 : Int) < g428.2.2.2.2.1)) = true then (Xc.ok (decide (((HasLen.len g428.2.2.1 : Nat) : Int) < g428.2.1))) else Xc.ok false) fun t439 => (if t439 = true then (Xc.bind (modX g428.2.2.2.2.1 (1000 : Int)) fun t435 => (Xc.bind (appX g428.2.2.1 t435) fun t436 => (Xc.bind (fdvX g428.2.2.2.2.1 (1000 : Int)) fun t437 => (Xc.ok (g428.1, (g428.2.1, (t436, (g428.2.2.2.1, (t437, (a429, ())))))))))) else (Xc.ok (g428.1, (g428.2.1, (g428.2.2.1, (g428.2.2.2.1, (g428.2.2.2.2.1, (a429, ()))))))))) fun (g440 : ((List Int) × (Int × (List Int × (Int × (Int × (Int × Unit))))))) => (Xc.ok (g440.1, (g440.2.1, (g440.2.2.1, (g440.2.2.2.1, (g440.2.2.2.2.1, ())))))))) t443 (g361.1, (g361.2.1, (g361.2.2.1, (a362, (a362, ()))))))) fun (g442 : ((List Int) × (Int × (List Int × (Int × (Int × Unit)))))) => (Xc.ok (g442.1, (g442.2.1, (g442.2.2.1, (g442.2.2.2.1, (g442.2.2.2.2.1, ()))))))) else (Xc.bind (if (decide (((HasLen.len g361.2.2.1 : Nat) : Int) < g361.2.1)) = true then (Xc.bind (Xc.bind (Xc.bind (Xc.bind (Xc.bind (Xc.bind (Xc.bind (Xc.bind (Xc.bind (mulX a362 (48271 : Int)) fun t455 => (Xc.ok (t455 + (11 : Int)))) fun t456 => (Xc.ok t456)) fun t457 => (modX t457 (65537 : Int))) fun t458 => (mulX t458 (31 : Int))) fun t459 => (Xc.ok (t459 + (7 : Int)))) fun t460 => (Xc.ok t460)) fun t461 => (modX t461 (1009 : Int))) fun t462 => (modX t462 (1000 : Int))) fun t464 => (Xc.bind (appX g361.2.2.1 t464) fun t465 => (Xc.ok (g361.1, (g361.2.1, (t465, (a362, (a362, ())))))))) else (Xc.ok (g361.1, (g361.2.1, (g361.2.2.1, (a362, (a362, ()))))))) fun (g467 : ((List Int) × (Int × (List Int × (Int × (Int × Unit)))))) => (Xc.ok (g467.1, (g467.2.1, (g467.2.2.1, (g467.2.2.2.1, (g467.2.2.2.2.1, ()))))))))) fun (g470 : ((List Int) × (Int × (List Int × (Int × (Int × Unit)))))) => (Xc.ok (g470.1, (g470.2.1, (g470.2.2.1, ())))))) z.1 (z.1, (z.2.1, (([] : List Int), ())))) fun (g472 : ((List Int) × (Int × (List Int × Unit)))) => (let vseed_473 : Int := ((7 : Int) + ((HasLen.len g472.1 : Nat) : Int)); (Xc.bind (foldX (fun (g479 : ((List Int) × (Int × (List Int × (Int × Unit))))) a480 => (Xc.bind (Xc.bind (Xc.bind (Xc.bind (mulX g479.2.2.2.1 (31 : Int)) fun t481 => (Xc.ok (t481 + a480))) fun t482 => (Xc.ok t482)) fun t483 => (modX t483 (1000003 : Int))) fun t484 => (Xc.ok (g479.1, (g479.2.1, (g479.2.2.1, (t484, ()))))))) g472.1 (g472.1, (g472.2.1, (g472.2.2.1, (vseed_473, ()))))) fun (g486 : ((List Int) × (Int × (List Int × (Int × Unit))))) => (Xc.bind (Xc.bind (rngX 0 g486.2.1) fun t528 => (foldX (fun (g506 : ((List Int) × (Int × (List Int × (Int × Unit))))) a507 => (Xc.bind (if (decide (((HasLen.len g506.2.2.1 : Nat) : Int) < g506.2.1)) = true then (Xc.bind (Xc.bind (Xc.bind (Xc.bind (mulX g506.2.2.2.1 (48271 : Int)) fun t516 => (Xc.ok (t516 + (69621 : Int)))) fun t517 => (Xc.ok t517)) fun t518 => (modX t518 (2147483647 : Int))) fun t519 => (Xc.bind (Xc.bind (fdvX t519 (1000 : Int)) fun t520 => (modX t520 (1000 : Int))) fun t522 => (Xc.bind (appX g506.2.2.1 t522) fun t523 => (Xc.ok (g506.1, (g506.2.1, (t523, (a507, (t519, ()))))))))) else (Xc.ok (g506.1, (g506.2.1, (g506.2.2.1, (a507, (g506.2.2.2.1, ()))))))) fun (g525 : ((List Int) × (Int × (List Int × (Int × (Int × Unit)))))) => (Xc.ok (g525.1, (g525.2.1, (g525.2.2.1, (g525.2.2.2.2.1, ()))))))) t528 (g486.1, (g486.2.1, (g486.2.2.1, (g486.2.2.2.1, ())))))) fun (g527 : ((List Int) × (Int × (List Int × (Int × Unit))))) => (Xc.ok g527.2.2.1)))))
def m__law_gcd (z : Int × Int × Unit) : Xc Int := (Xc.bind (Xc.bind (Xc.bind (mulX (2 : Int) ((Builtin.Int.intBits (absI z.2.1) : Nat) : Int)) fun t535 => (Xc.ok (t535 + (2 : Int)))) fun t536 => (rngX 0 t536)) fun t541 => (forK (forX (fun (g534 : (Int × (Int × Unit))) a537 => (if (decide (g534.2.1 = (0 : Int))) = true then (Xc.ok (Lp.rt g534.1)) else (Xc.bind (modX g534.1 g534.2.1) fun t539 => (Xc.ok (Lp.ct (g534.2.1, (t539, ()))))))) t541 ((absI z.1), ((absI z.2.1), ()))) id fun (g540 : (Int × (Int × Unit))) => (Xc.ok g540.1)))
def m__law_lowest (z : (List Int) × Unit) : Xc (List Int) := (Xc.bind (foldX (fun (g544 : ((List Int) × (Int × Unit))) a545 => (Xc.bind (m__law_gcd (g544.2.1, (a545, ()))) fun t546 => (Xc.ok (g544.1, (t546, ()))))) z.1 (z.1, ((0 : Int), ()))) fun (g548 : ((List Int) × (Int × Unit))) => (if (decide (g548.2.1 = (0 : Int))) = true then (Xc.ok g548.1) else (compX (fun a550 => (Xc.ok true)) (fun a550 => (fdvX a550 g548.2.1)) g548.1)))
def m__law_is_integer (z : Int × Unit) : Xc Bool := (Xc.bind (isiX (HasTy.ty z.1) "int") fun t552 => (if t552 = true then (Xc.bind (isiX (HasTy.ty z.1) "bool") fun t551 => (Xc.ok (!t551))) else Xc.ok false))
def m__law_same (z : Ty_Affine × (List Int) × Unit) : Xc Bool := (Xc.bind (if (!true) = true then Xc.ok true else (Xc.bind (isiX (HasTy.ty z.1.v.1) "tuple") fun t553 => (Xc.ok (!t553)))) fun t569 => (if t569 = true then (Xc.ok false) else (Xc.bind (Xc.bind (szX (z.1.v.2.1 :: (z.1.v.2.2.1 :: ([] : List Int)))) fun t555 => (catL (Tu.l z.1.v.1) t555)) fun t556 => (Xc.bind (m__law_lowest (z.2.1, ())) fun t557 => (if (!decide (((HasLen.len t556 : Nat) : Int) = ((HasLen.len t557 : Nat) : Int))) = true then (Xc.ok false) else (Xc.bind (Xc.bind (Xc.bind (rngX 0 ((HasLen.len t557 : Nat) : Int)) fun t566 => (compX (fun a559 => (Xc.bind (Xc.bind (Xc.bind (Xc.bind (getX t556 a559) fun t560 => (Xc.ok (t560, ()))) fun t561 => (m__law_is_integer t561)) fun t562 => (Xc.ok (!t562))) fun t565 => (if t565 = true then Xc.ok true else (Xc.bind (getX t556 a559) fun t563 => (Xc.bind (getX t557 a559) fun t564 => (Xc.ok (!decide (t563 = t564)))))))) (fun a559 => (Xc.ok a559)) t566)) fun t567 => (Xc.ok ((HasLen.len t567 : Nat) : Int))) fun t568 => (Xc.ok (decide (t568 = (0 : Int))))))))))
def m__law_tuple_same (z : (Tu Ty_Affine) × (List (List Int)) × Unit) : Xc Bool := (Xc.bind (Xc.bind (Xc.bind (isiX (HasTy.ty z.1) "tuple") fun t570 => (Xc.ok (!t570))) fun t571 => (if t571 = true then Xc.ok true else (Xc.ok (!decide (((HasLen.len z.1 : Nat) : Int) = ((HasLen.len z.2.1 : Nat) : Int)))))) fun t582 => (if t582 = true then (Xc.ok false) else (Xc.bind (Xc.bind (Xc.bind (rngX 0 ((HasLen.len z.2.1 : Nat) : Int)) fun t579 => (compX (fun a573 => (Xc.bind (Xc.bind (Xc.bind (getX (Tu.l z.1) a573) fun t575 => (Xc.bind (Xc.bind (getX z.2.1 a573) fun t574 => (Xc.ok (t574, ()))) fun t576 => (Xc.ok (t575, t576)))) fun t577 => (m__law_same t577)) fun t578 => (Xc.ok (!t578)))) (fun a573 => (Xc.ok a573)) t579)) fun t580 => (Xc.ok ((HasLen.len t580 : Nat) : Int))) fun t581 => (Xc.ok (decide (t581 = (0 : Int)))))))
def m__law_prices (z : Int × (List Int) × (List (List Int)) × Unit) : Xc (List (List Int)) := (Xc.bind (getX z.2.1 (-(1 : Int))) fun t583 => (Xc.bind (foldX (fun (g587 : (Int × ((List Int) × ((List (List Int)) × (Int × Unit))))) a588 => (Xc.bind (Xc.bind (getX a588 (-(1 : Int))) fun t589 => (mulX g587.2.2.2.1 t589)) fun t590 => (Xc.ok (g587.1, (g587.2.1, (g587.2.2.1, (t590, ()))))))) z.2.2.1 (z.1, (z.2.1, (z.2.2.1, (t583, ()))))) fun (g592 : (Int × ((List Int) × ((List (List Int)) × (Int × Unit))))) => (Xc.bind (Xc.bind (rngX g592.1 (((HasLen.len g592.2.1 : Nat) : Int) - (2 : Int))) fun t628 => (foldX (fun (g609 : (Int × ((List Int) × ((List (List Int)) × (Int × (List (List Int) × Unit)))))) a610 => (Xc.bind (compX (fun a611 => (Xc.ok true)) (fun a611 => (Xc.bind (Xc.bind (getX a611 a610) fun t612 => (Xc.ok (-t612))) fun t614 => (Xc.bind (Xc.bind (getX a611 (-(1 : Int))) fun t613 => (fdvX g609.2.2.2.1 t613)) fun t615 => (mulX t614 t615)))) g609.2.2.1) fun t616 => (Xc.bind (Xc.bind (Xc.bind (Xc.bind (Xc.bind (getX g609.2.1 a610) fun t618 => (Xc.bind (Xc.bind (getX g609.2.1 (-(1 : Int))) fun t617 => (fdvX g609.2.2.2.1 t617)) fun t619 => (mulX t618 t619))) fun t620 => (Xc.ok (t620 :: (g609.2.2.2.1 :: ([] : List Int))))) fun t621 => (szX t621)) fun t622 => (catL t616 t622)) fun t624 => (Xc.bind (appX g609.2.2.2.2.1 t624) fun t625 => (Xc.ok (g609.1, (g609.2.1, (g609.2.2.1, (g609.2.2.2.1, (t625, ())))))))))) t628 (g592.1, (g592.2.1, (g592.2.2.1, (g592.2.2.2.1, (([] : List (List Int)), ()))))))) fun (g627 : (Int × ((List Int) × ((List (List Int)) × (Int × (List (List Int) × Unit)))))) => (Xc.ok g627.2.2.2.2.1))))
def m__law_function (z : (List Int) × Int × Int × Int × Unit) : Xc (List Int) := (Xc.bind (Xc.bind (rngX 0 z.2.2.1) fun t633 => (compX (fun a629 => (Xc.ok true)) (fun a629 => (Xc.bind (Xc.bind (Xc.bind (getX z.1 (z.2.1 + a629)) fun t630 => (modX t630 (7 : Int))) fun t631 => (Xc.ok (t631 - (3 : Int)))) fun t632 => (mulX t632 z.2.2.2.1))) t633)) fun t634 => (Xc.bind (Xc.bind (Xc.bind (Xc.bind (Xc.bind (getX z.1 (z.2.1 + (6 : Int))) fun t635 => (modX t635 (19 : Int))) fun t636 => (Xc.ok (t636 - (9 : Int)))) fun t640 => (Xc.bind (Xc.bind (Xc.bind (Xc.bind (getX z.1 (z.2.1 + (7 : Int))) fun t637 => (modX t637 (3 : Int))) fun t638 => (Xc.ok ((1 : Int) + t638))) fun t639 => (Xc.ok (t639 :: ([] : List Int)))) fun t641 => (Xc.ok (t640 :: t641)))) fun t642 => (szX t642)) fun t643 => (catL t634 t643)))
def m__law_made (z : (List Int) × Unit) : Xc Ty_Affine := (Xc.bind (Xc.bind (Xc.bind (getX z.1 (-(2 : Int))) fun t645 => (Xc.bind (Xc.bind (getX z.1 (-(1 : Int))) fun t644 => (Xc.ok (t644, ()))) fun t646 => (Xc.ok (t645, t646)))) fun t647 => (Xc.ok ((cutL z.1 none (some (-(2 : Int)))), t647))) fun t648 => (Xc.bind (m_Affine___init___l t648) fun t649 => (Xc.ok (⟨t649⟩ : Ty_Affine))))
def m__law_variables (z : Int × Int × Unit) : Xc (List (List Int)) := (Xc.bind (rngX z.2.1 z.1) fun t655 => (compX (fun a650 => (Xc.ok true)) (fun a650 => (Xc.bind (Xc.bind (rngX 0 z.1) fun t652 => (compX (fun a651 => (Xc.ok true)) (fun a651 => (Xc.ok (if (decide (a651 = a650)) = true then (1 : Int) else 0))) t652)) fun t653 => (Xc.bind (szX ((0 : Int) :: ((1 : Int) :: ([] : List Int)))) fun t654 => (catL t653 t654)))) t655))
def m__law_turned (z : (List Int) × Unit) : Xc (List Int) := (Xc.bind (compX (fun a656 => (Xc.ok true)) (fun a656 => (Xc.ok (-a656))) (cutL z.1 none (some (-(1 : Int))))) fun t657 => (catL t657 (cutL z.1 (some (-(1 : Int))) none)))
def m__law_planned (z : Ty_Plan × (List (List Int)) × (List Int) × Unit) : Xc Bool := (Xc.bind (if (!true) = true then Xc.ok true else (Xc.bind (Xc.bind (m__law_is_integer (z.1.v.1, ())) fun t658 => (Xc.ok (!t658))) fun t659 => (if t659 = true then Xc.ok true else (Xc.ok (!decide (z.1.v.1 = (((HasLen.len z.2.2.1 : Nat) : Int) - (2 : Int)))))))) fun t662 => (if t662 = true then (Xc.ok false) else (Xc.bind (m__law_tuple_same (z.1.v.2.1, (z.2.1, ()))) fun t661 => (if t661 = true then (m__law_same (z.1.v.2.2.1, (z.2.2.1, ()))) else Xc.ok false))))
def m__law_nodes (z : Ty_Task × (Dc [("rows" : Str), ("rules" : Str), ("aim" : Str), ("cost" : Str), ("prices" : Str), ("firsts" : Str), ("seconds" : Str)] ((List (List Int)) × (List (List Int)) × (List Int) × (List Int) × (List (List Int)) × (List (List Int)) × (List (List Int)) × Unit)) × (List (Option Str)) × Unit) : Xc Bool := (Xc.bind (catL z.2.1.v.2.1 z.2.1.v.1) fun t663 => (Xc.bind (Xc.bind (Xc.bind (rngX 0 ((HasLen.len z.2.2.1 : Nat) : Int)) fun t668 => (compX (fun a664 => (Xc.bind (getX z.2.2.1 a664) fun t665 => (eqdX t665 (some ("task" : Str))))) (fun a664 => (Xc.bind (Xc.bind (getX z.2.1.v.2.2.2.2.2.1 a664) fun t666 => (Xc.ok (t666, ()))) fun t667 => (m__law_turned t667))) t668)) fun t669 => (catL t663 t669)) fun t670 => (Xc.bind (Xc.bind (Xc.bind (rngX 0 ((HasLen.len z.2.2.1 : Nat) : Int)) fun t675 => (compX (fun a671 => (Xc.bind (getX z.2.2.1 a671) fun t672 => (eqdX t672 (some ("price" : Str))))) (fun a671 => (Xc.bind (Xc.bind (getX z.2.1.v.2.2.2.2.2.2.1 a671) fun t673 => (Xc.ok (t673, ()))) fun t674 => (m__law_turned t674))) t675)) fun t676 => (catL z.2.1.v.2.2.2.2.1 t676)) fun t677 => (Xc.bind (m_node_plans (z.1, (z.2.2.1, ()))) fun t678 => (Xc.bind (Xc.bind (Xc.bind (isiX (HasTy.ty t678) "tuple") fun t679 => (Xc.ok (!t679))) fun t680 => (if t680 = true then Xc.ok true else (if (!decide (((HasLen.len t678 : Nat) : Int) = (2 : Int))) = true then Xc.ok true else (Xc.bind (eqdX z.2.2.1 z.2.2.1) fun t => Xc.ok (!t))))) fun t690 => (if t690 = true then (Xc.ok false) else (Xc.bind (m__law_planned (t678.1, (t670, (z.2.1.v.2.2.2.1, ())))) fun t689 => (if t689 = true then (Xc.bind (Xc.bind (Xc.bind (Xc.bind (Xc.bind (Xc.bind (szX ((0 : Int) :: ([] : List Int))) fun t682 => (repX t682 (((HasLen.len z.2.1.v.1 : Nat) : Int) + (1 : Int)))) fun t683 => (Xc.bind (szX ((1 : Int) :: ([] : List Int))) fun t684 => (catL t683 t684))) fun t685 => (Xc.ok (t685, ()))) fun t686 => (Xc.ok (t677, t686))) fun t687 => (Xc.ok (t678.2, t687))) fun t688 => (m__law_planned t688)) else Xc.ok false))))))))
def m__law_priced (z : Int × (List Int) × (List (List Int)) × (List Int) × Int × Unit) : Xc (List Int) := (Xc.bind (getX z.2.1 (-(1 : Int))) fun t691 => (Xc.bind (foldX (fun (g695 : (Int × ((List Int) × ((List (List Int)) × ((List Int) × (Int × (Int × Unit))))))) a696 => (Xc.bind (Xc.bind (getX a696 (-(1 : Int))) fun t697 => (mulX g695.2.2.2.2.2.1 t697)) fun t698 => (Xc.ok (g695.1, (g695.2.1, (g695.2.2.1, (g695.2.2.2.1, (g695.2.2.2.2.1, (t698, ()))))))))) z.2.2.1 (z.1, (z.2.1, (z.2.2.1, (z.2.2.2.1, (z.2.2.2.2.1, (t691, ()))))))) fun (g700 : (Int × ((List Int) × ((List (List Int)) × ((List Int) × (Int × (Int × Unit))))))) => (Xc.bind (Xc.bind (rngX 0 g700.1) fun t706 => (compX (fun a701 => (Xc.ok true)) (fun a701 => (Xc.bind (Xc.bind (getX g700.2.1 a701) fun t703 => (Xc.bind (Xc.bind (getX g700.2.1 (-(1 : Int))) fun t702 => (fdvX g700.2.2.2.2.2.1 t702)) fun t704 => (mulX t703 t704))) fun t705 => (mulX t705 g700.2.2.2.2.1))) t706)) fun t707 => (Xc.bind (Xc.bind (Xc.bind (getX g700.2.1 (-(2 : Int))) fun t709 => (Xc.bind (Xc.bind (getX g700.2.1 (-(1 : Int))) fun t708 => (fdvX g700.2.2.2.2.2.1 t708)) fun t710 => (mulX t709 t710))) fun t711 => (mulX t711 g700.2.2.2.2.1)) fun t713 => (Xc.bind (appX t707 t713) fun t714 => (Xc.bind (Xc.bind (rngX 0 ((HasLen.len g700.2.2.1 : Nat) : Int)) fun t756 => (foldX (fun (g734 : (Int × ((List Int) × ((List (List Int)) × ((List Int) × (Int × (Int × ((List Int) × Unit)))))))) a735 => (Xc.bind (Xc.bind (Xc.bind (getX g734.2.2.1 a735) fun t736 => (Xc.ok (cutL t736 none (some g734.1)))) fun t740 => (Xc.bind (Xc.bind (Xc.bind (Xc.bind (getX g734.2.2.1 a735) fun t737 => (getX t737 (-(2 : Int)))) fun t738 => (Xc.ok (t738 :: ([] : List Int)))) fun t739 => (szX t739)) fun t741 => (catL t740 t741))) fun t742 => (Xc.bind (Xc.bind (getX g734.2.2.2.1 a735) fun t745 => (Xc.bind (Xc.bind (Xc.bind (getX g734.2.2.1 a735) fun t743 => (getX t743 (-(1 : Int)))) fun t744 => (fdvX g734.2.2.2.2.2.1 t744)) fun t746 => (mulX t745 t746))) fun t747 => (Xc.bind (Xc.bind (rngX 0 (g734.1 + (1 : Int))) fun t752 => (compX (fun a748 => (Xc.ok true)) (fun a748 => (Xc.bind (getX g734.2.2.2.2.2.2.1 a748) fun t750 => (Xc.bind (Xc.bind (getX t742 a748) fun t749 => (mulX t747 t749)) fun t751 => (Xc.ok (t750 - t751))))) t752)) fun t753 => (Xc.ok (g734.1, (g734.2.1, (g734.2.2.1, (g734.2.2.2.1, (g734.2.2.2.2.1, (g734.2.2.2.2.2.1, (t753, ())))))))))))) t756 (g700.1, (g700.2.1, (g700.2.2.1, (g700.2.2.2.1, (g700.2.2.2.2.1, (g700.2.2.2.2.2.1, (t714, ()))))))))) fun (g755 : (Int × ((List Int) × ((List (List Int)) × ((List Int) × (Int × (Int × ((List Int) × Unit)))))))) => (Xc.bind (Xc.bind (Xc.bind (mulX g755.2.2.2.2.2.1 g755.2.2.2.2.1) fun t757 => (Xc.ok (t757 :: ([] : List Int)))) fun t758 => (szX t758)) fun t759 => (catL g755.2.2.2.2.2.2.1 t759))))))))
def m__law_last (z : (Dc [("rows" : Str), ("rules" : Str), ("aim" : Str), ("cost" : Str), ("prices" : Str), ("firsts" : Str), ("seconds" : Str)] ((List (List Int)) × (List (List Int)) × (List Int) × (List Int) × (List (List Int)) × (List (List Int)) × (List (List Int)) × Unit)) × (List Int) × Unit) : Xc (List Int) := (Xc.bind (Xc.bind (Xc.bind (Xc.bind (szX ((0 : Int) :: ([] : List Int))) fun t760 => (repX t760 (((HasLen.len z.1.v.2.2.1 : Nat) : Int) - ((HasLen.len z.2.1 : Nat) : Int)))) fun t761 => (catL (cutL z.2.1 none (some (-(2 : Int)))) t761)) fun t762 => (catL t762 (cutL z.2.1 (some (-(2 : Int))) none))) fun t763 => (Xc.bind (Xc.bind (rngX 0 (((HasLen.len t763 : Nat) : Int) - (1 : Int))) fun t771 => (compX (fun a764 => (Xc.ok true)) (fun a764 => (Xc.bind (Xc.bind (getX t763 a764) fun t765 => (Xc.bind (getX z.1.v.2.2.1 (-(1 : Int))) fun t766 => (mulX t765 t766))) fun t769 => (Xc.bind (Xc.bind (getX z.1.v.2.2.1 a764) fun t767 => (Xc.bind (getX t763 (-(1 : Int))) fun t768 => (mulX t767 t768))) fun t770 => (Xc.ok (t769 - t770))))) t771)) fun t776 => (Xc.bind (Xc.bind (Xc.bind (Xc.bind (getX t763 (-(1 : Int))) fun t772 => (Xc.bind (getX z.1.v.2.2.1 (-(1 : Int))) fun t773 => (mulX t772 t773))) fun t774 => (Xc.ok (t774 :: ([] : List Int)))) fun t775 => (szX t775)) fun t777 => (catL t776 t777))))
def m__law_kinds (z : Ty_Task × (Dc [("rows" : Str), ("rules" : Str), ("aim" : Str), ("cost" : Str), ("prices" : Str), ("firsts" : Str), ("seconds" : Str)] ((List (List Int)) × (List (List Int)) × (List Int) × (List Int) × (List (List Int)) × (List (List Int)) × (List (List Int)) × Unit)) × Int × (List Int) × Unit) : Xc Bool := (Xc.bind (Xc.bind (Xc.bind (Xc.bind (Xc.bind (rngX 0 ((HasLen.len z.2.1.v.1 : Nat) : Int)) fun t780 => (compX (fun a778 => (Xc.ok true)) (fun a778 => (Xc.bind (getX z.2.2.2.1 a778) fun t779 => (modX t779 (5 : Int)))) t780)) fun t785 => (Xc.bind (Xc.bind (Xc.bind (Xc.bind (Xc.bind (getX z.2.2.2.1 (4 : Int)) fun t781 => (modX t781 (3 : Int))) fun t782 => (Xc.ok ((1 : Int) + t782))) fun t783 => (Xc.ok (t783 :: ([] : List Int)))) fun t784 => (szX t784)) fun t786 => (catL t785 t786))) fun t787 => (Xc.ok (t787, ()))) fun t788 => (m__law_lowest t788)) fun t789 => (Xc.bind (Xc.bind (Xc.bind (Xc.bind (Xc.bind (Xc.bind (Xc.bind (getX t789 (-(1 : Int))) fun t790 => (Xc.ok (t790, ()))) fun t791 => (Xc.ok ((cutL t789 none (some (-(1 : Int)))), t791))) fun t792 => (Xc.ok (z.2.1.v.1, t792))) fun t793 => (Xc.ok (z.2.1.v.2.2.1, t793))) fun t794 => (Xc.ok (z.2.2.1, t794))) fun t795 => (m__law_priced t795)) fun t796 => (Xc.bind (catL z.2.1.v.2.1 z.2.1.v.1) fun t797 => (Xc.bind (Xc.bind (Xc.bind (Xc.bind (Xc.bind (getX t789 (-(1 : Int))) fun t798 => (Xc.ok ((tu (cutL t789 none (some (-(1 : Int))))), t798))) fun t799 => (Xc.ok (t799, ()))) fun t800 => (Xc.ok (z.1, t800))) fun t801 => (m_kind_plan t801)) fun t802 => (Xc.bind (Xc.bind (Xc.bind (Xc.bind (Xc.bind (Xc.bind (Xc.bind (Xc.bind (m__law_last (z.2.1, (t796, ()))) fun t803 => (Xc.ok (t803 :: ([] : List (List Int))))) fun t804 => (szX t804)) fun t805 => (catL t797 t805)) fun t806 => (Xc.ok (t806, (z.2.1.v.2.2.2.1, ())))) fun t807 => (Xc.ok (t802, t807))) fun t808 => (m__law_planned t808)) fun t809 => (Xc.ok (!t809))) fun t854 => (if t854 = true then (Xc.ok false) else (Xc.bind (m__law_function (z.2.2.2.1, ((5 : Int), (z.2.2.1, ((1 : Int), ()))))) fun t811 => (Xc.bind (Xc.bind (Xc.bind (Xc.bind (Xc.bind (getX z.2.2.2.1 (4 : Int)) fun t812 => (fdvX t812 (3 : Int))) fun t813 => (modX t813 (4 : Int))) fun t814 => (rngX 0 t814)) fun t820 => (compX (fun a815 => (Xc.ok true)) (fun a815 => (Xc.bind (Xc.bind (Xc.bind (Xc.bind (mulX (8 : Int) a815) fun t816 => (Xc.ok ((13 : Int) + t816))) fun t817 => (Xc.ok (t817, (z.2.2.1, ((1 : Int), ()))))) fun t818 => (Xc.ok (z.2.2.2.1, t818))) fun t819 => (m__law_function t819))) t820)) fun t821 => (Xc.bind (compX (fun a822 => (Xc.ok true)) (fun a822 => (m__law_made (a822, ()))) t821) fun t823 => (Xc.bind (Xc.bind (Xc.bind (m__law_made (t811, ())) fun t833 => (Xc.bind (Xc.bind (Xc.bind (Xc.bind (Xc.bind (Xc.bind (getX t789 (-(1 : Int))) fun t824 => (Xc.ok ((tu (cutL t789 none (some (-(1 : Int))))), t824))) fun t825 => (Xc.ok (t825 :: ([] : List ((Tu Int) × Int))))) fun t826 => (szX t826)) fun t830 => (Xc.bind (Xc.bind (Xc.bind (Xc.bind (Xc.bind (szX ((1 : Int) :: ([] : List Int))) fun l => Xc.ok (tu l)) fun t827 => (repU t827 z.2.2.1)) fun t828 => (Xc.ok (t828, (1 : Int)))) fun t829 => (Xc.ok (t829, ()))) fun t831 => (Xc.ok (t830, t831)))) fun t832 => (Xc.ok (t823, t832))) fun t834 => (Xc.ok (t833, t834)))) fun t835 => (Xc.bind (m_Piece___init__ t835) fun t836 => (Xc.ok (⟨t836⟩ : Ty_Piece)))) fun t837 => (Xc.bind (m__law_made (t811, ())) fun t839 => (Xc.bind (appX t823 t839) fun t840 => (Xc.bind (compX (fun a841 => (Xc.ok true)) (fun a841 => (Xc.bind (Xc.bind (Xc.bind (szX ((0 : Int) :: ([] : List Int))) fun t842 => (repX t842 (((HasLen.len z.2.1.v.2.2.1 : Nat) : Int) - ((HasLen.len a841 : Nat) : Int)))) fun t843 => (catL (cutL a841 none (some (-(2 : Int)))) t843)) fun t844 => (catL t844 (cutL a841 (some (-(2 : Int))) none)))) t821) fun t845 => (Xc.bind (Xc.bind (m_piece_plan (z.1, (t837, ()))) fun t851 => (Xc.bind (Xc.bind (Xc.bind (catL t797 t845) fun t848 => (Xc.bind (Xc.bind (Xc.bind (m__law_last (z.2.1, (t811, ()))) fun t846 => (Xc.ok (t846 :: ([] : List (List Int))))) fun t847 => (szX t847)) fun t849 => (catL t848 t849))) fun t850 => (Xc.ok (t850, (z.2.1.v.2.2.2.1, ())))) fun t852 => (Xc.ok (t851, t852)))) fun t853 => (m__law_planned t853)))))))))))))))
def m__law_model (z : (List Int) × Int × Int × Int × Unit) : Xc (Dc [("rows" : Str), ("rules" : Str), ("aim" : Str), ("cost" : Str), ("prices" : Str), ("firsts" : Str), ("seconds" : Str)] ((List (List Int)) × (List (List Int)) × (List Int) × (List Int) × (List (List Int)) × (List (List Int)) × (List (List Int)) × Unit)) := (Xc.bind (Xc.bind (Xc.bind (Xc.bind (Xc.bind (getX z.1 (2 : Int)) fun t855 => (modX t855 (4 : Int))) fun t856 => (Xc.ok ((1 : Int) + t856))) fun t857 => (rngX 0 t857)) fun t863 => (compX (fun a858 => (Xc.ok true)) (fun a858 => (Xc.bind (Xc.bind (Xc.bind (Xc.bind (mulX (8 : Int) a858) fun t859 => (Xc.ok ((10 : Int) + t859))) fun t860 => (Xc.ok (t860, ((z.2.1 + z.2.2.1), (z.2.2.2.1, ()))))) fun t861 => (Xc.ok (z.1, t861))) fun t862 => (m__law_function t862))) t863)) fun t864 => (Xc.bind (Xc.bind (Xc.bind (Xc.bind (getX z.1 (3 : Int)) fun t865 => (modX t865 (5 : Int))) fun t866 => (rngX 0 t866)) fun t872 => (compX (fun a867 => (Xc.ok true)) (fun a867 => (Xc.bind (Xc.bind (Xc.bind (Xc.bind (mulX (8 : Int) a867) fun t868 => (Xc.ok ((42 : Int) + t868))) fun t869 => (Xc.ok (t869, ((z.2.1 + z.2.2.1), (z.2.2.2.1, ()))))) fun t870 => (Xc.ok (z.1, t870))) fun t871 => (m__law_function t871))) t872)) fun t873 => (Xc.bind (m__law_function (z.1, ((74 : Int), ((z.2.1 + z.2.2.1), (z.2.2.2.1, ()))))) fun t874 => (Xc.bind (Xc.bind (Xc.bind (Xc.bind (getX z.1 (4 : Int)) fun t875 => (modX t875 (5 : Int))) fun t876 => (Xc.ok (decide (t876 = (0 : Int))))) fun t886 => (if t886 = true then (Xc.bind (Xc.bind (Xc.bind (Xc.bind (szX ((0 : Int) :: ([] : List Int))) fun t881 => (repX t881 z.2.2.1)) fun t882 => (catL (cutL t874 none (some z.2.1)) t882)) fun t883 => (catL t883 (cutL t874 (some (-(2 : Int))) none))) fun t884 => (Xc.ok (z.1, (z.2.1, (z.2.2.1, (z.2.2.2.1, ((z.2.1 + z.2.2.1), (t864, (t873, (t884, ())))))))))) else (Xc.ok (z.1, (z.2.1, (z.2.2.1, (z.2.2.2.1, ((z.2.1 + z.2.2.1), (t864, (t873, (t874, ()))))))))))) fun (g887 : ((List Int) × (Int × (Int × (Int × (Int × ((List (List Int)) × ((List (List Int)) × ((List Int) × Unit))))))))) => (Xc.bind (m__law_prices (g887.2.1, (g887.2.2.2.2.2.2.2.1, (g887.2.2.2.2.2.1, ())))) fun t888 => (Xc.bind (Xc.bind (Xc.bind (Xc.bind (Xc.bind (m__law_function (g887.1, ((82 : Int), (g887.2.2.2.2.1, ((1 : Int), ()))))) fun t895 => (Xc.bind (Xc.bind (Xc.bind (Xc.bind (m__law_variables (g887.2.2.2.2.1, (g887.2.1, ()))) fun t889 => (catL g887.2.2.2.2.2.1 t889)) fun t892 => (Xc.bind (Xc.bind (Xc.bind (m__law_variables (((HasLen.len g887.2.2.2.2.2.1 : Nat) : Int), ((0 : Int), ()))) fun t890 => (catL t890 t888)) fun t891 => (Xc.ok (t891, ()))) fun t893 => (Xc.ok (t892, t893)))) fun t894 => (Xc.ok (t888, t894))) fun t896 => (Xc.ok (t895, t896)))) fun t897 => (Xc.ok (g887.2.2.2.2.2.2.2.1, t897))) fun t898 => (Xc.ok (g887.2.2.2.2.2.2.1, t898))) fun t899 => (Xc.ok (g887.2.2.2.2.2.1, t899))) fun t900 => (Xc.ok (⟨t900⟩ : (Dc [("rows" : Str), ("rules" : Str), ("aim" : Str), ("cost" : Str), ("prices" : Str), ("firsts" : Str), ("seconds" : Str)] ((List (List Int)) × (List (List Int)) × (List Int) × (List Int) × (List (List Int)) × (List (List Int)) × (List (List Int)) × Unit))))))))))
def m_law (z : (List Int) × Unit) : Xc Bool := (Xc.bind (m__law_draws (z.1, ((160 : Int), ()))) fun t901 => (Xc.bind (Xc.bind (Xc.bind (getX t901 (0 : Int)) fun t902 => (modX t902 (3 : Int))) fun t903 => (Xc.ok ((1 : Int) + t903))) fun t904 => (Xc.bind (Xc.bind (Xc.bind (getX t901 (1 : Int)) fun t905 => (modX t905 (3 : Int))) fun t906 => (Xc.ok ((1 : Int) + t906))) fun t907 => (Xc.bind (Xc.bind (Xc.bind (Xc.bind (getX t901 (5 : Int)) fun t908 => (modX t908 (8 : Int))) fun t909 => (Xc.ok (decide (t909 = (3 : Int))))) fun t917 => (if t917 = true then (Xc.bind (Xc.bind (powX (10 : Int) (30 : Int)) fun t913 => (Xc.bind (getX t901 (6 : Int)) fun t914 => (Xc.ok (t913 + t914)))) fun t915 => (Xc.ok (z.1, (t901, (t904, (t907, (t915, ()))))))) else (Xc.ok (z.1, (t901, (t904, (t907, ((1 : Int), ())))))))) fun (g918 : ((List Int) × ((List Int) × (Int × (Int × (Int × Unit)))))) => (Xc.bind (m__law_model (g918.2.1, (g918.2.2.1, (g918.2.2.2.1, (g918.2.2.2.2.1, ()))))) fun t919 => (Xc.bind (Xc.bind (Xc.bind (Xc.bind (szX (t919.v.2.2.2.1 :: (t919.v.2.2.1 :: ([] : List (List Int))))) fun t920 => (catL t920 t919.v.2.1)) fun t921 => (catL t921 t919.v.1)) fun t923 => (compX (fun a922 => (Xc.ok true)) (fun a922 => (m__law_made (a922, ()))) t923)) fun t924 => (let vlast_925 : Int := ((2 : Int) + ((HasLen.len t919.v.2.1 : Nat) : Int)); (Xc.bind (Xc.bind (Xc.bind (Xc.bind (Xc.bind (getX t924 (0 : Int)) fun t928 => (Xc.bind (Xc.bind (Xc.bind (getX t924 (1 : Int)) fun t926 => (Xc.ok (t926, ((cutL t924 (some vlast_925) none), ())))) fun t927 => (Xc.ok ((cutL t924 (some (2 : Int)) (some vlast_925)), t927))) fun t929 => (Xc.ok (t928, t929)))) fun t930 => (Xc.ok (g918.2.2.2.1, t930))) fun t931 => (Xc.ok (g918.2.2.1, t931))) fun t932 => (Xc.bind (m_Task___init__ t932) fun t933 => (Xc.ok (⟨t933⟩ : Ty_Task)))) fun t934 => (Xc.bind (m_pair_functions (t934, ())) fun t935 => (let vcount_936 : Int := ((HasLen.len t919.v.2.2.2.2.2.1 : Nat) : Int); (Xc.bind (Xc.bind (Xc.bind (isiX (HasTy.ty t935) "list") fun t937 => (Xc.ok (!t937))) fun t938 => (if t938 = true then Xc.ok true else (Xc.ok (!decide (((HasLen.len t935 : Nat) : Int) = vcount_936))))) fun t1048 => (if t1048 = true then (Xc.ok false) else (Xc.bind (rngX 0 vcount_936) fun t988 => (forK (forX (fun (g963 : ((List Int) × ((List Int) × (Int × (Int × (Int × ((Dc [("rows" : Str), ("rules" : Str), ("aim" : Str), ("cost" : Str), ("prices" : Str), ("firsts" : Str), ("seconds" : Str)] ((List (List Int)) × (List (List Int)) × (List Int) × (List Int) × (List (List Int)) × (List (List Int)) × (List (List Int)) × Unit)) × ((List Ty_Affine) × (Int × (Ty_Task × ((List (Ty_Affine × Ty_Affine)) × (Int × Unit)))))))))))) a964 => (Xc.bind (Xc.bind (Xc.bind (Xc.bind (getX g963.2.2.2.2.2.2.2.2.2.1 a964) fun t965 => (isiX (HasTy.ty t965) "tuple")) fun t966 => (Xc.ok (!t966))) fun t969 => (if t969 = true then Xc.ok true else (Xc.bind (Xc.bind (getX g963.2.2.2.2.2.2.2.2.2.1 a964) fun t967 => (Xc.ok ((HasLen.len t967 : Nat) : Int))) fun t968 => (Xc.ok (!decide (t968 = (2 : Int))))))) fun t986 => (if t986 = true then (Xc.ok (Lp.rt false)) else (Xc.bind (Xc.bind (Xc.bind (Xc.bind (Xc.bind (Xc.bind (getX g963.2.2.2.2.2.2.2.2.2.1 a964) fun t971 => (Xc.ok t971.1)) fun t973 => (Xc.bind (Xc.bind (getX g963.2.2.2.2.2.1.v.2.2.2.2.2.1 a964) fun t972 => (Xc.ok (t972, ()))) fun t974 => (Xc.ok (t973, t974)))) fun t975 => (m__law_same t975)) fun t976 => (Xc.ok (!t976))) fun t983 => (if t983 = true then Xc.ok true else (Xc.bind (Xc.bind (Xc.bind (Xc.bind (getX g963.2.2.2.2.2.2.2.2.2.1 a964) fun t977 => (Xc.ok t977.2)) fun t979 => (Xc.bind (Xc.bind (getX g963.2.2.2.2.2.1.v.2.2.2.2.2.2.1 a964) fun t978 => (Xc.ok (t978, ()))) fun t980 => (Xc.ok (t979, t980)))) fun t981 => (m__law_same t981)) fun t982 => (Xc.ok (!t982))))) fun t985 => (if t985 = true then (Xc.ok (Lp.rt false)) else (Xc.ok (Lp.ct (g963.1, (g963.2.1, (g963.2.2.1, (g963.2.2.2.1, (g963.2.2.2.2.1, (g963.2.2.2.2.2.1, (g963.2.2.2.2.2.2.1, (g963.2.2.2.2.2.2.2.1, (g963.2.2.2.2.2.2.2.2.1, (g963.2.2.2.2.2.2.2.2.2.1, (g963.2.2.2.2.2.2.2.2.2.2.1, ())))))))))))))))))) t988 (g918.1, (g918.2.1, (g918.2.2.1, (g918.2.2.2.1, (g918.2.2.2.2.1, (t919, (t924, (vlast_925, (t934, (t935, (vcount_936, ())))))))))))) id fun (g987 : ((List Int) × ((List Int) × (Int × (Int × (Int × ((Dc [("rows" : Str), ("rules" : Str), ("aim" : Str), ("cost" : Str), ("prices" : Str), ("firsts" : Str), ("seconds" : Str)] ((List (List Int)) × (List (List Int)) × (List Int) × (List Int) × (List (List Int)) × (List (List Int)) × (List (List Int)) × Unit)) × ((List Ty_Affine) × (Int × (Ty_Task × ((List (Ty_Affine × Ty_Affine)) × (Int × Unit)))))))))))) => (Xc.bind (Xc.bind (rngX 0 g987.2.2.2.2.2.2.2.2.2.2.1) fun t993 => (compX (fun a989 => (Xc.ok true)) (fun a989 => (Xc.bind (szX ((none : Option Str) :: ((some ("task" : Str)) :: ((some ("price" : Str)) :: ([] : List (Option Str)))))) fun t991 => (Xc.bind (Xc.bind (getX g987.2.1 ((90 : Int) + a989)) fun t990 => (modX t990 (3 : Int))) fun t992 => (getX t991 t992)))) t993)) fun t994 => (Xc.bind (Xc.bind (rngX 0 g987.2.2.2.2.2.2.2.2.2.2.1) fun t999 => (compX (fun a995 => (Xc.ok true)) (fun a995 => (Xc.bind (szX ((none : Option Str) :: ((some ("task" : Str)) :: ((some ("price" : Str)) :: ((some ("price" : Str)) :: ((some ("task" : Str)) :: ([] : List (Option Str)))))))) fun t997 => (Xc.bind (Xc.bind (getX g987.2.1 ((98 : Int) + a995)) fun t996 => (modX t996 (5 : Int))) fun t998 => (getX t997 t998)))) t999)) fun t1000 => (Xc.bind (Xc.bind (Xc.bind (Xc.bind (szX ((none : Option Str) :: ([] : List (Option Str)))) fun t1031 => (repX t1031 g987.2.2.2.2.2.2.2.2.2.2.1)) fun t1039 => (Xc.bind (Xc.bind (Xc.bind (Xc.bind (Xc.bind (szX ((some ("task" : Str)) :: ([] : List (Option Str)))) fun t1032 => (repX t1032 g987.2.2.2.2.2.2.2.2.2.2.1)) fun t1035 => (Xc.bind (Xc.bind (Xc.bind (szX ((some ("price" : Str)) :: ([] : List (Option Str)))) fun t1033 => (repX t1033 g987.2.2.2.2.2.2.2.2.2.2.1)) fun t1034 => (Xc.ok (t1034 :: ([] : List (List (Option Str)))))) fun t1036 => (Xc.ok (t1035 :: t1036)))) fun t1037 => (Xc.ok (t1000 :: t1037))) fun t1038 => (Xc.ok (t994 :: t1038))) fun t1040 => (Xc.ok (t1039 :: t1040)))) fun t1041 => (szX t1041)) fun t1047 => (forK (forX (fun (g1023 : ((List Int) × ((List Int) × (Int × (Int × (Int × ((Dc [("rows" : Str), ("rules" : Str), ("aim" : Str), ("cost" : Str), ("prices" : Str), ("firsts" : Str), ("seconds" : Str)] ((List (List Int)) × (List (List Int)) × (List Int) × (List Int) × (List (List Int)) × (List (List Int)) × (List (List Int)) × Unit)) × ((List Ty_Affine) × (Int × (Ty_Task × ((List (Ty_Affine × Ty_Affine)) × (Int × ((List (Option Str)) × ((List (Option Str)) × Unit)))))))))))))) a1042 => (Xc.bind (Xc.bind (m__law_nodes (g1023.2.2.2.2.2.2.2.2.1, (g1023.2.2.2.2.2.1, (a1042, ())))) fun t1043 => (Xc.ok (!t1043))) fun t1045 => (if t1045 = true then (Xc.ok (Lp.rt false)) else (Xc.ok (Lp.ct (g1023.1, (g1023.2.1, (g1023.2.2.1, (g1023.2.2.2.1, (g1023.2.2.2.2.1, (g1023.2.2.2.2.2.1, (g1023.2.2.2.2.2.2.1, (g1023.2.2.2.2.2.2.2.1, (g1023.2.2.2.2.2.2.2.2.1, (g1023.2.2.2.2.2.2.2.2.2.1, (g1023.2.2.2.2.2.2.2.2.2.2.1, (g1023.2.2.2.2.2.2.2.2.2.2.2.1, (g1023.2.2.2.2.2.2.2.2.2.2.2.2.1, ())))))))))))))))))) t1047 (g987.1, (g987.2.1, (g987.2.2.1, (g987.2.2.2.1, (g987.2.2.2.2.1, (g987.2.2.2.2.2.1, (g987.2.2.2.2.2.2.1, (g987.2.2.2.2.2.2.2.1, (g987.2.2.2.2.2.2.2.2.1, (g987.2.2.2.2.2.2.2.2.2.1, (g987.2.2.2.2.2.2.2.2.2.2.1, (t994, (t1000, ())))))))))))))) id fun (g1046 : ((List Int) × ((List Int) × (Int × (Int × (Int × ((Dc [("rows" : Str), ("rules" : Str), ("aim" : Str), ("cost" : Str), ("prices" : Str), ("firsts" : Str), ("seconds" : Str)] ((List (List Int)) × (List (List Int)) × (List Int) × (List Int) × (List (List Int)) × (List (List Int)) × (List (List Int)) × Unit)) × ((List Ty_Affine) × (Int × (Ty_Task × ((List (Ty_Affine × Ty_Affine)) × (Int × ((List (Option Str)) × ((List (Option Str)) × Unit)))))))))))))) => (m__law_kinds (g1046.2.2.2.2.2.2.2.2.1, (g1046.2.2.2.2.2.1, (g1046.2.2.1, ((cutL g1046.2.1 (some (106 : Int)) (some (160 : Int))), ())))))))))))))))))))))))
structure T0 (K : PySem.W.Frag) (mg : Str → Option Value) : Prop where
  f_abs : mg "abs" = none
  f_all : mg "all" = none
  f_any : mg "any" = none
  f_bool : mg "bool" = none
  f_int : mg "int" = none
  f_isinstance : mg "isinstance" = none
  f_len : mg "len" = none
  f_list : mg "list" = none
  f_range : mg "range" = none
  f_tuple : mg "tuple" = none
  f_zip : mg "zip" = none
  gcd : mg "gcd" = some (.builtin "math.gcd")
  lcm : mg "lcm" = some (.builtin "math.lcm")
  g_Affine : mg "Affine" = some (.ref (He.ga K "Affine"))
  g_Plan : mg "Plan" = some (.ref (He.ga K "Plan"))
  g_Task : mg "Task" = some (.ref (He.ga K "Task"))
  x_BadNumber : Xk K mg "BadNumber"
  cl_Affine : Cls K (He.ga K "Affine")
  cl_Pairs : Cls K (He.ga K "Pairs")
  cl_Piece : Cls K (He.ga K "Piece")
  cl_Plan : Cls K (He.ga K "Plan")
  cl_Task : Cls K (He.ga K "Task")
  na_Affine_bottom : NoAttr K (He.ga K "Affine") "bottom"
  na_Affine_coefs : NoAttr K (He.ga K "Affine") "coefs"
  na_Affine_constant : NoAttr K (He.ga K "Affine") "constant"
  na_Affine_size : NoAttr K (He.ga K "Affine") "size"
  na_Pairs_firsts : NoAttr K (He.ga K "Pairs") "firsts"
  na_Pairs_prices : NoAttr K (He.ga K "Pairs") "prices"
  na_Pairs_seconds : NoAttr K (He.ga K "Pairs") "seconds"
  na_Pairs_task : NoAttr K (He.ga K "Pairs") "task"
  na_Piece_inside : NoAttr K (He.ga K "Piece") "inside"
  na_Piece_rows : NoAttr K (He.ga K "Piece") "rows"
  na_Piece_value : NoAttr K (He.ga K "Piece") "value"
  na_Piece_weights : NoAttr K (He.ga K "Piece") "weights"
  na_Plan_cost : NoAttr K (He.ga K "Plan") "cost"
  na_Plan_rows : NoAttr K (He.ga K "Plan") "rows"
  na_Plan_size : NoAttr K (He.ga K "Plan") "size"
  na_Task_aim : NoAttr K (He.ga K "Task") "aim"
  na_Task_cost : NoAttr K (He.ga K "Task") "cost"
  na_Task_replies : NoAttr K (He.ga K "Task") "replies"
  na_Task_rows : NoAttr K (He.ga K "Task") "rows"
  na_Task_rules : NoAttr K (He.ga K "Task") "rules"
  na_Task_size : NoAttr K (He.ga K "Task") "size"
  rd_Plan : ClX.CRead K (He.ga K "Plan") (.type "type")
  rd_Task : ClX.CRead K (He.ga K "Task") (.type "type")
  cc_Plan_ROWS : ∃ t, PySem.W.findCls K (.ref (He.ga K "Plan")) (.type "type") "ROWS" = some (.val (.int 60 t))
  cc_Plan_SIZE : ∃ t, PySem.W.findCls K (.ref (He.ga K "Plan")) (.type "type") "SIZE" = some (.val (.int 20 t))
  cc_Task_REPLIES : ∃ t, PySem.W.findCls K (.ref (He.ga K "Task")) (.type "type") "REPLIES" = some (.val (.int 3 t))
  cc_Task_ROWS : ∃ t, PySem.W.findCls K (.ref (He.ga K "Task")) (.type "type") "ROWS" = some (.val (.int 4 t))
  cc_Task_RULES : ∃ t, PySem.W.findCls K (.ref (He.ga K "Task")) (.type "type") "RULES" = some (.val (.int 4 t))
  cc_Task_SIZE : ∃ t, PySem.W.findCls K (.ref (He.ga K "Task")) (.type "type") "SIZE" = some (.val (.int 3 t))
  me_Affine___neg__ : Meth K (He.ga K "Affine") "__neg__" (He.ma K (He.ga K "Affine") "__neg__")
  me_Affine___sub__ : Meth K (He.ga K "Affine") "__sub__" (He.ma K (He.ga K "Affine") "__sub__")
  me_Affine_head : Meth K (He.ga K "Affine") "head" (He.ma K (He.ga K "Affine") "head")
  me_Affine_placed : Meth K (He.ga K "Affine") "placed" (He.ma K (He.ga K "Affine") "placed")
  me_Affine_scaled : Meth K (He.ga K "Affine") "scaled" (He.ma K (He.ga K "Affine") "scaled")
  me_Pairs_plans_at : Meth K (He.ga K "Pairs") "plans_at" (He.ma K (He.ga K "Pairs") "plans_at")
  rd_Affine : ClX.CRead K (He.ga K "Affine") (.type "type")
  wr_Affine_from_numbers : He5.wrapB K (He.ga K "Affine") "staticmethod" "staticmethod.__get__" "from_numbers" = true
  wr_Affine_variable : He5.wrapB K (He.ga K "Affine") "staticmethod" "staticmethod.__get__" "variable" = true
  isi_Affine : Isi K "Affine"
  isi_Plan : Isi K "Plan"
  sf_Affine : PySem.W.selfFirst K (He.ga K "Affine") = true
  ki_Affine_Affine : PySem.W.kitOne K (.ref (He.ga K "Affine")) (.ref (He.ga K "Affine")) = some true
  ki_Plan_Plan : PySem.W.kitOne K (.ref (He.ga K "Plan")) (.ref (He.ga K "Plan")) = some true
end LW

namespace LW
open PySem L2 FL
section
variable {P : Program} {w : World} {K : PySem.W.Frag} {mg : Str → Option Value} {base : Heap}
abbrev N_ratio : List Str := [("top" : Str), ("bottom" : Str), ("common" : Str)]
theorem sc_ratio : FnScope N_ratio [("top" : Str), ("bottom" : Str)] (defScope (top 7)) := ⟨rfl, rfl, rfl, by decide +kernel, rfl, by decide +kernel, by decide +kernel⟩
theorem d_ratio {f : Addr} {fd : FuncData} (Fd : FnP K "ratio" (top 7) f fd) (T : T0 K mg)  : FnOk P w K mg base (L2.CX P w) 1 f fd [("top" : Str), ("bottom" : Str)] (spF K (rtF (Int × Int)) m_ratio) :=
  fn_def (αs := Int × Int × Unit) (G' := nl) (n := 1) Fd sc_ratio rfl rfl (fun cdv A outer s F H E hr tk =>
    (fss_cons (fs_if (ft_eq (fe_var 1) fe_int) (fss_one (fs_rai tk T.x_BadNumber)) fss_nil)
    (fss_cons (fs_B (fn_set 2 rfl (fe_gcd (fe_var 0) (fe_var 1) T.gcd) sc_ratio.nd))
    (fss_cons (fs_n (fn_if (ft_lt (fe_var 1) fe_int) (fns_B (fn_set 2 rfl (fe_neg (fe_var 2)) sc_ratio.nd) fns_nil) fns_nil))
    (fss_one (fs_ret (fe_tup2 (fe_fdv (fe_var 0) (fe_var 2)) (fe_fdv (fe_var 1) (fe_var 2))))))))) (fun z => by simp only [bind_ok']; rfl)
abbrev N_common_divisor_l : List Str := [("tops" : Str), ("start" : Str), ("common" : Str), ("top" : Str)]
theorem sc_common_divisor_l : FnScope N_common_divisor_l [("tops" : Str), ("start" : Str)] (defScope (top 9)) := ⟨rfl, rfl, rfl, by decide +kernel, rfl, by decide +kernel, by decide +kernel⟩
theorem d_common_divisor_l {f : Addr} {fd : FuncData} (Fd : FnP K "common_divisor" (top 9) f fd) (T : T0 K mg)  : FnOk P w K mg base (L2.CX P w) 1 f fd [("tops" : Str), ("start" : Str)] (spF K (rtF Int) m_common_divisor_l) :=
  fn_def (αs := (List Int) × Int × Unit) (G' := nl) (n := 2) Fd sc_common_divisor_l rfl rfl (fun cdv A outer s F H E hr tk =>
    (fss_cons (fs_B (fn_set 2 rfl (fe_abs (fe_var 1) (T.f_abs)) sc_common_divisor_l.nd))
    (fss_cons (fs_n (fn_for (passes_of rfl) (fi_list (fe_var 0)) (fg_name 3 rfl sc_common_divisor_l.nd) (fns_B (fn_set 2 rfl (fe_gcd (fe_var 2) (fe_var 3) T.gcd) sc_common_divisor_l.nd) (fns_nilS (G' := (va (List Int) (va Int (va Int (un nl)))))))))
    (fss_one (fs_ret (fe_var 2)))))) (fun z => by simp only [bind_ok']; rfl)
abbrev N_common_divisor_u : List Str := [("tops" : Str), ("start" : Str), ("common" : Str), ("top" : Str)]
theorem sc_common_divisor_u : FnScope N_common_divisor_u [("tops" : Str), ("start" : Str)] (defScope (top 9)) := ⟨rfl, rfl, rfl, by decide +kernel, rfl, by decide +kernel, by decide +kernel⟩
theorem d_common_divisor_u {f : Addr} {fd : FuncData} (Fd : FnP K "common_divisor" (top 9) f fd) (T : T0 K mg)  : FnOk P w K mg base (L2.CX P w) 1 f fd [("tops" : Str), ("start" : Str)] (spF K (rtF Int) m_common_divisor_u) :=
  fn_def (αs := (Tu Int) × Int × Unit) (G' := nl) (n := 2) Fd sc_common_divisor_u rfl rfl (fun cdv A outer s F H E hr tk =>
    (fss_cons (fs_B (fn_set 2 rfl (fe_abs (fe_var 1) (T.f_abs)) sc_common_divisor_u.nd))
    (fss_cons (fs_n (fn_for (passes_of rfl) (fi_tup (fe_var 0)) (fg_name 3 rfl sc_common_divisor_u.nd) (fns_B (fn_set 2 rfl (fe_gcd (fe_var 2) (fe_var 3) T.gcd) sc_common_divisor_u.nd) (fns_nilS (G' := (va (Tu Int) (va Int (va Int (un nl)))))))))
    (fss_one (fs_ret (fe_var 2)))))) (fun z => by simp only [bind_ok']; rfl)
abbrev N_point_l : List Str := [("tops" : Str), ("bottom" : Str), ("common" : Str), ("top" : Str)]
theorem sc_point_l : FnScope N_point_l [("tops" : Str), ("bottom" : Str)] (defScope (top 10)) := ⟨rfl, rfl, rfl, by decide +kernel, rfl, by decide +kernel, by decide +kernel⟩
theorem d_point_l {f : Addr} {fd : FuncData} (Fd : FnP K "point" (top 10) f fd) (T : T0 K mg) (D_common_divisor_l : Dk P w K mg base "common_divisor" [("tops" : Str), ("start" : Str)] 1 (spF K (rtF Int) m_common_divisor_l)) : FnOk P w K mg base (L2.CX P w) 2 f fd [("tops" : Str), ("bottom" : Str)] (spF K (rtF ((Tu Int) × Int)) m_point_l) :=
  fn_def (αs := (List Int) × Int × Unit) (G' := nl) (n := 2) Fd sc_point_l rfl rfl (fun cdv A outer s F H E hr tk =>
    (fss_cons (fs_if (ft_eq (fe_var 1) fe_int) (fss_one (fs_rai tk T.x_BadNumber)) fss_nil)
    (fss_cons (fs_B (fn_set 2 rfl (fe_cal D_common_divisor_l tk hr (fa_cons (fe_var 0) (fa_cons (fe_var 1) fa_nil))) sc_point_l.nd))
    (fss_cons (fs_n (fn_if (ft_lt (fe_var 1) fe_int) (fns_B (fn_set 2 rfl (fe_neg (fe_var 2)) sc_point_l.nd) fns_nil) fns_nil))
    (fss_one (fs_ret (fe_tup2 (fe_tupL (fe_fz (fo_lc (vs := [3]) (own := [(("top" : Str), 3)]) rfl (blkOk_by (N := N_point_l) (sc := defScope (top 10)) (by decide +kernel)) sc_point_l.nd (fi_list (fe_var 0)) (fgb_name 3 sc_point_l.nd) fts_nil (fun s H C cl fp => (fe_fdv (fe_var 3) (fe_var 2))))) (T.f_tuple)) (fe_fdv (fe_var 1) (fe_var 2))))))))) (fun z => by simp only [bind_ok']; rfl)
abbrev N_point_u : List Str := [("tops" : Str), ("bottom" : Str), ("common" : Str), ("top" : Str)]
theorem sc_point_u : FnScope N_point_u [("tops" : Str), ("bottom" : Str)] (defScope (top 10)) := ⟨rfl, rfl, rfl, by decide +kernel, rfl, by decide +kernel, by decide +kernel⟩
theorem d_point_u {f : Addr} {fd : FuncData} (Fd : FnP K "point" (top 10) f fd) (T : T0 K mg) (D_common_divisor_u : Dk P w K mg base "common_divisor" [("tops" : Str), ("start" : Str)] 1 (spF K (rtF Int) m_common_divisor_u)) : FnOk P w K mg base (L2.CX P w) 2 f fd [("tops" : Str), ("bottom" : Str)] (spF K (rtF ((Tu Int) × Int)) m_point_u) :=
  fn_def (αs := (Tu Int) × Int × Unit) (G' := nl) (n := 2) Fd sc_point_u rfl rfl (fun cdv A outer s F H E hr tk =>
    (fss_cons (fs_if (ft_eq (fe_var 1) fe_int) (fss_one (fs_rai tk T.x_BadNumber)) fss_nil)
    (fss_cons (fs_B (fn_set 2 rfl (fe_cal D_common_divisor_u tk hr (fa_cons (fe_var 0) (fa_cons (fe_var 1) fa_nil))) sc_point_u.nd))
    (fss_cons (fs_n (fn_if (ft_lt (fe_var 1) fe_int) (fns_B (fn_set 2 rfl (fe_neg (fe_var 2)) sc_point_u.nd) fns_nil) fns_nil))
    (fss_one (fs_ret (fe_tup2 (fe_tupL (fe_fz (fo_lc (vs := [3]) (own := [(("top" : Str), 3)]) rfl (blkOk_by (N := N_point_u) (sc := defScope (top 10)) (by decide +kernel)) sc_point_u.nd (fi_tup (fe_var 0)) (fgb_name 3 sc_point_u.nd) fts_nil (fun s H C cl fp => (fe_fdv (fe_var 3) (fe_var 2))))) (T.f_tuple)) (fe_fdv (fe_var 1) (fe_var 2))))))))) (fun z => by simp only [bind_ok']; rfl)
abbrev N_point_of : List Str := [("numbers" : Str), ("bottom" : Str), ("number" : Str)]
theorem sc_point_of : FnScope N_point_of [("numbers" : Str)] (defScope (top 11)) := ⟨rfl, rfl, rfl, by decide +kernel, rfl, by decide +kernel, by decide +kernel⟩
theorem d_point_of {f : Addr} {fd : FuncData} (Fd : FnP K "point_of" (top 11) f fd) (T : T0 K mg) (D_point_l : Dk P w K mg base "point" [("tops" : Str), ("bottom" : Str)] 2 (spF K (rtF ((Tu Int) × Int)) m_point_l)) : FnOk P w K mg base (L2.CX P w) 3 f fd [("numbers" : Str)] (spF K (rtF ((Tu Int) × Int)) m_point_of) :=
  fn_def (αs := (List (Int × Int)) × Unit) (G' := nl) (n := 2) Fd sc_point_of rfl rfl (fun cdv A outer s F H E hr tk =>
    (fss_cons (fs_B (fn_set 1 rfl fe_int sc_point_of.nd))
    (fss_cons (fs_n (fn_for (passes_of rfl) (fi_list (fe_var 0)) (fg_name 2 rfl sc_point_of.nd) (fns_B (fn_set 1 rfl (fe_lcm (fe_var 1) (fe_p1 (fe_var 2)) T.lcm) sc_point_of.nd) (fns_nilS (G' := (va (List (Int × Int)) (va Int (un nl))))))))
    (fss_one (fs_ret (fe_cal D_point_l tk hr (fa_cons (fe_fz (fo_lc (vs := [2]) (own := [(("number" : Str), 2)]) rfl (blkOk_by (N := N_point_of) (sc := defScope (top 11)) (by decide +kernel)) sc_point_of.nd (fi_list (fe_var 0)) (fgb_name 2 sc_point_of.nd) fts_nil (fun s H C cl fp => (fe_mul (fe_p0 (fe_var 2)) (fe_fdv (fe_var 1) (fe_p1 (fe_var 2))))))) (fa_cons (fe_var 1) fa_nil)))))))) (fun z => by simp only [bind_ok']; rfl)
abbrev N_Affine___init___l : List Str := [("self" : Str), ("coefs" : Str), ("constant" : Str), ("bottom" : Str), ("common" : Str), ("coef" : Str)]
theorem sc_Affine___init___l : FnScope N_Affine___init___l [("self" : Str), ("coefs" : Str), ("constant" : Str), ("bottom" : Str)] (defScope mt_Affine___init__) := ⟨rfl, rfl, rfl, by decide +kernel, rfl, by decide +kernel, by decide +kernel⟩
theorem d_Affine___init___l {f : Addr} {fd : FuncData} (Fd : FnM K "__init__" "Affine.__init__" mt_Affine___init__ [.int 1] f fd) (T : T0 K mg) (D_common_divisor_l : Dk P w K mg base "common_divisor" [("tops" : Str), ("start" : Str)] 1 (spF K (rtF Int) m_common_divisor_l)) : FnOk P w K mg base (L2.CX P w) 2 f fd [("self" : Str), ("coefs" : Str), ("constant" : Str), ("bottom" : Str)] (spI K "Affine" Fs_Affine m_Affine___init___l) :=
  fn_init (αs := (List Int) × Int × Int × Unit) (C := "Affine") (nsF := Fs_Affine) (n := 2) Fd sc_Affine___init___l rfl rfl (fun cdv A outer s F H1 H E x hr tk =>
    (fk_n (fun F1 H1 => (fn_if (ft_eq (fe_var 3) fe_int) (fns_one (fn_rai tk T.x_BadNumber)) fns_nil))
    (fk_B (fun F1 H1 => (fn_set 4 rfl (fe_cal D_common_divisor_l tk hr (fa_cons (fe_var 1) (fa_cons (fe_gcd (fe_var 2) (fe_var 3) T.gcd) fa_nil))) sc_Affine___init___l.nd))
    (fk_n (fun F1 H1 => (fn_if (ft_lt (fe_var 3) fe_int) (fns_B (fn_set 4 rfl (fe_neg (fe_var 4)) sc_Affine___init___l.nd) fns_nil) fns_nil))
    (fk_fld (fun F1 H1 => (fe_tupL (fe_fz (fo_lc (vs := [5]) (own := [(("coef" : Str), 5)]) rfl (blkOk_by (N := N_Affine___init___l) (sc := defScope mt_Affine___init__) (by decide +kernel)) sc_Affine___init___l.nd (fi_list (fe_var 1)) (fgb_name 5 sc_Affine___init___l.nd) fts_nil (fun s H C cl fp => (fe_fdv (fe_var 5) (fe_var 4))))) (T.f_tuple)))
    (fk_fld (fun F1 H1 => (fe_fdv (fe_var 2) (fe_var 4)))
    (fk_fld (fun F1 H1 => (fe_fdv (fe_var 3) (fe_var 4)))
    (fk_fld (fun F1 H1 => (fe_len (fe_slf 0 T.cl_Affine T.na_Affine_coefs) (T.f_len)))
    fk_nil T.cl_Affine T.na_Affine_size) T.cl_Affine T.na_Affine_bottom) T.cl_Affine T.na_Affine_constant) T.cl_Affine T.na_Affine_coefs))))) (fun z => by simp only [bind_ok']; rfl)
abbrev N_Affine___init___u : List Str := [("self" : Str), ("coefs" : Str), ("constant" : Str), ("bottom" : Str), ("common" : Str), ("coef" : Str)]
theorem sc_Affine___init___u : FnScope N_Affine___init___u [("self" : Str), ("coefs" : Str), ("constant" : Str), ("bottom" : Str)] (defScope mt_Affine___init__) := ⟨rfl, rfl, rfl, by decide +kernel, rfl, by decide +kernel, by decide +kernel⟩
theorem d_Affine___init___u {f : Addr} {fd : FuncData} (Fd : FnM K "__init__" "Affine.__init__" mt_Affine___init__ [.int 1] f fd) (T : T0 K mg) (D_common_divisor_u : Dk P w K mg base "common_divisor" [("tops" : Str), ("start" : Str)] 1 (spF K (rtF Int) m_common_divisor_u)) : FnOk P w K mg base (L2.CX P w) 2 f fd [("self" : Str), ("coefs" : Str), ("constant" : Str), ("bottom" : Str)] (spI K "Affine" Fs_Affine m_Affine___init___u) :=
  fn_init (αs := (Tu Int) × Int × Int × Unit) (C := "Affine") (nsF := Fs_Affine) (n := 2) Fd sc_Affine___init___u rfl rfl (fun cdv A outer s F H1 H E x hr tk =>
    (fk_n (fun F1 H1 => (fn_if (ft_eq (fe_var 3) fe_int) (fns_one (fn_rai tk T.x_BadNumber)) fns_nil))
    (fk_B (fun F1 H1 => (fn_set 4 rfl (fe_cal D_common_divisor_u tk hr (fa_cons (fe_var 1) (fa_cons (fe_gcd (fe_var 2) (fe_var 3) T.gcd) fa_nil))) sc_Affine___init___u.nd))
    (fk_n (fun F1 H1 => (fn_if (ft_lt (fe_var 3) fe_int) (fns_B (fn_set 4 rfl (fe_neg (fe_var 4)) sc_Affine___init___u.nd) fns_nil) fns_nil))
    (fk_fld (fun F1 H1 => (fe_tupL (fe_fz (fo_lc (vs := [5]) (own := [(("coef" : Str), 5)]) rfl (blkOk_by (N := N_Affine___init___u) (sc := defScope mt_Affine___init__) (by decide +kernel)) sc_Affine___init___u.nd (fi_tup (fe_var 1)) (fgb_name 5 sc_Affine___init___u.nd) fts_nil (fun s H C cl fp => (fe_fdv (fe_var 5) (fe_var 4))))) (T.f_tuple)))
    (fk_fld (fun F1 H1 => (fe_fdv (fe_var 2) (fe_var 4)))
    (fk_fld (fun F1 H1 => (fe_fdv (fe_var 3) (fe_var 4)))
    (fk_fld (fun F1 H1 => (fe_len (fe_slf 0 T.cl_Affine T.na_Affine_coefs) (T.f_len)))
    fk_nil T.cl_Affine T.na_Affine_size) T.cl_Affine T.na_Affine_bottom) T.cl_Affine T.na_Affine_constant) T.cl_Affine T.na_Affine_coefs))))) (fun z => by simp only [bind_ok']; rfl)
abbrev N_Affine_variable : List Str := [("size" : Str), ("k" : Str), ("j" : Str)]
theorem sc_Affine_variable : FnScope N_Affine_variable [("size" : Str), ("k" : Str)] (defScope mt_Affine_variable) := ⟨rfl, rfl, rfl, by decide +kernel, rfl, by decide +kernel, by decide +kernel⟩
theorem d_Affine_variable {f : Addr} {fd : FuncData} (Fd : FnM K "variable" "Affine.variable" mt_Affine_variable [] f fd) (T : T0 K mg) (D_Affine___init___l_D1 : Di P w K mg base "Affine" [("self" : Str), ("coefs" : Str), ("constant" : Str), ("bottom" : Str)] [.int 1] 2 (spI K "Affine" Fs_Affine m_Affine___init___l)) : FnOk P w K mg base (L2.CX P w) 4 f fd [("size" : Str), ("k" : Str)] (spF K (rtF Ty_Affine) m_Affine_variable) :=
  fn_def (αs := Int × Int × Unit) (G' := nl) (n := 1) Fd sc_Affine_variable rfl rfl (fun cdv A outer s F H E hr tk =>
    (fss_one (fs_ret (fe_make1 D_Affine___init___l_D1 tk hr (fa_cons (fe_fz (fo_lc (vs := [2]) (own := [(("j" : Str), 2)]) rfl (blkOk_by (N := N_Affine_variable) (sc := defScope mt_Affine_variable) (by decide +kernel)) sc_Affine_variable.nd (fi_range1 (fe_var 0) (T.f_range)) (fgb_name 2 sc_Affine_variable.nd) fts_nil (fun s H C cl fp => (fe_intB (fe_eq (fe_var 2) (fe_var 1)) (T.f_int))))) (fa_cons fe_int fa_nil)))))) (fun z => by simp only [bind_ok']; rfl)
abbrev N_Affine_from_numbers : List Str := [("coefs" : Str), ("constant" : Str), ("tops" : Str), ("bottom" : Str)]
theorem sc_Affine_from_numbers : FnScope N_Affine_from_numbers [("coefs" : Str), ("constant" : Str)] (defScope mt_Affine_from_numbers) := ⟨rfl, rfl, rfl, by decide +kernel, rfl, by decide +kernel, by decide +kernel⟩
theorem d_Affine_from_numbers {f : Addr} {fd : FuncData} (Fd : FnM K "from_numbers" "Affine.from_numbers" mt_Affine_from_numbers [] f fd) (T : T0 K mg) (D_point_of : Dk P w K mg base "point_of" [("numbers" : Str)] 3 (spF K (rtF ((Tu Int) × Int)) m_point_of)) (D_Affine___init___u : Di P w K mg base "Affine" [("self" : Str), ("coefs" : Str), ("constant" : Str), ("bottom" : Str)] [] 2 (spI K "Affine" Fs_Affine m_Affine___init___u)) : FnOk P w K mg base (L2.CX P w) 4 f fd [("coefs" : Str), ("constant" : Str)] (spF K (rtF Ty_Affine) m_Affine_from_numbers) :=
  fn_def (αs := (List (Int × Int)) × (Int × Int) × Unit) (G' := nl) (n := 2) Fd sc_Affine_from_numbers rfl rfl (fun cdv A outer s F H E hr tk =>
    (fss_cons (fs_B (fn_asg (fe_cal D_point_of tk hr (fa_cons (fe_fz (fo_cat (fo_list (fe_var 0) (T.f_list)) (fo_lst (fh_cons (fe_var 1) fh_nil)))) fa_nil)) (fg_two 2 3 ⟨rfl, rfl⟩ sc_Affine_from_numbers.nd)))
    (fss_one (fs_ret (fe_make D_Affine___init___u tk hr (fa_cons (fe_slU (fe_var 2) fp_none (fp_some (fe_neg fe_int))) (fa_cons (fe_ixU (fe_var 2) (fe_neg fe_int)) (fa_cons (fe_var 3) fa_nil)))))))) (fun z => by simp only [bind_ok']; rfl)
abbrev N_Affine___sub__ : List Str := [("self" : Str), ("other" : Str), ("bottom" : Str), ("mine" : Str), ("its" : Str), ("coefs" : Str), ("one" : Str), ("two" : Str)]
theorem sc_Affine___sub__ : FnScope N_Affine___sub__ [("self" : Str), ("other" : Str)] (defScope mt_Affine___sub__) := ⟨rfl, rfl, rfl, by decide +kernel, rfl, by decide +kernel, by decide +kernel⟩
theorem d_Affine___sub__ {f : Addr} {fd : FuncData} (Fd : FnM K "__sub__" "Affine.__sub__" mt_Affine___sub__ [] f fd) (T : T0 K mg) (D_Affine___init___l : Di P w K mg base "Affine" [("self" : Str), ("coefs" : Str), ("constant" : Str), ("bottom" : Str)] [] 2 (spI K "Affine" Fs_Affine m_Affine___init___l)) : FnOk P w K mg base (L2.CX P w) 4 f fd [("self" : Str), ("other" : Str)] (spF K (rtF Ty_Affine) m_Affine___sub__) :=
  fn_def (αs := Ty_Affine × Ty_Affine × Unit) (G' := nl) (n := 6) Fd sc_Affine___sub__ rfl rfl (fun cdv A outer s F H E hr tk =>
    (fss_cons (fs_if (ft_not (ft_val (fe_isiC (ok := fun K => Isi K "Affine") (ty := fun K => .ref (He.ga K "Affine")) true (fe_var 1) T.isi_Affine T.ki_Affine_Affine T.g_Affine (T.f_isinstance)))) fss_dead fss_nil)
    (fss_cons (fs_B (fn_set 2 rfl (fe_lcm (fe_fld 2 (fe_var 0) T.cl_Affine T.na_Affine_bottom) (fe_fld 2 (fe_var 1) T.cl_Affine T.na_Affine_bottom) T.lcm) sc_Affine___sub__.nd))
    (fss_cons (fs_B (fn_set 3 rfl (fe_fdv (fe_var 2) (fe_fld 2 (fe_var 0) T.cl_Affine T.na_Affine_bottom)) sc_Affine___sub__.nd))
    (fss_cons (fs_B (fn_set 4 rfl (fe_fdv (fe_var 2) (fe_fld 2 (fe_var 1) T.cl_Affine T.na_Affine_bottom)) sc_Affine___sub__.nd))
    (fss_cons (fs_B (fn_setLcF (vs := [6, 7]) (own := [(("one" : Str), 6), (("two" : Str), 7)]) 5 rfl rfl (blkOk_by (N := N_Affine___sub__) (sc := defScope mt_Affine___sub__) (by decide +kernel)) sc_Affine___sub__.nd (fi_zipT (fe_fld 0 (fe_var 0) T.cl_Affine T.na_Affine_coefs) (fe_fld 0 (fe_var 1) T.cl_Affine T.na_Affine_coefs) (T.f_zip)) (fgb_two 6 7 sc_Affine___sub__.nd) fts_nil (fun s H C cl fp => (fe_sub (fe_mul (fe_var 3) (fe_var 6)) (fe_mul (fe_var 4) (fe_var 7))))))
    (fss_one (fs_ret (fe_make D_Affine___init___l tk hr (fa_cons (fe_var 5) (fa_cons (fe_sub (fe_mul (fe_var 3) (fe_fld 1 (fe_var 0) T.cl_Affine T.na_Affine_constant)) (fe_mul (fe_var 4) (fe_fld 1 (fe_var 1) T.cl_Affine T.na_Affine_constant))) (fa_cons (fe_var 2) fa_nil)))))))))))) (fun z => by simp only [bind_ok']; rfl)
abbrev N_Affine___neg__ : List Str := [("self" : Str), ("coef" : Str)]
theorem sc_Affine___neg__ : FnScope N_Affine___neg__ [("self" : Str)] (defScope mt_Affine___neg__) := ⟨rfl, rfl, rfl, by decide +kernel, rfl, by decide +kernel, by decide +kernel⟩
theorem d_Affine___neg__ {f : Addr} {fd : FuncData} (Fd : FnM K "__neg__" "Affine.__neg__" mt_Affine___neg__ [] f fd) (T : T0 K mg) (D_Affine___init___l : Di P w K mg base "Affine" [("self" : Str), ("coefs" : Str), ("constant" : Str), ("bottom" : Str)] [] 2 (spI K "Affine" Fs_Affine m_Affine___init___l)) : FnOk P w K mg base (L2.CX P w) 4 f fd [("self" : Str)] (spF K (rtF Ty_Affine) m_Affine___neg__) :=
  fn_def (αs := Ty_Affine × Unit) (G' := nl) (n := 1) Fd sc_Affine___neg__ rfl rfl (fun cdv A outer s F H E hr tk =>
    (fss_one (fs_ret (fe_make D_Affine___init___l tk hr (fa_cons (fe_fz (fo_lc (vs := [1]) (own := [(("coef" : Str), 1)]) rfl (blkOk_by (N := N_Affine___neg__) (sc := defScope mt_Affine___neg__) (by decide +kernel)) sc_Affine___neg__.nd (fi_tup (fe_fld 0 (fe_var 0) T.cl_Affine T.na_Affine_coefs)) (fgb_name 1 sc_Affine___neg__.nd) fts_nil (fun s H C cl fp => (fe_neg (fe_var 1))))) (fa_cons (fe_neg (fe_fld 1 (fe_var 0) T.cl_Affine T.na_Affine_constant)) (fa_cons (fe_fld 2 (fe_var 0) T.cl_Affine T.na_Affine_bottom) fa_nil))))))) (fun z => by simp only [bind_ok']; rfl)
abbrev N_Affine_scaled : List Str := [("self" : Str), ("number" : Str), ("coefs" : Str), ("coef" : Str)]
theorem sc_Affine_scaled : FnScope N_Affine_scaled [("self" : Str), ("number" : Str)] (defScope mt_Affine_scaled) := ⟨rfl, rfl, rfl, by decide +kernel, rfl, by decide +kernel, by decide +kernel⟩
theorem d_Affine_scaled {f : Addr} {fd : FuncData} (Fd : FnM K "scaled" "Affine.scaled" mt_Affine_scaled [] f fd) (T : T0 K mg) (D_Affine___init___l : Di P w K mg base "Affine" [("self" : Str), ("coefs" : Str), ("constant" : Str), ("bottom" : Str)] [] 2 (spI K "Affine" Fs_Affine m_Affine___init___l)) : FnOk P w K mg base (L2.CX P w) 4 f fd [("self" : Str), ("number" : Str)] (spF K (rtF Ty_Affine) m_Affine_scaled) :=
  fn_def (αs := Ty_Affine × (Int × Int) × Unit) (G' := nl) (n := 2) Fd sc_Affine_scaled rfl rfl (fun cdv A outer s F H E hr tk =>
    (fss_cons (fs_B (fn_setLcF (vs := [3]) (own := [(("coef" : Str), 3)]) 2 rfl rfl (blkOk_by (N := N_Affine_scaled) (sc := defScope mt_Affine_scaled) (by decide +kernel)) sc_Affine_scaled.nd (fi_tup (fe_fld 0 (fe_var 0) T.cl_Affine T.na_Affine_coefs)) (fgb_name 3 sc_Affine_scaled.nd) fts_nil (fun s H C cl fp => (fe_mul (fe_p0 (fe_var 1)) (fe_var 3)))))
    (fss_one (fs_ret (fe_make D_Affine___init___l tk hr (fa_cons (fe_var 2) (fa_cons (fe_mul (fe_p0 (fe_var 1)) (fe_fld 1 (fe_var 0) T.cl_Affine T.na_Affine_constant)) (fa_cons (fe_mul (fe_p1 (fe_var 1)) (fe_fld 2 (fe_var 0) T.cl_Affine T.na_Affine_bottom)) fa_nil)))))))) (fun z => by simp only [bind_ok']; rfl)
abbrev N_Affine_placed : List Str := [("self" : Str), ("size" : Str), ("start" : Str), ("coefs" : Str)]
theorem sc_Affine_placed : FnScope N_Affine_placed [("self" : Str), ("size" : Str), ("start" : Str)] (defScope mt_Affine_placed) := ⟨rfl, rfl, rfl, by decide +kernel, rfl, by decide +kernel, by decide +kernel⟩
theorem d_Affine_placed {f : Addr} {fd : FuncData} (Fd : FnM K "placed" "Affine.placed" mt_Affine_placed [] f fd) (T : T0 K mg) (D_Affine___init___l : Di P w K mg base "Affine" [("self" : Str), ("coefs" : Str), ("constant" : Str), ("bottom" : Str)] [] 2 (spI K "Affine" Fs_Affine m_Affine___init___l)) : FnOk P w K mg base (L2.CX P w) 4 f fd [("self" : Str), ("size" : Str), ("start" : Str)] (spF K (rtF Ty_Affine) m_Affine_placed) :=
  fn_def (αs := Ty_Affine × Int × Int × Unit) (G' := nl) (n := 1) Fd sc_Affine_placed rfl rfl (fun cdv A outer s F H E hr tk =>
    (fss_cons (fs_B (fn_set 3 rfl (fe_fz (fo_cat (fo_cat (fo_rep (fo_lst (fh_cons fe_int fh_nil)) (fe_var 2)) (fo_listT (fe_fld 0 (fe_var 0) T.cl_Affine T.na_Affine_coefs) (T.f_list))) (fo_rep (fo_lst (fh_cons fe_int fh_nil)) (fe_sub (fe_sub (fe_var 1) (fe_var 2)) (fe_fld 3 (fe_var 0) T.cl_Affine T.na_Affine_size))))) sc_Affine_placed.nd))
    (fss_one (fs_ret (fe_make D_Affine___init___l tk hr (fa_cons (fe_var 3) (fa_cons (fe_fld 1 (fe_var 0) T.cl_Affine T.na_Affine_constant) (fa_cons (fe_fld 2 (fe_var 0) T.cl_Affine T.na_Affine_bottom) fa_nil)))))))) (fun z => by simp only [bind_ok']; rfl)
abbrev N_Affine_head : List Str := [("self" : Str), ("count" : Str)]
theorem sc_Affine_head : FnScope N_Affine_head [("self" : Str), ("count" : Str)] (defScope mt_Affine_head) := ⟨rfl, rfl, rfl, by decide +kernel, rfl, by decide +kernel, by decide +kernel⟩
theorem d_Affine_head {f : Addr} {fd : FuncData} (Fd : FnM K "head" "Affine.head" mt_Affine_head [] f fd) (T : T0 K mg) (D_Affine___init___u : Di P w K mg base "Affine" [("self" : Str), ("coefs" : Str), ("constant" : Str), ("bottom" : Str)] [] 2 (spI K "Affine" Fs_Affine m_Affine___init___u)) : FnOk P w K mg base (L2.CX P w) 4 f fd [("self" : Str), ("count" : Str)] (spF K (rtF Ty_Affine) m_Affine_head) :=
  fn_def (αs := Ty_Affine × Int × Unit) (G' := nl) (n := 0) Fd sc_Affine_head rfl rfl (fun cdv A outer s F H E hr tk =>
    (fss_one (fs_ret (fe_make D_Affine___init___u tk hr (fa_cons (fe_slU (fe_fld 0 (fe_var 0) T.cl_Affine T.na_Affine_coefs) fp_none (fp_some (fe_var 1))) (fa_cons (fe_fld 1 (fe_var 0) T.cl_Affine T.na_Affine_constant) (fa_cons (fe_fld 2 (fe_var 0) T.cl_Affine T.na_Affine_bottom) fa_nil))))))) (fun z => by simp only [bind_ok']; rfl)
abbrev N_weight_rows : List Str := [("task" : Str), ("found" : Str), ("j" : Str), ("prices" : Str), ("row" : Str)]
theorem sc_weight_rows : FnScope N_weight_rows [("task" : Str)] (defScope (top 15)) := ⟨rfl, rfl, rfl, by decide +kernel, rfl, by decide +kernel, by decide +kernel⟩
theorem d_weight_rows {f : Addr} {fd : FuncData} (Fd : FnP K "weight_rows" (top 15) f fd) (T : T0 K mg) (D_Affine_from_numbers : Ds P w K mg base "Affine" "from_numbers" [("coefs" : Str), ("constant" : Str)] 4 (spF K (rtF Ty_Affine) m_Affine_from_numbers)) : FnOk P w K mg base (L2.CX P w) 5 f fd [("task" : Str)] (spF K (rtO Ty_Affine) m_weight_rows) :=
  fn_def (αs := Ty_Task × Unit) (G' := nl) (n := 4) Fd sc_weight_rows rfl rfl (fun cdv A outer s F H E hr tk =>
    (fss_cons (fs_B (fn_setO 1 rfl (fo_nil (α := Ty_Affine)) sc_weight_rows.nd))
    (fss_cons (fs_n (fn_for (passes_of rfl) (fi_range2 (fe_fld 0 (fe_var 0) T.cl_Task T.na_Task_size) (fe_add (fe_fld 0 (fe_var 0) T.cl_Task T.na_Task_size) (fe_fld 1 (fe_var 0) T.cl_Task T.na_Task_replies)) (T.f_range)) (fg_name 2 rfl sc_weight_rows.nd) (fns_B (fn_setLcF (vs := [4]) (own := [(("row" : Str), 4)]) 3 rfl rfl (blkOk_by (N := N_weight_rows) (sc := defScope (top 15)) (by decide +kernel)) sc_weight_rows.nd (fi_tup (fe_fld 5 (fe_var 0) T.cl_Task T.na_Task_rows)) (fgb_name 4 sc_weight_rows.nd) fts_nil (fun s H C cl fp => (fe_tup2 (fe_neg (fe_ixU (fe_fld 0 (fe_var 4) T.cl_Affine T.na_Affine_coefs) (fe_var 2))) (fe_fld 2 (fe_var 4) T.cl_Affine T.na_Affine_bottom)))) (fns_B2 (fn_append 1 (fe_sm D_Affine_from_numbers tk hr (fa_cons (fe_var 3) (fa_cons (fe_tup2 (fe_ixU (fe_fld 0 (fe_fld 4 (fe_var 0) T.cl_Task T.na_Task_aim) T.cl_Affine T.na_Affine_coefs) (fe_var 2)) (fe_fld 2 (fe_fld 4 (fe_var 0) T.cl_Task T.na_Task_aim) T.cl_Affine T.na_Affine_bottom)) fa_nil)))) (fns_nilS (G' := (va Ty_Task (ow Ty_Affine (un (un (un nl)))))))))))
    (fss_one (fs_retV 1))))) (fun z => by simp only [bind_ok']; rfl)
abbrev N_value_of : List Str := [("task" : Str), ("weights" : Str), ("total" : Str), ("row" : Str), ("top" : Str)]
theorem sc_value_of : FnScope N_value_of [("task" : Str), ("weights" : Str)] (defScope (top 16)) := ⟨rfl, rfl, rfl, by decide +kernel, rfl, by decide +kernel, by decide +kernel⟩
theorem d_value_of {f : Addr} {fd : FuncData} (Fd : FnP K "value_of" (top 16) f fd) (T : T0 K mg) (D_Affine_head : Dm P w K mg base "Affine" "head" [("self" : Str), ("count" : Str)] 4 (spF K (rtF Ty_Affine) m_Affine_head)) (D_Affine_scaled : Dm P w K mg base "Affine" "scaled" [("self" : Str), ("number" : Str)] 4 (spF K (rtF Ty_Affine) m_Affine_scaled)) (D_Affine___sub__ : Dm P w K mg base "Affine" "__sub__" [("self" : Str), ("other" : Str)] 4 (spF K (rtF Ty_Affine) m_Affine___sub__)) : FnOk P w K mg base (L2.CX P w) 5 f fd [("task" : Str), ("weights" : Str)] (spF K (rtF Ty_Affine) m_value_of) :=
  fn_def (αs := Ty_Task × ((Tu Int) × Int) × Unit) (G' := nl) (n := 3) Fd sc_value_of rfl rfl (fun cdv A outer s F H E hr tk =>
    (fss_cons (fs_B (fn_set 2 rfl (fe_meth D_Affine_head T.cl_Affine tk hr (fe_fld 4 (fe_var 0) T.cl_Task T.na_Task_aim) (fa_cons (fe_fld 0 (fe_var 0) T.cl_Task T.na_Task_size) fa_nil)) sc_value_of.nd))
    (fss_cons (fs_n (fn_for (passes_of rfl) (fi_zipT (fe_fld 5 (fe_var 0) T.cl_Task T.na_Task_rows) (fe_p0 (fe_var 1)) (T.f_zip)) (fg_two 3 4 ⟨rfl, rfl⟩ sc_value_of.nd) (fns_B (fn_set 2 rfl (fe_opOO D_Affine___sub__ T.sf_Affine tk hr (fe_var 2) (fe_meth D_Affine_scaled T.cl_Affine tk hr (fe_meth D_Affine_head T.cl_Affine tk hr (fe_var 3) (fa_cons (fe_fld 0 (fe_var 0) T.cl_Task T.na_Task_size) fa_nil)) (fa_cons (fe_tup2 (fe_var 4) (fe_p1 (fe_var 1))) fa_nil))) sc_value_of.nd) (fns_nilS (G' := (va Ty_Task (va ((Tu Int) × Int) (va Ty_Affine (un (un nl))))))))))
    (fss_one (fs_ret (fe_var 2)))))) (fun z => by simp only [bind_ok']; rfl)
abbrev N_Plan___init__ : List Str := [("self" : Str), ("size" : Str), ("rows" : Str), ("cost" : Str), ("row" : Str)]
theorem sc_Plan___init__ : FnScope N_Plan___init__ [("self" : Str), ("size" : Str), ("rows" : Str), ("cost" : Str)] (defScope mt_Plan___init__) := ⟨rfl, rfl, rfl, by decide +kernel, rfl, by decide +kernel, by decide +kernel⟩
theorem d_Plan___init__ {f : Addr} {fd : FuncData} (Fd : FnM K "__init__" "Plan.__init__" mt_Plan___init__ [] f fd) (T : T0 K mg)  : FnOk P w K mg base (L2.CX P w) 1 f fd [("self" : Str), ("size" : Str), ("rows" : Str), ("cost" : Str)] (spI K "Plan" Fs_Plan m_Plan___init__) :=
  fn_init (αs := Int × (List Ty_Affine) × Ty_Affine × Unit) (C := "Plan") (nsF := Fs_Plan) (n := 1) Fd sc_Plan___init__ rfl rfl (fun cdv A outer s F H1 H E x hr tk =>
    (fk_n (fun F1 H1 => (fn_if (ft_not (ft_chainLe fe_int (fe_var 1) (fe_ccon T.rd_Plan T.cc_Plan_SIZE T.g_Plan))) fns_dead fns_nil))
    (fk_n (fun F1 H1 => (fn_if (ft_w (fw_or (ft_gt (fe_len (fe_var 2) (T.f_len)) (fe_ccon T.rd_Plan T.cc_Plan_ROWS T.g_Plan)) (fw_or1 (ft_val (fe_any rfl (fe_fz (fo_lc (vs := [4]) (own := [(("row" : Str), 4)]) rfl (blkOk_by (N := N_Plan___init__) (sc := defScope mt_Plan___init__) (by decide +kernel)) sc_Plan___init__.nd (fi_list (fe_var 2)) (fgb_name 4 sc_Plan___init__.nd) fts_nil (fun s H C cl fp => (fe_ne (fe_fld 3 (fe_var 4) T.cl_Affine T.na_Affine_size) (fe_var 1))))) (T.f_any)))))) fns_dead fns_nil))
    (fk_n (fun F1 H1 => (fn_if (ft_ne (fe_fld 3 (fe_var 3) T.cl_Affine T.na_Affine_size) (fe_var 1)) fns_dead fns_nil))
    (fk_fld (fun F1 H1 => (fe_var 1))
    (fk_fld (fun F1 H1 => (fe_tupL (fe_var 2) (T.f_tuple)))
    (fk_fld (fun F1 H1 => (fe_var 3))
    fk_nil T.cl_Plan T.na_Plan_cost) T.cl_Plan T.na_Plan_rows) T.cl_Plan T.na_Plan_size))))) (fun z => by simp only [bind_ok']; rfl)
abbrev N_Pairs___init__ : List Str := [("self" : Str), ("task" : Str), ("whole" : Str), ("many" : Str), ("j" : Str), ("k" : Str)]
theorem sc_Pairs___init__ : FnScope N_Pairs___init__ [("self" : Str), ("task" : Str)] (defScope mt_Pairs___init__) := ⟨rfl, rfl, rfl, by decide +kernel, rfl, by decide +kernel, by decide +kernel⟩
theorem d_Pairs___init__ {f : Addr} {fd : FuncData} (Fd : FnM K "__init__" "Pairs.__init__" mt_Pairs___init__ [] f fd) (T : T0 K mg) (D_weight_rows : Dk P w K mg base "weight_rows" [("task" : Str)] 5 (spF K (rtO Ty_Affine) m_weight_rows)) (D_Affine_variable : Ds P w K mg base "Affine" "variable" [("size" : Str), ("k" : Str)] 4 (spF K (rtF Ty_Affine) m_Affine_variable)) : FnOk P w K mg base (L2.CX P w) 6 f fd [("self" : Str), ("task" : Str)] (spI K "Pairs" Fs_Pairs m_Pairs___init__) :=
  fn_init (αs := Ty_Task × Unit) (C := "Pairs") (nsF := Fs_Pairs) (n := 4) Fd sc_Pairs___init__ rfl rfl (fun cdv A outer s F H1 H E x hr tk =>
    (fk_B (fun F1 H1 => (fn_set 2 rfl (fe_add (fe_fld 0 (fe_var 1) T.cl_Task T.na_Task_size) (fe_fld 1 (fe_var 1) T.cl_Task T.na_Task_replies)) sc_Pairs___init__.nd))
    (fk_B (fun F1 H1 => (fn_set 3 rfl (fe_len (fe_fld 5 (fe_var 1) T.cl_Task T.na_Task_rows) (T.f_len)) sc_Pairs___init__.nd))
    (fk_fld (fun F1 H1 => (fe_var 1))
    (fk_fld (fun F1 H1 => (fe_fz (fo_cal D_weight_rows tk hr (fa_cons (fe_var 1) fa_nil))))
    (fk_fld (fun F1 H1 => (fe_fz (fo_cat (fo_listT (fe_fld 5 (fe_var 1) T.cl_Task T.na_Task_rows) (T.f_list)) (fo_lc (vs := [4]) (own := [(("j" : Str), 4)]) rfl (blkOk_by (N := N_Pairs___init__) (sc := defScope mt_Pairs___init__) (by decide +kernel)) sc_Pairs___init__.nd (fi_range2 (fe_fld 0 (fe_var 1) T.cl_Task T.na_Task_size) (fe_var 2) (T.f_range)) (fgb_name 4 sc_Pairs___init__.nd) fts_nil (fun s H C cl fp => (fe_sm D_Affine_variable takesF hr (fa_cons (fe_var 2) (fa_cons (fe_var 4) fa_nil))))))))
    (fk_fld (fun F1 H1 => (fe_fz (fo_catF (fe_fz (fo_lc (vs := [5]) (own := [(("k" : Str), 5)]) rfl (blkOk_by (N := N_Pairs___init__) (sc := defScope mt_Pairs___init__) (by decide +kernel)) sc_Pairs___init__.nd (fi_range1 (fe_var 3) (T.f_range)) (fgb_name 5 sc_Pairs___init__.nd) fts_nil (fun s H C cl fp => (fe_sm D_Affine_variable takesF hr (fa_cons (fe_var 3) (fa_cons (fe_var 5) fa_nil)))))) (fe_slf 1 T.cl_Pairs T.na_Pairs_prices))))
    fk_nil T.cl_Pairs T.na_Pairs_seconds) T.cl_Pairs T.na_Pairs_firsts) T.cl_Pairs T.na_Pairs_prices) T.cl_Pairs T.na_Pairs_task)))) (fun z => by simp only [bind_ok']; rfl)
abbrev N_Pairs_plans_at : List Str := [("self" : Str), ("sides" : Str), ("task" : Str), ("many" : Str), ("held" : Str), ("paid" : Str), ("first" : Str), ("k" : Str)]
theorem sc_Pairs_plans_at : FnScope N_Pairs_plans_at [("self" : Str), ("sides" : Str)] (defScope mt_Pairs_plans_at) := ⟨rfl, rfl, rfl, by decide +kernel, rfl, by decide +kernel, by decide +kernel⟩
theorem d_Pairs_plans_at {f : Addr} {fd : FuncData} (Fd : FnM K "plans_at" "Pairs.plans_at" mt_Pairs_plans_at [] f fd) (T : T0 K mg) (D_Affine___neg__ : Dm P w K mg base "Affine" "__neg__" [("self" : Str)] 4 (spF K (rtF Ty_Affine) m_Affine___neg__)) (D_Plan___init__ : Di P w K mg base "Plan" [("self" : Str), ("size" : Str), ("rows" : Str), ("cost" : Str)] [] 1 (spI K "Plan" Fs_Plan m_Plan___init__)) (D_Affine___init___l_D1 : Di P w K mg base "Affine" [("self" : Str), ("coefs" : Str), ("constant" : Str), ("bottom" : Str)] [.int 1] 2 (spI K "Affine" Fs_Affine m_Affine___init___l)) : FnOk P w K mg base (L2.CX P w) 5 f fd [("self" : Str), ("sides" : Str)] (spF K (rtF (Ty_Plan × Ty_Plan)) m_Pairs_plans_at) :=
  fn_def (αs := Ty_Pairs × (List (Option Str)) × Unit) (G' := nl) (n := 6) Fd sc_Pairs_plans_at rfl rfl (fun cdv A outer s F H E hr tk =>
    (fss_cons (fs_B (fn_set 2 rfl (fe_fld 0 (fe_var 0) T.cl_Pairs T.na_Pairs_task) sc_Pairs_plans_at.nd))
    (fss_cons (fs_B (fn_set 3 rfl (fe_len (fe_fld 5 (fe_var 2) T.cl_Task T.na_Task_rows) (T.f_len)) sc_Pairs_plans_at.nd))
    (fss_cons (fs_B (fn_setLcF (vs := [7]) (own := [(("k" : Str), 7)]) 4 rfl rfl (blkOk_by (N := N_Pairs_plans_at) (sc := defScope mt_Pairs_plans_at) (by decide +kernel)) sc_Pairs_plans_at.nd (fi_range1 (fe_len (fe_var 1) (T.f_len)) (T.f_range)) (fgb_name 7 sc_Pairs_plans_at.nd) (fts_one fun s H C cl fp => (ft_eqd hr (fe_ixL (fe_var 1) (fe_var 7)) (fe_opt fe_str))) (fun s H C cl fp => (fe_negO D_Affine___neg__ takesF hr (fe_ixL (fe_fld 2 (fe_var 0) T.cl_Pairs T.na_Pairs_firsts) (fe_var 7))))))
    (fss_cons (fs_B (fn_setLcF (vs := [7]) (own := [(("k" : Str), 7)]) 5 rfl rfl (blkOk_by (N := N_Pairs_plans_at) (sc := defScope mt_Pairs_plans_at) (by decide +kernel)) sc_Pairs_plans_at.nd (fi_range1 (fe_len (fe_var 1) (T.f_len)) (T.f_range)) (fgb_name 7 sc_Pairs_plans_at.nd) (fts_one fun s H C cl fp => (ft_eqd hr (fe_ixL (fe_var 1) (fe_var 7)) (fe_opt fe_str))) (fun s H C cl fp => (fe_negO D_Affine___neg__ takesF hr (fe_ixL (fe_fld 3 (fe_var 0) T.cl_Pairs T.na_Pairs_seconds) (fe_var 7))))))
    (fss_cons (fs_B (fn_set 6 rfl (fe_make D_Plan___init__ tk hr (fa_cons (fe_add (fe_fld 0 (fe_var 2) T.cl_Task T.na_Task_size) (fe_fld 1 (fe_var 2) T.cl_Task T.na_Task_replies)) (fa_cons (fe_fz (fo_catF (fe_fz (fo_cat (fo_listT (fe_fld 3 (fe_var 2) T.cl_Task T.na_Task_rules) (T.f_list)) (fo_listT (fe_fld 5 (fe_var 2) T.cl_Task T.na_Task_rows) (T.f_list)))) (fe_var 4))) (fa_cons (fe_fld 2 (fe_var 2) T.cl_Task T.na_Task_cost) fa_nil)))) sc_Pairs_plans_at.nd))
    (fss_one (fs_ret (fe_tup2 (fe_var 6) (fe_make D_Plan___init__ tk hr (fa_cons (fe_var 3) (fa_cons (fe_fz (fo_catF (fe_fld 1 (fe_var 0) T.cl_Pairs T.na_Pairs_prices) (fe_var 5))) (fa_cons (fe_make1 D_Affine___init___l_D1 tk hr (fa_cons (fe_fz (fo_rep (fo_lst (fh_cons fe_int fh_nil)) (fe_var 3))) (fa_cons fe_int fa_nil))) fa_nil))))))))))))) (fun z => by simp only [bind_ok']; rfl)
abbrev N_pair_functions : List Str := [("task" : Str), ("pairs" : Str)]
theorem sc_pair_functions : FnScope N_pair_functions [("task" : Str)] (defScope (top 21)) := ⟨rfl, rfl, rfl, by decide +kernel, rfl, by decide +kernel, by decide +kernel⟩
theorem d_pair_functions {f : Addr} {fd : FuncData} (Fd : FnP K "pair_functions" (top 21) f fd) (T : T0 K mg) (D_Pairs___init__ : Di P w K mg base "Pairs" [("self" : Str), ("task" : Str)] [] 6 (spI K "Pairs" Fs_Pairs m_Pairs___init__)) : FnOk P w K mg base (L2.CX P w) 8 f fd [("task" : Str)] (spF K (rtO (Ty_Affine × Ty_Affine)) m_pair_functions) :=
  fn_def (αs := Ty_Task × Unit) (G' := nl) (n := 1) Fd sc_pair_functions rfl rfl (fun cdv A outer s F H E hr tk =>
    (fss_cons (fs_B (fn_set 1 rfl (fe_make D_Pairs___init__ tk hr (fa_cons (fe_var 0) fa_nil)) sc_pair_functions.nd))
    (fss_one (fs_retO (FZ.fo_listzip rfl (fe_fld 2 (fe_var 1) T.cl_Pairs T.na_Pairs_firsts) (fe_fld 3 (fe_var 1) T.cl_Pairs T.na_Pairs_seconds) (T.f_zip) (T.f_list)))))) (fun z => by simp only [bind_ok']; rfl)
abbrev N_node_plans : List Str := [("task" : Str), ("sides" : Str)]
theorem sc_node_plans : FnScope N_node_plans [("task" : Str), ("sides" : Str)] (defScope (top 22)) := ⟨rfl, rfl, rfl, by decide +kernel, rfl, by decide +kernel, by decide +kernel⟩
theorem d_node_plans {f : Addr} {fd : FuncData} (Fd : FnP K "node_plans" (top 22) f fd) (T : T0 K mg) (D_Pairs___init__ : Di P w K mg base "Pairs" [("self" : Str), ("task" : Str)] [] 6 (spI K "Pairs" Fs_Pairs m_Pairs___init__)) (D_Pairs_plans_at : Dm P w K mg base "Pairs" "plans_at" [("self" : Str), ("sides" : Str)] 5 (spF K (rtF (Ty_Plan × Ty_Plan)) m_Pairs_plans_at)) : FnOk P w K mg base (L2.CX P w) 8 f fd [("task" : Str), ("sides" : Str)] (spF K (rtF (Ty_Plan × Ty_Plan)) m_node_plans) :=
  fn_def (αs := Ty_Task × (List (Option Str)) × Unit) (G' := nl) (n := 0) Fd sc_node_plans rfl rfl (fun cdv A outer s F H E hr tk =>
    (fss_one (fs_ret (fe_meth D_Pairs_plans_at T.cl_Pairs tk hr (fe_make D_Pairs___init__ tk hr (fa_cons (fe_var 0) fa_nil)) (fa_cons (fe_var 1) fa_nil))))) (fun z => by simp only [bind_ok']; rfl)
abbrev N_Piece___init__ : List Str := [("self" : Str), ("value" : Str), ("rows" : Str), ("weights" : Str), ("inside" : Str)]
theorem sc_Piece___init__ : FnScope N_Piece___init__ [("self" : Str), ("value" : Str), ("rows" : Str), ("weights" : Str), ("inside" : Str)] (defScope mt_Piece___init__) := ⟨rfl, rfl, rfl, by decide +kernel, rfl, by decide +kernel, by decide +kernel⟩
theorem d_Piece___init__ {f : Addr} {fd : FuncData} (Fd : FnM K "__init__" "Piece.__init__" mt_Piece___init__ [] f fd) (T : T0 K mg)  : FnOk P w K mg base (L2.CX P w) 1 f fd [("self" : Str), ("value" : Str), ("rows" : Str), ("weights" : Str), ("inside" : Str)] (spI K "Piece" Fs_Piece m_Piece___init__) :=
  fn_init (αs := Ty_Affine × (List Ty_Affine) × (List ((Tu Int) × Int)) × ((Tu Int) × Int) × Unit) (C := "Piece") (nsF := Fs_Piece) (n := 0) Fd sc_Piece___init__ rfl rfl (fun cdv A outer s F H1 H E x hr tk =>
    (fk_fld (fun F1 H1 => (fe_var 1))
    (fk_fld (fun F1 H1 => (fe_tupL (fe_var 2) (T.f_tuple)))
    (fk_fld (fun F1 H1 => (fe_tupL (fe_var 3) (T.f_tuple)))
    (fk_fld (fun F1 H1 => (fe_var 4))
    fk_nil T.cl_Piece T.na_Piece_inside) T.cl_Piece T.na_Piece_weights) T.cl_Piece T.na_Piece_rows) T.cl_Piece T.na_Piece_value)) (fun z => by simp only [bind_ok']; rfl)
abbrev N__answer_plan_l : List Str := [("task" : Str), ("value" : Str), ("rows" : Str), ("whole" : Str), ("lines" : Str), ("row" : Str)]
theorem sc__answer_plan_l : FnScope N__answer_plan_l [("task" : Str), ("value" : Str), ("rows" : Str)] (defScope (top 26)) := ⟨rfl, rfl, rfl, by decide +kernel, rfl, by decide +kernel, by decide +kernel⟩
theorem d__answer_plan_l {f : Addr} {fd : FuncData} (Fd : FnP K "_answer_plan" (top 26) f fd) (T : T0 K mg) (D_Affine_placed : Dm P w K mg base "Affine" "placed" [("self" : Str), ("size" : Str), ("start" : Str)] 4 (spF K (rtF Ty_Affine) m_Affine_placed)) (D_Affine___sub__ : Dm P w K mg base "Affine" "__sub__" [("self" : Str), ("other" : Str)] 4 (spF K (rtF Ty_Affine) m_Affine___sub__)) (D_Plan___init__ : Di P w K mg base "Plan" [("self" : Str), ("size" : Str), ("rows" : Str), ("cost" : Str)] [] 1 (spI K "Plan" Fs_Plan m_Plan___init__)) : FnOk P w K mg base (L2.CX P w) 5 f fd [("task" : Str), ("value" : Str), ("rows" : Str)] (spF K (rtF Ty_Plan) m__answer_plan_l) :=
  fn_def (αs := Ty_Task × Ty_Affine × (List Ty_Affine) × Unit) (G' := nl) (n := 3) Fd sc__answer_plan_l rfl rfl (fun cdv A outer s F H E hr tk =>
    (fss_cons (fs_B (fn_set 3 rfl (fe_add (fe_fld 0 (fe_var 0) T.cl_Task T.na_Task_size) (fe_fld 1 (fe_var 0) T.cl_Task T.na_Task_replies)) sc__answer_plan_l.nd))
    (fss_cons (fs_B (fn_set 4 rfl (fe_fz (fo_cat (fo_cat (fo_listT (fe_fld 3 (fe_var 0) T.cl_Task T.na_Task_rules) (T.f_list)) (fo_listT (fe_fld 5 (fe_var 0) T.cl_Task T.na_Task_rows) (T.f_list))) (fo_lc (vs := [5]) (own := [(("row" : Str), 5)]) rfl (blkOk_by (N := N__answer_plan_l) (sc := defScope (top 26)) (by decide +kernel)) sc__answer_plan_l.nd (fi_list (fe_var 2)) (fgb_name 5 sc__answer_plan_l.nd) fts_nil (fun s H C cl fp => (fe_meth D_Affine_placed T.cl_Affine takesF hr (fe_var 5) (fa_cons (fe_var 3) (fa_cons fe_int fa_nil))))))) sc__answer_plan_l.nd))
    (fss_one (fs_ret (fe_make D_Plan___init__ tk hr (fa_cons (fe_var 3) (fa_cons (fe_fz (fo_catF (fe_var 4) (fe_fz (fo_lst (fh_cons (fe_opOO D_Affine___sub__ T.sf_Affine tk hr (fe_meth D_Affine_placed T.cl_Affine tk hr (fe_var 1) (fa_cons (fe_var 3) (fa_cons fe_int fa_nil))) (fe_fld 4 (fe_var 0) T.cl_Task T.na_Task_aim)) fh_nil))))) (fa_cons (fe_fld 2 (fe_var 0) T.cl_Task T.na_Task_cost) fa_nil))))))))) (fun z => by simp only [bind_ok']; rfl)
abbrev N__answer_plan_u : List Str := [("task" : Str), ("value" : Str), ("rows" : Str), ("whole" : Str), ("lines" : Str), ("row" : Str)]
theorem sc__answer_plan_u : FnScope N__answer_plan_u [("task" : Str), ("value" : Str), ("rows" : Str)] (defScope (top 26)) := ⟨rfl, rfl, rfl, by decide +kernel, rfl, by decide +kernel, by decide +kernel⟩
theorem d__answer_plan_u {f : Addr} {fd : FuncData} (Fd : FnP K "_answer_plan" (top 26) f fd) (T : T0 K mg) (D_Affine_placed : Dm P w K mg base "Affine" "placed" [("self" : Str), ("size" : Str), ("start" : Str)] 4 (spF K (rtF Ty_Affine) m_Affine_placed)) (D_Affine___sub__ : Dm P w K mg base "Affine" "__sub__" [("self" : Str), ("other" : Str)] 4 (spF K (rtF Ty_Affine) m_Affine___sub__)) (D_Plan___init__ : Di P w K mg base "Plan" [("self" : Str), ("size" : Str), ("rows" : Str), ("cost" : Str)] [] 1 (spI K "Plan" Fs_Plan m_Plan___init__)) : FnOk P w K mg base (L2.CX P w) 5 f fd [("task" : Str), ("value" : Str), ("rows" : Str)] (spF K (rtF Ty_Plan) m__answer_plan_u) :=
  fn_def (αs := Ty_Task × Ty_Affine × (Tu Ty_Affine) × Unit) (G' := nl) (n := 3) Fd sc__answer_plan_u rfl rfl (fun cdv A outer s F H E hr tk =>
    (fss_cons (fs_B (fn_set 3 rfl (fe_add (fe_fld 0 (fe_var 0) T.cl_Task T.na_Task_size) (fe_fld 1 (fe_var 0) T.cl_Task T.na_Task_replies)) sc__answer_plan_u.nd))
    (fss_cons (fs_B (fn_set 4 rfl (fe_fz (fo_cat (fo_cat (fo_listT (fe_fld 3 (fe_var 0) T.cl_Task T.na_Task_rules) (T.f_list)) (fo_listT (fe_fld 5 (fe_var 0) T.cl_Task T.na_Task_rows) (T.f_list))) (fo_lc (vs := [5]) (own := [(("row" : Str), 5)]) rfl (blkOk_by (N := N__answer_plan_u) (sc := defScope (top 26)) (by decide +kernel)) sc__answer_plan_u.nd (fi_tup (fe_var 2)) (fgb_name 5 sc__answer_plan_u.nd) fts_nil (fun s H C cl fp => (fe_meth D_Affine_placed T.cl_Affine takesF hr (fe_var 5) (fa_cons (fe_var 3) (fa_cons fe_int fa_nil))))))) sc__answer_plan_u.nd))
    (fss_one (fs_ret (fe_make D_Plan___init__ tk hr (fa_cons (fe_var 3) (fa_cons (fe_fz (fo_catF (fe_var 4) (fe_fz (fo_lst (fh_cons (fe_opOO D_Affine___sub__ T.sf_Affine tk hr (fe_meth D_Affine_placed T.cl_Affine tk hr (fe_var 1) (fa_cons (fe_var 3) (fa_cons fe_int fa_nil))) (fe_fld 4 (fe_var 0) T.cl_Task T.na_Task_aim)) fh_nil))))) (fa_cons (fe_fld 2 (fe_var 0) T.cl_Task T.na_Task_cost) fa_nil))))))))) (fun z => by simp only [bind_ok']; rfl)
abbrev N_kind_plan : List Str := [("task" : Str), ("weights" : Str)]
theorem sc_kind_plan : FnScope N_kind_plan [("task" : Str), ("weights" : Str)] (defScope (top 27)) := ⟨rfl, rfl, rfl, by decide +kernel, rfl, by decide +kernel, by decide +kernel⟩
theorem d_kind_plan {f : Addr} {fd : FuncData} (Fd : FnP K "kind_plan" (top 27) f fd) (T : T0 K mg) (D_value_of : Dk P w K mg base "value_of" [("task" : Str), ("weights" : Str)] 5 (spF K (rtF Ty_Affine) m_value_of)) (D__answer_plan_l : Dk P w K mg base "_answer_plan" [("task" : Str), ("value" : Str), ("rows" : Str)] 5 (spF K (rtF Ty_Plan) m__answer_plan_l)) : FnOk P w K mg base (L2.CX P w) 6 f fd [("task" : Str), ("weights" : Str)] (spF K (rtF Ty_Plan) m_kind_plan) :=
  fn_def (αs := Ty_Task × ((Tu Int) × Int) × Unit) (G' := nl) (n := 0) Fd sc_kind_plan rfl rfl (fun cdv A outer s F H E hr tk =>
    (fss_one (fs_ret (fe_cal D__answer_plan_l tk hr (fa_cons (fe_var 0) (fa_cons (fe_cal D_value_of tk hr (fa_cons (fe_var 0) (fa_cons (fe_var 1) fa_nil))) (fa_cons (fe_fz (fo_nil (α := Ty_Affine))) fa_nil))))))) (fun z => by simp only [bind_ok']; rfl)
abbrev N_piece_plan : List Str := [("task" : Str), ("piece" : Str)]
theorem sc_piece_plan : FnScope N_piece_plan [("task" : Str), ("piece" : Str)] (defScope (top 28)) := ⟨rfl, rfl, rfl, by decide +kernel, rfl, by decide +kernel, by decide +kernel⟩
theorem d_piece_plan {f : Addr} {fd : FuncData} (Fd : FnP K "piece_plan" (top 28) f fd) (T : T0 K mg) (D__answer_plan_u : Dk P w K mg base "_answer_plan" [("task" : Str), ("value" : Str), ("rows" : Str)] 5 (spF K (rtF Ty_Plan) m__answer_plan_u)) : FnOk P w K mg base (L2.CX P w) 6 f fd [("task" : Str), ("piece" : Str)] (spF K (rtF Ty_Plan) m_piece_plan) :=
  fn_def (αs := Ty_Task × Ty_Piece × Unit) (G' := nl) (n := 0) Fd sc_piece_plan rfl rfl (fun cdv A outer s F H E hr tk =>
    (fss_one (fs_ret (fe_cal D__answer_plan_u tk hr (fa_cons (fe_var 0) (fa_cons (fe_fld 0 (fe_var 1) T.cl_Piece T.na_Piece_value) (fa_cons (fe_fld 1 (fe_var 1) T.cl_Piece T.na_Piece_rows) fa_nil))))))) (fun z => by simp only [bind_ok']; rfl)
abbrev N__check : List Str := [("part" : Str), ("fine" : Str)]
theorem sc__check : FnScope N__check [("part" : Str), ("fine" : Str)] (defScope (top 30)) := ⟨rfl, rfl, rfl, by decide +kernel, rfl, by decide +kernel, by decide +kernel⟩
theorem d__check {f : Addr} {fd : FuncData} (Fd : FnP K "_check" (top 30) f fd) (T : T0 K mg)  : FnOk P w K mg base (L2.CX P w) 1 f fd [("part" : Str), ("fine" : Str)] (spF K (rtF Unit) m__check) :=
  fn_defU (αs := Str × Bool × Unit) (n := 0) Fd sc__check rfl rfl (fun cdv A outer s F H E hr tk =>
    (fss_cons (fs_if (ft_not (ft_val (fe_var 1))) fss_dead fss_nil)
    fss_nil)) (fun z => by simp only [bind_ok']; rfl)
abbrev N__all_fit : List Str := [("functions" : Str), ("size" : Str), ("function" : Str)]
theorem sc__all_fit : FnScope N__all_fit [("functions" : Str), ("size" : Str)] (defScope (top 31)) := ⟨rfl, rfl, rfl, by decide +kernel, rfl, by decide +kernel, by decide +kernel⟩
theorem d__all_fit {f : Addr} {fd : FuncData} (Fd : FnP K "_all_fit" (top 31) f fd) (T : T0 K mg)  : FnOk P w K mg base (L2.CX P w) 1 f fd [("functions" : Str), ("size" : Str)] (spF K (rtF Bool) m__all_fit) :=
  fn_def (αs := (List Ty_Affine) × Int × Unit) (G' := nl) (n := 1) Fd sc__all_fit rfl rfl (fun cdv A outer s F H E hr tk =>
    (fss_one (fs_ret (fe_all rfl (fe_fz (fo_lc (vs := [2]) (own := [(("function" : Str), 2)]) rfl (blkOk_by (N := N__all_fit) (sc := defScope (top 31)) (by decide +kernel)) sc__all_fit.nd (fi_list (fe_var 0)) (fgb_name 2 sc__all_fit.nd) fts_nil (fun s H C cl fp => (fe_eq (fe_fld 3 (fe_var 2) T.cl_Affine T.na_Affine_size) (fe_var 1))))) (T.f_all))))) (fun z => by simp only [bind_ok']; rfl)
abbrev N_Task___init__ : List Str := [("self" : Str), ("size" : Str), ("replies" : Str), ("cost" : Str), ("rules" : Str), ("aim" : Str), ("rows" : Str), ("whole" : Str)]
theorem sc_Task___init__ : FnScope N_Task___init__ [("self" : Str), ("size" : Str), ("replies" : Str), ("cost" : Str), ("rules" : Str), ("aim" : Str), ("rows" : Str)] (defScope mt_Task___init__) := ⟨rfl, rfl, rfl, by decide +kernel, rfl, by decide +kernel, by decide +kernel⟩
theorem d_Task___init__ {f : Addr} {fd : FuncData} (Fd : FnM K "__init__" "Task.__init__" mt_Task___init__ [] f fd) (T : T0 K mg) (D__check : Dk P w K mg base "_check" [("part" : Str), ("fine" : Str)] 1 (spF K (rtF Unit) m__check)) (D__all_fit : Dk P w K mg base "_all_fit" [("functions" : Str), ("size" : Str)] 1 (spF K (rtF Bool) m__all_fit)) : FnOk P w K mg base (L2.CX P w) 2 f fd [("self" : Str), ("size" : Str), ("replies" : Str), ("cost" : Str), ("rules" : Str), ("aim" : Str), ("rows" : Str)] (spI K "Task" Fs_Task m_Task___init__) :=
  fn_init (αs := Int × Int × Ty_Affine × (List Ty_Affine) × Ty_Affine × (List Ty_Affine) × Unit) (C := "Task") (nsF := Fs_Task) (n := 1) Fd sc_Task___init__ rfl rfl (fun cdv A outer s F H1 H E x hr tk =>
    (fk_B (fun F1 H1 => (fn_expr (fe_cal D__check tk hr (fa_cons fe_str (fa_cons (fe_chainLe fe_int (fe_var 1) (fe_ccon T.rd_Task T.cc_Task_SIZE T.g_Task)) fa_nil)))))
    (fk_B (fun F1 H1 => (fn_expr (fe_cal D__check tk hr (fa_cons fe_str (fa_cons (fe_chainLe fe_int (fe_var 2) (fe_ccon T.rd_Task T.cc_Task_REPLIES T.g_Task)) fa_nil)))))
    (fk_B (fun F1 H1 => (fn_set 7 rfl (fe_add (fe_var 1) (fe_var 2)) sc_Task___init__.nd))
    (fk_B (fun F1 H1 => (fn_expr (fe_cal D__check tk hr (fa_cons fe_str (fa_cons (fe_eq (fe_fld 3 (fe_var 3) T.cl_Affine T.na_Affine_size) (fe_var 7)) fa_nil)))))
    (fk_B (fun F1 H1 => (fn_expr (fe_cal D__check tk hr (fa_cons fe_str (fa_cons (fe_and (fe_le (fe_len (fe_var 4) (T.f_len)) (fe_ccon T.rd_Task T.cc_Task_RULES T.g_Task)) (fe_one (fe_cal D__all_fit tk hr (fa_cons (fe_var 4) (fa_cons (fe_var 7) fa_nil))))) fa_nil)))))
    (fk_B (fun F1 H1 => (fn_expr (fe_cal D__check tk hr (fa_cons fe_str (fa_cons (fe_eq (fe_fld 3 (fe_var 5) T.cl_Affine T.na_Affine_size) (fe_var 7)) fa_nil)))))
    (fk_B (fun F1 H1 => (fn_expr (fe_cal D__check tk hr (fa_cons fe_str (fa_cons (fe_and (fe_chainLe fe_int (fe_len (fe_var 6) (T.f_len)) (fe_ccon T.rd_Task T.cc_Task_ROWS T.g_Task)) (fe_one (fe_cal D__all_fit tk hr (fa_cons (fe_var 6) (fa_cons (fe_var 7) fa_nil))))) fa_nil)))))
    (fk_fld (fun F1 H1 => (fe_var 1))
    (fk_fld (fun F1 H1 => (fe_var 2))
    (fk_fld (fun F1 H1 => (fe_var 3))
    (fk_fld (fun F1 H1 => (fe_tupL (fe_var 4) (T.f_tuple)))
    (fk_fld (fun F1 H1 => (fe_var 5))
    (fk_fld (fun F1 H1 => (fe_tupL (fe_var 6) (T.f_tuple)))
    fk_nil T.cl_Task T.na_Task_rows) T.cl_Task T.na_Task_aim) T.cl_Task T.na_Task_rules) T.cl_Task T.na_Task_cost) T.cl_Task T.na_Task_replies) T.cl_Task T.na_Task_size))))))))) (fun z => by simp only [bind_ok']; rfl)
abbrev N__law_draws : List Str := [("script" : Str), ("count" : Str), ("found" : Str), ("cell" : Str), ("rest" : Str), ("k" : Str), ("seed" : Str)]
theorem sc__law_draws : FnScope N__law_draws [("script" : Str), ("count" : Str)] (defScope (top 34)) := ⟨rfl, rfl, rfl, by decide +kernel, rfl, by decide +kernel, by decide +kernel⟩
theorem d__law_draws {f : Addr} {fd : FuncData} (Fd : FnP K "_law_draws" (top 34) f fd) (T : T0 K mg)  : FnOk P w K mg base (L2.CX P w) 1 f fd [("script" : Str), ("count" : Str)] (spF K (rtO Int) m__law_draws) :=
  fn_def (αs := (List Int) × Int × Unit) (G' := nl) (n := 5) Fd sc__law_draws rfl rfl (fun cdv A outer s F H E hr tk =>
    (fss_cons (fs_B (fn_setO 2 rfl (fo_nil (α := Int)) sc__law_draws.nd))
    (fss_cons (fs_n (fn_for (passes_of rfl) (fi_list (fe_var 0)) (fg_name 3 rfl sc__law_draws.nd) (fns_B (fn_set 4 rfl (fe_var 3) sc__law_draws.nd) (fns_cons (fn_if (ft_ge (fe_var 4) (fe_pow fe_int fe_int)) (fns_cons (fn_for (passes_of rfl) (fi_range1 fe_int (T.f_range)) (fg_name 5 rfl sc__law_draws.nd) (fns_cons (fn_if (ft_br (ft_w (fw_and (ft_gt (fe_var 4) fe_int) (fw_and1 (ft_lt (fe_len (fe_var 2) (T.f_len)) (fe_var 1)))))) (fns_B2 (fn_append 2 (fe_mod (fe_intI (fe_var 4) (T.f_int)) fe_int)) (fns_B (fn_set 4 rfl (fe_fdv (fe_var 4) fe_int) sc__law_draws.nd) fns_nil)) fns_nil) (fns_nilS (G' := (va (List Int) (va Int (ow Int (va Int (va Int (un (un nl))))))))))) fns_nil) (fns_cons (fn_if (ft_br (ft_lt (fe_len (fe_var 2) (T.f_len)) (fe_var 1))) (fns_B2 (fn_append 2 (fe_mod (fe_mod (fe_intI (fe_add (fe_mul (fe_mod (fe_intI (fe_add (fe_mul (fe_var 4) fe_int) fe_int) (T.f_int)) fe_int) fe_int) fe_int) (T.f_int)) fe_int) fe_int)) fns_nil) fns_nil) fns_nil)) (fns_nilS (G' := (va (List Int) (va Int (ow Int (un (un (un (un nl)))))))))))))
    (fss_cons (fs_B (fn_set 6 rfl (fe_add fe_int (fe_len (fe_var 0) (T.f_len))) sc__law_draws.nd))
    (fss_cons (fs_n (fn_for (passes_of rfl) (fi_list (fe_var 0)) (fg_name 3 rfl sc__law_draws.nd) (fns_B (fn_set 6 rfl (fe_mod (fe_intI (fe_add (fe_mul (fe_var 6) fe_int) (fe_var 3)) (T.f_int)) fe_int) sc__law_draws.nd) (fns_nilS (G' := (va (List Int) (va Int (ow Int (un (un (un (va Int nl))))))))))))
    (fss_cons (fs_n (fn_for (passes_of rfl) (fi_range1 (fe_var 1) (T.f_range)) (fg_name 5 rfl sc__law_draws.nd) (fns_cons (fn_if (ft_br (ft_lt (fe_len (fe_var 2) (T.f_len)) (fe_var 1))) (fns_B (fn_set 6 rfl (fe_mod (fe_intI (fe_add (fe_mul (fe_var 6) fe_int) fe_int) (T.f_int)) fe_int) sc__law_draws.nd) (fns_B2 (fn_append 2 (fe_mod (fe_fdv (fe_var 6) fe_int) fe_int)) fns_nil)) fns_nil) (fns_nilS (G' := (va (List Int) (va Int (ow Int (un (un (un (va Int nl))))))))))))
    (fss_one (fs_retV 2)))))))) (fun z => by simp only [bind_ok']; rfl)
abbrev N__law_gcd : List Str := [("one" : Str), ("two" : Str), ("k" : Str), ("rest" : Str)]
theorem sc__law_gcd : FnScope N__law_gcd [("one" : Str), ("two" : Str)] (defScope (top 35)) := ⟨rfl, rfl, rfl, by decide +kernel, rfl, by decide +kernel, by decide +kernel⟩
theorem d__law_gcd {f : Addr} {fd : FuncData} (Fd : FnP K "_law_gcd" (top 35) f fd) (T : T0 K mg)  : FnOk P w K mg base (L2.CX P w) 1 f fd [("one" : Str), ("two" : Str)] (spF K (rtF Int) m__law_gcd) :=
  fn_def (αs := Int × Int × Unit) (G' := nl) (n := 2) Fd sc__law_gcd rfl rfl (fun cdv A outer s F H E hr tk =>
    (fss_cons (fs_B (fn_set 0 rfl (fe_abs (fe_var 0) (T.f_abs)) sc__law_gcd.nd))
    (fss_cons (fs_B (fn_set 1 rfl (fe_abs (fe_var 1) (T.f_abs)) sc__law_gcd.nd))
    (fss_cons (fs_forK (rt := id) (passes_of rfl) (fi_range1 (fe_add (fe_mul fe_int (fe_bits (fe_var 1))) fe_int) (T.f_range)) (fg_name 2 rfl sc__law_gcd.nd) (fss_cons (fs_if (ft_eq (fe_var 1) fe_int) (fss_one (fs_retL (fe_var 0))) fss_nil)
    (fss_cons (fs_B (fn_set 3 rfl (fe_mod (fe_intI (fe_var 0) (T.f_int)) (fe_var 1)) sc__law_gcd.nd))
    (fss_cons (fs_B (fn_set 0 rfl (fe_var 1) sc__law_gcd.nd))
    (fss_cons (fs_B (fn_set 1 rfl (fe_var 3) sc__law_gcd.nd))
    (fss_nilS (G' := (va Int (va Int (un (un nl)))))))))))
    (fss_one (fs_ret (fe_var 0))))))) (fun z => by simp only [bind_ok']; rfl)
abbrev N__law_lowest : List Str := [("values" : Str), ("common" : Str), ("value" : Str)]
theorem sc__law_lowest : FnScope N__law_lowest [("values" : Str)] (defScope (top 36)) := ⟨rfl, rfl, rfl, by decide +kernel, rfl, by decide +kernel, by decide +kernel⟩
theorem d__law_lowest {f : Addr} {fd : FuncData} (Fd : FnP K "_law_lowest" (top 36) f fd) (T : T0 K mg) (D__law_gcd : Dk P w K mg base "_law_gcd" [("one" : Str), ("two" : Str)] 1 (spF K (rtF Int) m__law_gcd)) : FnOk P w K mg base (L2.CX P w) 2 f fd [("values" : Str)] (spF K (rtO Int) m__law_lowest) :=
  fn_def (αs := (List Int) × Unit) (G' := nl) (n := 2) Fd sc__law_lowest rfl rfl (fun cdv A outer s F H E hr tk =>
    (fss_cons (fs_B (fn_set 1 rfl fe_int sc__law_lowest.nd))
    (fss_cons (fs_n (fn_for (passes_of rfl) (fi_list (fe_var 0)) (fg_name 2 rfl sc__law_lowest.nd) (fns_B (fn_set 1 rfl (fe_cal D__law_gcd tk hr (fa_cons (fe_var 1) (fa_cons (fe_var 2) fa_nil))) sc__law_lowest.nd) (fns_nilS (G' := (va (List Int) (va Int (un nl))))))))
    (fss_cons (fs_if (ft_eq (fe_var 1) fe_int) (fss_one (fs_retO (fo_list (fe_var 0) (T.f_list)))) fss_nil)
    (fss_one (fs_retO (fo_lc (vs := [2]) (own := [(("value" : Str), 2)]) rfl (blkOk_by (N := N__law_lowest) (sc := defScope (top 36)) (by decide +kernel)) sc__law_lowest.nd (fi_list (fe_var 0)) (fgb_name 2 sc__law_lowest.nd) fts_nil (fun s H C cl fp => (fe_fdv (fe_var 2) (fe_var 1)))))))))) (fun z => by simp only [bind_ok']; rfl)
abbrev N__law_is_integer : List Str := [("value" : Str)]
theorem sc__law_is_integer : FnScope N__law_is_integer [("value" : Str)] (defScope (top 37)) := ⟨rfl, rfl, rfl, by decide +kernel, rfl, by decide +kernel, by decide +kernel⟩
theorem d__law_is_integer {f : Addr} {fd : FuncData} (Fd : FnP K "_law_is_integer" (top 37) f fd) (T : T0 K mg)  : FnOk P w K mg base (L2.CX P w) 1 f fd [("value" : Str)] (spF K (rtF Bool) m__law_is_integer) :=
  fn_def (αs := Int × Unit) (G' := nl) (n := 0) Fd sc__law_is_integer rfl rfl (fun cdv A outer s F H E hr tk =>
    (fss_one (fs_ret (fe_and (fe_isi (U := "int") (fe_var 0) (T.f_isinstance) T.f_int) (fe_one (fe_not (fe_isi (U := "bool") (fe_var 0) (T.f_isinstance) T.f_bool))))))) (fun z => by simp only [bind_ok']; rfl)
abbrev N__law_same : List Str := [("told" : Str), ("due" : Str), ("values" : Str), ("low" : Str), ("k" : Str)]
theorem sc__law_same : FnScope N__law_same [("told" : Str), ("due" : Str)] (defScope (top 38)) := ⟨rfl, rfl, rfl, by decide +kernel, rfl, by decide +kernel, by decide +kernel⟩
theorem d__law_same {f : Addr} {fd : FuncData} (Fd : FnP K "_law_same" (top 38) f fd) (T : T0 K mg) (D__law_lowest : Dk P w K mg base "_law_lowest" [("values" : Str)] 2 (spF K (rtO Int) m__law_lowest)) (D__law_is_integer : Dk P w K mg base "_law_is_integer" [("value" : Str)] 1 (spF K (rtF Bool) m__law_is_integer)) : FnOk P w K mg base (L2.CX P w) 3 f fd [("told" : Str), ("due" : Str)] (spF K (rtF Bool) m__law_same) :=
  fn_def (αs := Ty_Affine × (List Int) × Unit) (G' := nl) (n := 3) Fd sc__law_same rfl rfl (fun cdv A outer s F H E hr tk =>
    (fss_cons (fs_if (ft_w (fw_or (ft_not (ft_val (fe_isiC (ok := fun K => Isi K "Affine") (ty := fun K => .ref (He.ga K "Affine")) true (fe_var 0) T.isi_Affine T.ki_Affine_Affine T.g_Affine (T.f_isinstance)))) (fw_or1 (ft_not (ft_val (fe_isi (U := "tuple") (fe_fld 0 (fe_var 0) T.cl_Affine T.na_Affine_coefs) (T.f_isinstance) T.f_tuple)))))) (fss_one (fs_ret fe_bl)) fss_nil)
    (fss_cons (fs_B (fn_set 2 rfl (fe_fz (fo_cat (fo_listT (fe_fld 0 (fe_var 0) T.cl_Affine T.na_Affine_coefs) (T.f_list)) (fo_lst (fh_cons (fe_fld 1 (fe_var 0) T.cl_Affine T.na_Affine_constant) (fh_cons (fe_fld 2 (fe_var 0) T.cl_Affine T.na_Affine_bottom) fh_nil))))) sc__law_same.nd))
    (fss_cons (fs_B (fn_set 3 rfl (fe_fz (fo_cal D__law_lowest tk hr (fa_cons (fe_var 1) fa_nil))) sc__law_same.nd))
    (fss_cons (fs_if (ft_ne (fe_len (fe_var 2) (T.f_len)) (fe_len (fe_var 3) (T.f_len))) (fss_one (fs_ret fe_bl)) fss_nil)
    (fss_one (fs_ret (fe_eq (fe_len (fe_fz (fo_lc (vs := [4]) (own := [(("k" : Str), 4)]) rfl (blkOk_by (N := N__law_same) (sc := defScope (top 38)) (by decide +kernel)) sc__law_same.nd (fi_range1 (fe_len (fe_var 3) (T.f_len)) (T.f_range)) (fgb_name 4 sc__law_same.nd) (fts_one fun s H C cl fp => (ft_w (fw_or (ft_not (ft_val (fe_cal D__law_is_integer takesF hr (fa_cons (fe_ixL (fe_var 2) (fe_var 4)) fa_nil)))) (fw_or1 (ft_ne (fe_ixL (fe_var 2) (fe_var 4)) (fe_ixL (fe_var 3) (fe_var 4))))))) (fun s H C cl fp => (fe_var 4)))) (T.f_len)) fe_int)))))))) (fun z => by simp only [bind_ok']; rfl)
abbrev N__law_tuple_same : List Str := [("told" : Str), ("due" : Str), ("k" : Str)]
theorem sc__law_tuple_same : FnScope N__law_tuple_same [("told" : Str), ("due" : Str)] (defScope (top 39)) := ⟨rfl, rfl, rfl, by decide +kernel, rfl, by decide +kernel, by decide +kernel⟩
theorem d__law_tuple_same {f : Addr} {fd : FuncData} (Fd : FnP K "_law_tuple_same" (top 39) f fd) (T : T0 K mg) (D__law_same : Dk P w K mg base "_law_same" [("told" : Str), ("due" : Str)] 3 (spF K (rtF Bool) m__law_same)) : FnOk P w K mg base (L2.CX P w) 4 f fd [("told" : Str), ("due" : Str)] (spF K (rtF Bool) m__law_tuple_same) :=
  fn_def (αs := (Tu Ty_Affine) × (List (List Int)) × Unit) (G' := nl) (n := 1) Fd sc__law_tuple_same rfl rfl (fun cdv A outer s F H E hr tk =>
    (fss_cons (fs_if (ft_w (fw_or (ft_not (ft_val (fe_isi (U := "tuple") (fe_var 0) (T.f_isinstance) T.f_tuple))) (fw_or1 (ft_ne (fe_len (fe_var 0) (T.f_len)) (fe_len (fe_var 1) (T.f_len)))))) (fss_one (fs_ret fe_bl)) fss_nil)
    (fss_one (fs_ret (fe_eq (fe_len (fe_fz (fo_lc (vs := [2]) (own := [(("k" : Str), 2)]) rfl (blkOk_by (N := N__law_tuple_same) (sc := defScope (top 39)) (by decide +kernel)) sc__law_tuple_same.nd (fi_range1 (fe_len (fe_var 1) (T.f_len)) (T.f_range)) (fgb_name 2 sc__law_tuple_same.nd) (fts_one fun s H C cl fp => (ft_not (ft_val (fe_cal D__law_same takesF hr (fa_cons (fe_ixU (fe_var 0) (fe_var 2)) (fa_cons (fe_ixL (fe_var 1) (fe_var 2)) fa_nil)))))) (fun s H C cl fp => (fe_var 2)))) (T.f_len)) fe_int))))) (fun z => by simp only [bind_ok']; rfl)
abbrev N__law_prices : List Str := [("size" : Str), ("aim" : Str), ("rows" : Str), ("scale" : Str), ("row" : Str), ("found" : Str), ("j" : Str), ("line" : Str)]
theorem sc__law_prices : FnScope N__law_prices [("size" : Str), ("aim" : Str), ("rows" : Str)] (defScope (top 40)) := ⟨rfl, rfl, rfl, by decide +kernel, rfl, by decide +kernel, by decide +kernel⟩
theorem d__law_prices {f : Addr} {fd : FuncData} (Fd : FnP K "_law_prices" (top 40) f fd) (T : T0 K mg)  : FnOk P w K mg base (L2.CX P w) 1 f fd [("size" : Str), ("aim" : Str), ("rows" : Str)] (spF K (rtO (List Int)) m__law_prices) :=
  fn_def (αs := Int × (List Int) × (List (List Int)) × Unit) (G' := nl) (n := 5) Fd sc__law_prices rfl rfl (fun cdv A outer s F H E hr tk =>
    (fss_cons (fs_B (fn_set 3 rfl (fe_ixL (fe_var 1) (fe_neg fe_int)) sc__law_prices.nd))
    (fss_cons (fs_n (fn_for (passes_of rfl) (fi_list (fe_var 2)) (fg_name 4 rfl sc__law_prices.nd) (fns_B (fn_set 3 rfl (fe_mul (fe_var 3) (fe_ixL (fe_var 4) (fe_neg fe_int))) sc__law_prices.nd) (fns_nilS (G' := (va Int (va (List Int) (va (List (List Int)) (va Int (un (un (un (un nl)))))))))))))
    (fss_cons (fs_B (fn_setO 5 rfl (fo_nil (α := (List Int))) sc__law_prices.nd))
    (fss_cons (fs_n (fn_for (passes_of rfl) (fi_range2 (fe_var 0) (fe_sub (fe_len (fe_var 1) (T.f_len)) fe_int) (T.f_range)) (fg_name 6 rfl sc__law_prices.nd) (fns_B (fn_setLcF (vs := [4]) (own := [(("row" : Str), 4)]) 7 rfl rfl (blkOk_by (N := N__law_prices) (sc := defScope (top 40)) (by decide +kernel)) sc__law_prices.nd (fi_list (fe_var 2)) (fgb_name 4 sc__law_prices.nd) fts_nil (fun s H C cl fp => (fe_mul (fe_neg (fe_ixL (fe_var 4) (fe_var 6))) (fe_fdv (fe_var 3) (fe_ixL (fe_var 4) (fe_neg fe_int)))))) (fns_B2 (fn_append 5 (fe_fz (fo_catF (fe_var 7) (fe_fz (fo_lst (fh_cons (fe_mul (fe_ixL (fe_var 1) (fe_var 6)) (fe_fdv (fe_var 3) (fe_ixL (fe_var 1) (fe_neg fe_int)))) (fh_cons (fe_var 3) fh_nil))))))) (fns_nilS (G' := (va Int (va (List Int) (va (List (List Int)) (va Int (un (ow (List Int) (un (un nl))))))))))))))
    (fss_one (fs_retV 5))))))) (fun z => by simp only [bind_ok']; rfl)
abbrev N__law_function : List Str := [("draws" : Str), ("at" : Str), ("width" : Str), ("far" : Str), ("found" : Str), ("k" : Str)]
theorem sc__law_function : FnScope N__law_function [("draws" : Str), ("at" : Str), ("width" : Str), ("far" : Str)] (defScope (top 41)) := ⟨rfl, rfl, rfl, by decide +kernel, rfl, by decide +kernel, by decide +kernel⟩
theorem d__law_function {f : Addr} {fd : FuncData} (Fd : FnP K "_law_function" (top 41) f fd) (T : T0 K mg)  : FnOk P w K mg base (L2.CX P w) 1 f fd [("draws" : Str), ("at" : Str), ("width" : Str), ("far" : Str)] (spF K (rtO Int) m__law_function) :=
  fn_def (αs := (List Int) × Int × Int × Int × Unit) (G' := nl) (n := 2) Fd sc__law_function rfl rfl (fun cdv A outer s F H E hr tk =>
    (fss_cons (fs_B (fn_setLcF (vs := [5]) (own := [(("k" : Str), 5)]) 4 rfl rfl (blkOk_by (N := N__law_function) (sc := defScope (top 41)) (by decide +kernel)) sc__law_function.nd (fi_range1 (fe_var 2) (T.f_range)) (fgb_name 5 sc__law_function.nd) fts_nil (fun s H C cl fp => (fe_mul (fe_sub (fe_mod (fe_ixL (fe_var 0) (fe_add (fe_var 1) (fe_var 5))) fe_int) fe_int) (fe_var 3)))))
    (fss_one (fs_retO (fo_catF (fe_var 4) (fe_fz (fo_lst (fh_cons (fe_sub (fe_mod (fe_ixL (fe_var 0) (fe_add (fe_var 1) fe_int)) fe_int) fe_int) (fh_cons (fe_add fe_int (fe_mod (fe_ixL (fe_var 0) (fe_add (fe_var 1) fe_int)) fe_int)) fh_nil))))))))) (fun z => by simp only [bind_ok']; rfl)
abbrev N__law_made : List Str := [("row" : Str)]
theorem sc__law_made : FnScope N__law_made [("row" : Str)] (defScope (top 42)) := ⟨rfl, rfl, rfl, by decide +kernel, rfl, by decide +kernel, by decide +kernel⟩
theorem d__law_made {f : Addr} {fd : FuncData} (Fd : FnP K "_law_made" (top 42) f fd) (T : T0 K mg) (D_Affine___init___l : Di P w K mg base "Affine" [("self" : Str), ("coefs" : Str), ("constant" : Str), ("bottom" : Str)] [] 2 (spI K "Affine" Fs_Affine m_Affine___init___l)) : FnOk P w K mg base (L2.CX P w) 4 f fd [("row" : Str)] (spF K (rtF Ty_Affine) m__law_made) :=
  fn_def (αs := (List Int) × Unit) (G' := nl) (n := 0) Fd sc__law_made rfl rfl (fun cdv A outer s F H E hr tk =>
    (fss_one (fs_ret (fe_make D_Affine___init___l tk hr (fa_cons (fe_slL (fe_var 0) fp_none (fp_some (fe_neg fe_int))) (fa_cons (fe_ixL (fe_var 0) (fe_neg fe_int)) (fa_cons (fe_ixL (fe_var 0) (fe_neg fe_int)) fa_nil))))))) (fun z => by simp only [bind_ok']; rfl)
abbrev N__law_variables : List Str := [("size" : Str), ("start" : Str), ("k" : Str), ("j" : Str)]
theorem sc__law_variables : FnScope N__law_variables [("size" : Str), ("start" : Str)] (defScope (top 43)) := ⟨rfl, rfl, rfl, by decide +kernel, rfl, by decide +kernel, by decide +kernel⟩
theorem d__law_variables {f : Addr} {fd : FuncData} (Fd : FnP K "_law_variables" (top 43) f fd) (T : T0 K mg)  : FnOk P w K mg base (L2.CX P w) 1 f fd [("size" : Str), ("start" : Str)] (spF K (rtO (List Int)) m__law_variables) :=
  fn_def (αs := Int × Int × Unit) (G' := nl) (n := 2) Fd sc__law_variables rfl rfl (fun cdv A outer s F H E hr tk =>
    (fss_one (fs_retO (fo_lc (vs := [2]) (own := [(("k" : Str), 2)]) rfl (blkOk_by (N := N__law_variables) (sc := defScope (top 43)) (by decide +kernel)) sc__law_variables.nd (fi_range2 (fe_var 1) (fe_var 0) (T.f_range)) (fgb_name 2 sc__law_variables.nd) fts_nil (fun s H C cl fp => (fe_fz (fo_cat (fo_lc (vs := [3]) (own := [(("j" : Str), 3)]) rfl (blkOk_by (by kernel_rfl)) sc__law_variables.nd (fi_range1 (fe_var 0) (T.f_range)) (fgb_name 3 sc__law_variables.nd) fts_nil (fun s H C cl fp => (fe_intB (fe_eq (fe_var 3) (fe_var 2)) (T.f_int)))) (fo_lst (fh_cons fe_int (fh_cons fe_int fh_nil)))))))))) (fun z => by simp only [bind_ok']; rfl)
abbrev N__law_turned : List Str := [("row" : Str), ("value" : Str)]
theorem sc__law_turned : FnScope N__law_turned [("row" : Str)] (defScope (top 44)) := ⟨rfl, rfl, rfl, by decide +kernel, rfl, by decide +kernel, by decide +kernel⟩
theorem d__law_turned {f : Addr} {fd : FuncData} (Fd : FnP K "_law_turned" (top 44) f fd) (T : T0 K mg)  : FnOk P w K mg base (L2.CX P w) 1 f fd [("row" : Str)] (spF K (rtO Int) m__law_turned) :=
  fn_def (αs := (List Int) × Unit) (G' := nl) (n := 1) Fd sc__law_turned rfl rfl (fun cdv A outer s F H E hr tk =>
    (fss_one (fs_retO (fo_catF (fe_fz (fo_lc (vs := [1]) (own := [(("value" : Str), 1)]) rfl (blkOk_by (N := N__law_turned) (sc := defScope (top 44)) (by decide +kernel)) sc__law_turned.nd (fi_list (fe_slL (fe_var 0) fp_none (fp_some (fe_neg fe_int)))) (fgb_name 1 sc__law_turned.nd) fts_nil (fun s H C cl fp => (fe_neg (fe_var 1))))) (fe_slL (fe_var 0) (fp_some (fe_neg fe_int)) fp_none))))) (fun z => by simp only [bind_ok']; rfl)
abbrev N__law_planned : List Str := [("plan" : Str), ("rows" : Str), ("cost" : Str)]
theorem sc__law_planned : FnScope N__law_planned [("plan" : Str), ("rows" : Str), ("cost" : Str)] (defScope (top 45)) := ⟨rfl, rfl, rfl, by decide +kernel, rfl, by decide +kernel, by decide +kernel⟩
theorem d__law_planned {f : Addr} {fd : FuncData} (Fd : FnP K "_law_planned" (top 45) f fd) (T : T0 K mg) (D__law_is_integer : Dk P w K mg base "_law_is_integer" [("value" : Str)] 1 (spF K (rtF Bool) m__law_is_integer)) (D__law_tuple_same : Dk P w K mg base "_law_tuple_same" [("told" : Str), ("due" : Str)] 4 (spF K (rtF Bool) m__law_tuple_same)) (D__law_same : Dk P w K mg base "_law_same" [("told" : Str), ("due" : Str)] 3 (spF K (rtF Bool) m__law_same)) : FnOk P w K mg base (L2.CX P w) 5 f fd [("plan" : Str), ("rows" : Str), ("cost" : Str)] (spF K (rtF Bool) m__law_planned) :=
  fn_def (αs := Ty_Plan × (List (List Int)) × (List Int) × Unit) (G' := nl) (n := 0) Fd sc__law_planned rfl rfl (fun cdv A outer s F H E hr tk =>
    (fss_cons (fs_if (ft_w (fw_or (ft_not (ft_val (fe_isiC (ok := fun K => Isi K "Plan") (ty := fun K => .ref (He.ga K "Plan")) true (fe_var 0) T.isi_Plan T.ki_Plan_Plan T.g_Plan (T.f_isinstance)))) (fw_or (ft_not (ft_val (fe_cal D__law_is_integer tk hr (fa_cons (fe_fld 0 (fe_var 0) T.cl_Plan T.na_Plan_size) fa_nil)))) (fw_or1 (ft_ne (fe_fld 0 (fe_var 0) T.cl_Plan T.na_Plan_size) (fe_sub (fe_len (fe_var 2) (T.f_len)) fe_int)))))) (fss_one (fs_ret fe_bl)) fss_nil)
    (fss_one (fs_ret (fe_and (fe_cal D__law_tuple_same tk hr (fa_cons (fe_fld 1 (fe_var 0) T.cl_Plan T.na_Plan_rows) (fa_cons (fe_var 1) fa_nil))) (fe_one (fe_cal D__law_same tk hr (fa_cons (fe_fld 2 (fe_var 0) T.cl_Plan T.na_Plan_cost) (fa_cons (fe_var 2) fa_nil))))))))) (fun z => by simp only [bind_ok']; rfl)
abbrev N__law_nodes : List Str := [("task" : Str), ("model" : Str), ("sides" : Str), ("due" : Str), ("paid" : Str), ("handed" : Str), ("told" : Str), ("k" : Str)]
theorem sc__law_nodes : FnScope N__law_nodes [("task" : Str), ("model" : Str), ("sides" : Str)] (defScope (top 46)) := ⟨rfl, rfl, rfl, by decide +kernel, rfl, by decide +kernel, by decide +kernel⟩
theorem d__law_nodes {f : Addr} {fd : FuncData} (Fd : FnP K "_law_nodes" (top 46) f fd) (T : T0 K mg) (D__law_turned : Dk P w K mg base "_law_turned" [("row" : Str)] 1 (spF K (rtO Int) m__law_turned)) (D_node_plans : Dk P w K mg base "node_plans" [("task" : Str), ("sides" : Str)] 8 (spF K (rtF (Ty_Plan × Ty_Plan)) m_node_plans)) (D__law_planned : Dk P w K mg base "_law_planned" [("plan" : Str), ("rows" : Str), ("cost" : Str)] 5 (spF K (rtF Bool) m__law_planned)) : FnOk P w K mg base (L2.CX P w) 9 f fd [("task" : Str), ("model" : Str), ("sides" : Str)] (spF K (rtF Bool) m__law_nodes) :=
  fn_def (αs := Ty_Task × (Dc [("rows" : Str), ("rules" : Str), ("aim" : Str), ("cost" : Str), ("prices" : Str), ("firsts" : Str), ("seconds" : Str)] ((List (List Int)) × (List (List Int)) × (List Int) × (List Int) × (List (List Int)) × (List (List Int)) × (List (List Int)) × Unit)) × (List (Option Str)) × Unit) (G' := nl) (n := 5) Fd sc__law_nodes rfl rfl (fun cdv A outer s F H E hr tk =>
    (fss_cons (fs_B (fn_set 3 rfl (fe_fz (fo_catF (fe_dcget 1 hr (fe_var 1)) (fe_dcget 0 hr (fe_var 1)))) sc__law_nodes.nd))
    (fss_cons (fs_B (fn_set 3 rfl (fe_fz (fo_catF (fe_var 3) (fe_fz (fo_lc (vs := [7]) (own := [(("k" : Str), 7)]) rfl (blkOk_by (N := N__law_nodes) (sc := defScope (top 46)) (by decide +kernel)) sc__law_nodes.nd (fi_range1 (fe_len (fe_var 2) (T.f_len)) (T.f_range)) (fgb_name 7 sc__law_nodes.nd) (fts_one fun s H C cl fp => (ft_eqd hr (fe_ixL (fe_var 2) (fe_var 7)) (fe_opt fe_str))) (fun s H C cl fp => (fe_fz (fo_cal D__law_turned takesF hr (fa_cons (fe_ixL (fe_dcget 5 hr (fe_var 1)) (fe_var 7)) fa_nil)))))))) sc__law_nodes.nd))
    (fss_cons (fs_B (fn_set 4 rfl (fe_fz (fo_catF (fe_dcget 4 hr (fe_var 1)) (fe_fz (fo_lc (vs := [7]) (own := [(("k" : Str), 7)]) rfl (blkOk_by (N := N__law_nodes) (sc := defScope (top 46)) (by decide +kernel)) sc__law_nodes.nd (fi_range1 (fe_len (fe_var 2) (T.f_len)) (T.f_range)) (fgb_name 7 sc__law_nodes.nd) (fts_one fun s H C cl fp => (ft_eqd hr (fe_ixL (fe_var 2) (fe_var 7)) (fe_opt fe_str))) (fun s H C cl fp => (fe_fz (fo_cal D__law_turned takesF hr (fa_cons (fe_ixL (fe_dcget 6 hr (fe_var 1)) (fe_var 7)) fa_nil)))))))) sc__law_nodes.nd))
    (fss_cons (fs_B (fn_set 5 rfl (fe_fz (fo_list (fe_var 2) (T.f_list))) sc__law_nodes.nd))
    (fss_cons (fs_B (fn_set 6 rfl (fe_cal D_node_plans tk hr (fa_cons (fe_var 0) (fa_cons (fe_var 5) fa_nil))) sc__law_nodes.nd))
    (fss_cons (fs_if (ft_w (fw_or (ft_not (ft_val (fe_isi (U := "tuple") (fe_var 6) (T.f_isinstance) T.f_tuple))) (fw_or (ft_ne (fe_len (fe_var 6) (T.f_len)) fe_int) (fw_or1 (ft_ned hr (fe_var 5) (fe_var 2)))))) (fss_one (fs_ret fe_bl)) fss_nil)
    (fss_one (fs_ret (fe_and (fe_cal D__law_planned tk hr (fa_cons (fe_p0 (fe_var 6)) (fa_cons (fe_var 3) (fa_cons (fe_dcget 3 hr (fe_var 1)) fa_nil)))) (fe_one (fe_cal D__law_planned tk hr (fa_cons (fe_p1 (fe_var 6)) (fa_cons (fe_var 4) (fa_cons (fe_fz (fo_cat (fo_rep (fo_lst (fh_cons fe_int fh_nil)) (fe_add (fe_len (fe_dcget 0 hr (fe_var 1)) (T.f_len)) fe_int)) (fo_lst (fh_cons fe_int fh_nil)))) fa_nil))))))))))))))) (fun z => by simp only [bind_ok']; rfl)
abbrev N__law_priced : List Str := [("size" : Str), ("start" : Str), ("rows" : Str), ("tops" : Str), ("bottom" : Str), ("scale" : Str), ("row" : Str), ("total" : Str), ("k" : Str), ("head" : Str), ("factor" : Str), ("j" : Str)]
theorem sc__law_priced : FnScope N__law_priced [("size" : Str), ("start" : Str), ("rows" : Str), ("tops" : Str), ("bottom" : Str)] (defScope (top 47)) := ⟨rfl, rfl, rfl, by decide +kernel, rfl, by decide +kernel, by decide +kernel⟩
theorem d__law_priced {f : Addr} {fd : FuncData} (Fd : FnP K "_law_priced" (top 47) f fd) (T : T0 K mg)  : FnOk P w K mg base (L2.CX P w) 1 f fd [("size" : Str), ("start" : Str), ("rows" : Str), ("tops" : Str), ("bottom" : Str)] (spF K (rtO Int) m__law_priced) :=
  fn_def (αs := Int × (List Int) × (List (List Int)) × (List Int) × Int × Unit) (G' := nl) (n := 7) Fd sc__law_priced rfl rfl (fun cdv A outer s F H E hr tk =>
    (fss_cons (fs_B (fn_set 5 rfl (fe_ixL (fe_var 1) (fe_neg fe_int)) sc__law_priced.nd))
    (fss_cons (fs_n (fn_for (passes_of rfl) (fi_list (fe_var 2)) (fg_name 6 rfl sc__law_priced.nd) (fns_B (fn_set 5 rfl (fe_mul (fe_var 5) (fe_ixL (fe_var 6) (fe_neg fe_int))) sc__law_priced.nd) (fns_nilS (G' := (va Int (va (List Int) (va (List (List Int)) (va (List Int) (va Int (va Int (un (un (un (un (un (un nl)))))))))))))))))
    (fss_cons (fs_B (fn_setO 7 rfl (fo_lc (vs := [8]) (own := [(("k" : Str), 8)]) rfl (blkOk_by (N := N__law_priced) (sc := defScope (top 47)) (by decide +kernel)) sc__law_priced.nd (fi_range1 (fe_var 0) (T.f_range)) (fgb_name 8 sc__law_priced.nd) fts_nil (fun s H C cl fp => (fe_mul (fe_mul (fe_ixL (fe_var 1) (fe_var 8)) (fe_fdv (fe_var 5) (fe_ixL (fe_var 1) (fe_neg fe_int)))) (fe_var 4)))) sc__law_priced.nd))
    (fss_cons (fs_B2 (fn_append 7 (fe_mul (fe_mul (fe_ixL (fe_var 1) (fe_neg fe_int)) (fe_fdv (fe_var 5) (fe_ixL (fe_var 1) (fe_neg fe_int)))) (fe_var 4))))
    (fss_lend (fss_cons (fs_n (fn_for (passes_of rfl) (fi_range1 (fe_len (fe_var 2) (T.f_len)) (T.f_range)) (fg_name 8 rfl sc__law_priced.nd) (fns_B (fn_set 9 rfl (fe_fz (fo_catF (fe_slL (fe_ixL (fe_var 2) (fe_var 8)) fp_none (fp_some (fe_var 0))) (fe_fz (fo_lst (fh_cons (fe_ixL (fe_ixL (fe_var 2) (fe_var 8)) (fe_neg fe_int)) fh_nil))))) sc__law_priced.nd) (fns_B (fn_set 10 rfl (fe_mul (fe_ixL (fe_var 3) (fe_var 8)) (fe_fdv (fe_var 5) (fe_ixL (fe_ixL (fe_var 2) (fe_var 8)) (fe_neg fe_int)))) sc__law_priced.nd) (fns_B (fn_set 7 rfl (fe_fz (fo_lc (vs := [11]) (own := [(("j" : Str), 11)]) rfl (blkOk_by (N := N__law_priced) (sc := defScope (top 47)) (by decide +kernel)) sc__law_priced.nd (fi_range1 (fe_add (fe_var 0) fe_int) (T.f_range)) (fgb_name 11 sc__law_priced.nd) fts_nil (fun s H C cl fp => (fe_sub (fe_ixL (fe_var 7) (fe_var 11)) (fe_mul (fe_var 10) (fe_ixL (fe_var 9) (fe_var 11))))))) sc__law_priced.nd) (fns_nilS (G' := (va Int (va (List Int) (va (List (List Int)) (va (List Int) (va Int (va Int (un (va (List Int) (un (un (un (un nl)))))))))))))))))))
    (fss_one (fs_retO (fo_catF (fe_var 7) (fe_fz (fo_lst (fh_cons (fe_mul (fe_var 5) (fe_var 4)) fh_nil))))))))))))) (fun z => by simp only [bind_ok']; rfl)
abbrev N__law_last : List Str := [("model" : Str), ("value" : Str), ("wide" : Str), ("k" : Str)]
theorem sc__law_last : FnScope N__law_last [("model" : Str), ("value" : Str)] (defScope (top 48)) := ⟨rfl, rfl, rfl, by decide +kernel, rfl, by decide +kernel, by decide +kernel⟩
theorem d__law_last {f : Addr} {fd : FuncData} (Fd : FnP K "_law_last" (top 48) f fd) (T : T0 K mg)  : FnOk P w K mg base (L2.CX P w) 1 f fd [("model" : Str), ("value" : Str)] (spF K (rtO Int) m__law_last) :=
  fn_def (αs := (Dc [("rows" : Str), ("rules" : Str), ("aim" : Str), ("cost" : Str), ("prices" : Str), ("firsts" : Str), ("seconds" : Str)] ((List (List Int)) × (List (List Int)) × (List Int) × (List Int) × (List (List Int)) × (List (List Int)) × (List (List Int)) × Unit)) × (List Int) × Unit) (G' := nl) (n := 2) Fd sc__law_last rfl rfl (fun cdv A outer s F H E hr tk =>
    (fss_cons (fs_B (fn_set 2 rfl (fe_fz (fo_catF (fe_fz (fo_catF (fe_slL (fe_var 1) fp_none (fp_some (fe_neg fe_int))) (fe_fz (fo_rep (fo_lst (fh_cons fe_int fh_nil)) (fe_sub (fe_len (fe_dcget 2 hr (fe_var 0)) (T.f_len)) (fe_len (fe_var 1) (T.f_len))))))) (fe_slL (fe_var 1) (fp_some (fe_neg fe_int)) fp_none))) sc__law_last.nd))
    (fss_one (fs_retO (fo_cat (fo_lc (vs := [3]) (own := [(("k" : Str), 3)]) rfl (blkOk_by (N := N__law_last) (sc := defScope (top 48)) (by decide +kernel)) sc__law_last.nd (fi_range1 (fe_sub (fe_len (fe_var 2) (T.f_len)) fe_int) (T.f_range)) (fgb_name 3 sc__law_last.nd) fts_nil (fun s H C cl fp => (fe_sub (fe_mul (fe_ixL (fe_var 2) (fe_var 3)) (fe_ixL (fe_dcget 2 hr (fe_var 0)) (fe_neg fe_int))) (fe_mul (fe_ixL (fe_dcget 2 hr (fe_var 0)) (fe_var 3)) (fe_ixL (fe_var 2) (fe_neg fe_int)))))) (fo_lst (fh_cons (fe_mul (fe_ixL (fe_var 2) (fe_neg fe_int)) (fe_ixL (fe_dcget 2 hr (fe_var 0)) (fe_neg fe_int))) fh_nil))))))) (fun z => by simp only [bind_ok']; rfl)
abbrev N__law_kinds : List Str := [("task" : Str), ("model" : Str), ("size" : Str), ("draws" : Str), ("low" : Str), ("value" : Str), ("base" : Str), ("told" : Str), ("mine" : Str), ("made" : Str), ("piece" : Str), ("wide" : Str), ("k" : Str), ("row" : Str)]
theorem sc__law_kinds : FnScope N__law_kinds [("task" : Str), ("model" : Str), ("size" : Str), ("draws" : Str)] (defScope (top 49)) := ⟨rfl, rfl, rfl, by decide +kernel, rfl, by decide +kernel, by decide +kernel⟩
theorem d__law_kinds {f : Addr} {fd : FuncData} (Fd : FnP K "_law_kinds" (top 49) f fd) (T : T0 K mg) (D__law_lowest : Dk P w K mg base "_law_lowest" [("values" : Str)] 2 (spF K (rtO Int) m__law_lowest)) (D__law_priced : Dk P w K mg base "_law_priced" [("size" : Str), ("start" : Str), ("rows" : Str), ("tops" : Str), ("bottom" : Str)] 1 (spF K (rtO Int) m__law_priced)) (D_kind_plan : Dk P w K mg base "kind_plan" [("task" : Str), ("weights" : Str)] 6 (spF K (rtF Ty_Plan) m_kind_plan)) (D__law_last : Dk P w K mg base "_law_last" [("model" : Str), ("value" : Str)] 1 (spF K (rtO Int) m__law_last)) (D__law_planned : Dk P w K mg base "_law_planned" [("plan" : Str), ("rows" : Str), ("cost" : Str)] 5 (spF K (rtF Bool) m__law_planned)) (D__law_function : Dk P w K mg base "_law_function" [("draws" : Str), ("at" : Str), ("width" : Str), ("far" : Str)] 1 (spF K (rtO Int) m__law_function)) (D__law_made : Dk P w K mg base "_law_made" [("row" : Str)] 4 (spF K (rtF Ty_Affine) m__law_made)) (D_Piece___init__ : Di P w K mg base "Piece" [("self" : Str), ("value" : Str), ("rows" : Str), ("weights" : Str), ("inside" : Str)] [] 1 (spI K "Piece" Fs_Piece m_Piece___init__)) (D_piece_plan : Dk P w K mg base "piece_plan" [("task" : Str), ("piece" : Str)] 6 (spF K (rtF Ty_Plan) m_piece_plan)) : FnOk P w K mg base (L2.CX P w) 7 f fd [("task" : Str), ("model" : Str), ("size" : Str), ("draws" : Str)] (spF K (rtF Bool) m__law_kinds) :=
  fn_def (αs := Ty_Task × (Dc [("rows" : Str), ("rules" : Str), ("aim" : Str), ("cost" : Str), ("prices" : Str), ("firsts" : Str), ("seconds" : Str)] ((List (List Int)) × (List (List Int)) × (List Int) × (List Int) × (List (List Int)) × (List (List Int)) × (List (List Int)) × Unit)) × Int × (List Int) × Unit) (G' := nl) (n := 10) Fd sc__law_kinds rfl rfl (fun cdv A outer s F H E hr tk =>
    (fss_cons (fs_B (fn_set 4 rfl (fe_fz (fo_cal D__law_lowest tk hr (fa_cons (fe_fz (fo_cat (fo_lc (vs := [12]) (own := [(("k" : Str), 12)]) rfl (blkOk_by (N := N__law_kinds) (sc := defScope (top 49)) (by decide +kernel)) sc__law_kinds.nd (fi_range1 (fe_len (fe_dcget 0 hr (fe_var 1)) (T.f_len)) (T.f_range)) (fgb_name 12 sc__law_kinds.nd) fts_nil (fun s H C cl fp => (fe_mod (fe_ixL (fe_var 3) (fe_var 12)) fe_int))) (fo_lst (fh_cons (fe_add fe_int (fe_mod (fe_ixL (fe_var 3) fe_int) fe_int)) fh_nil)))) fa_nil))) sc__law_kinds.nd))
    (fss_cons (fs_B (fn_set 5 rfl (fe_fz (fo_cal D__law_priced tk hr (fa_cons (fe_var 2) (fa_cons (fe_dcget 2 hr (fe_var 1)) (fa_cons (fe_dcget 0 hr (fe_var 1)) (fa_cons (fe_slL (fe_var 4) fp_none (fp_some (fe_neg fe_int))) (fa_cons (fe_ixL (fe_var 4) (fe_neg fe_int)) fa_nil))))))) sc__law_kinds.nd))
    (fss_cons (fs_B (fn_set 6 rfl (fe_fz (fo_catF (fe_dcget 1 hr (fe_var 1)) (fe_dcget 0 hr (fe_var 1)))) sc__law_kinds.nd))
    (fss_cons (fs_B (fn_set 7 rfl (fe_cal D_kind_plan tk hr (fa_cons (fe_var 0) (fa_cons (fe_tup2 (fe_tupL (fe_slL (fe_var 4) fp_none (fp_some (fe_neg fe_int))) (T.f_tuple)) (fe_ixL (fe_var 4) (fe_neg fe_int))) fa_nil))) sc__law_kinds.nd))
    (fss_cons (fs_if (ft_not (ft_val (fe_cal D__law_planned tk hr (fa_cons (fe_var 7) (fa_cons (fe_fz (fo_catF (fe_var 6) (fe_fz (fo_lst (fh_cons (fe_fz (fo_cal D__law_last tk hr (fa_cons (fe_var 1) (fa_cons (fe_var 5) fa_nil)))) fh_nil))))) (fa_cons (fe_dcget 3 hr (fe_var 1)) fa_nil)))))) (fss_one (fs_ret fe_bl)) fss_nil)
    (fss_cons (fs_B (fn_set 5 rfl (fe_fz (fo_cal D__law_function tk hr (fa_cons (fe_var 3) (fa_cons fe_int (fa_cons (fe_var 2) (fa_cons fe_int fa_nil)))))) sc__law_kinds.nd))
    (fss_cons (fs_B (fn_setLcF (vs := [12]) (own := [(("k" : Str), 12)]) 8 rfl rfl (blkOk_by (N := N__law_kinds) (sc := defScope (top 49)) (by decide +kernel)) sc__law_kinds.nd (fi_range1 (fe_mod (fe_fdv (fe_ixL (fe_var 3) fe_int) fe_int) fe_int) (T.f_range)) (fgb_name 12 sc__law_kinds.nd) fts_nil (fun s H C cl fp => (fe_fz (fo_cal D__law_function takesF hr (fa_cons (fe_var 3) (fa_cons (fe_add fe_int (fe_mul fe_int (fe_var 12))) (fa_cons (fe_var 2) (fa_cons fe_int fa_nil)))))))))
    (fss_cons (fs_B (fn_setLc (vs := [13]) (own := [(("row" : Str), 13)]) 9 rfl rfl (blkOk_by (N := N__law_kinds) (sc := defScope (top 49)) (by decide +kernel)) sc__law_kinds.nd (fi_list (fe_var 8)) (fgb_name 13 sc__law_kinds.nd) fts_nil (fun s H C cl fp => (fe_cal D__law_made takesF hr (fa_cons (fe_var 13) fa_nil)))))
    (fss_cons (fs_B (fn_set 10 rfl (fe_br (fe_make D_Piece___init__ tk hr (fa_cons (fe_cal D__law_made tk hr (fa_cons (fe_var 5) fa_nil)) (fa_cons (fe_var 9) (fa_cons (fe_fz (fo_lst (fh_cons (fe_tup2 (fe_tupL (fe_slL (fe_var 4) fp_none (fp_some (fe_neg fe_int))) (T.f_tuple)) (fe_ixL (fe_var 4) (fe_neg fe_int))) fh_nil))) (fa_cons (fe_tup2 (fe_repU (fe_tupU (fh_cons fe_int fh_nil)) (fe_var 2)) fe_int) fa_nil)))))) sc__law_kinds.nd))
    (fss_cons (fs_B2 (fn_append 9 (fe_cal D__law_made tk hr (fa_cons (fe_var 5) fa_nil))))
    (fss_lend (fss_cons (fs_B (fn_setLcF (vs := [13]) (own := [(("row" : Str), 13)]) 11 rfl rfl (blkOk_by (N := N__law_kinds) (sc := defScope (top 49)) (by decide +kernel)) sc__law_kinds.nd (fi_list (fe_var 8)) (fgb_name 13 sc__law_kinds.nd) fts_nil (fun s H C cl fp => (fe_fz (fo_catF (fe_fz (fo_catF (fe_slL (fe_var 13) fp_none (fp_some (fe_neg fe_int))) (fe_fz (fo_rep (fo_lst (fh_cons fe_int fh_nil)) (fe_sub (fe_len (fe_dcget 2 hr (fe_var 1)) (T.f_len)) (fe_len (fe_var 13) (T.f_len))))))) (fe_slL (fe_var 13) (fp_some (fe_neg fe_int)) fp_none))))))
    (fss_one (fs_ret (fe_cal D__law_planned tk hr (fa_cons (fe_cal D_piece_plan tk hr (fa_cons (fe_var 0) (fa_cons (fe_var 10) fa_nil))) (fa_cons (fe_fz (fo_catF (fe_fz (fo_catF (fe_var 6) (fe_var 11))) (fe_fz (fo_lst (fh_cons (fe_fz (fo_cal D__law_last tk hr (fa_cons (fe_var 1) (fa_cons (fe_var 5) fa_nil)))) fh_nil))))) (fa_cons (fe_dcget 3 hr (fe_var 1)) fa_nil))))))))))))))))))) (fun z => by simp only [bind_ok']; rfl)
abbrev N__law_model : List Str := [("draws" : Str), ("size" : Str), ("replies" : Str), ("far" : Str), ("whole" : Str), ("rows" : Str), ("rules" : Str), ("aim" : Str), ("prices" : Str), ("k" : Str)]
theorem sc__law_model : FnScope N__law_model [("draws" : Str), ("size" : Str), ("replies" : Str), ("far" : Str)] (defScope (top 50)) := ⟨rfl, rfl, rfl, by decide +kernel, rfl, by decide +kernel, by decide +kernel⟩
theorem d__law_model {f : Addr} {fd : FuncData} (Fd : FnP K "_law_model" (top 50) f fd) (T : T0 K mg) (D__law_function : Dk P w K mg base "_law_function" [("draws" : Str), ("at" : Str), ("width" : Str), ("far" : Str)] 1 (spF K (rtO Int) m__law_function)) (D__law_prices : Dk P w K mg base "_law_prices" [("size" : Str), ("aim" : Str), ("rows" : Str)] 1 (spF K (rtO (List Int)) m__law_prices)) (D__law_variables : Dk P w K mg base "_law_variables" [("size" : Str), ("start" : Str)] 1 (spF K (rtO (List Int)) m__law_variables)) : FnOk P w K mg base (L2.CX P w) 2 f fd [("draws" : Str), ("size" : Str), ("replies" : Str), ("far" : Str)] (spF K (rtF (Dc [("rows" : Str), ("rules" : Str), ("aim" : Str), ("cost" : Str), ("prices" : Str), ("firsts" : Str), ("seconds" : Str)] ((List (List Int)) × (List (List Int)) × (List Int) × (List Int) × (List (List Int)) × (List (List Int)) × (List (List Int)) × Unit))) m__law_model) :=
  fn_def (αs := (List Int) × Int × Int × Int × Unit) (G' := nl) (n := 6) Fd sc__law_model rfl rfl (fun cdv A outer s F H E hr tk =>
    (fss_cons (fs_B (fn_set 4 rfl (fe_add (fe_var 1) (fe_var 2)) sc__law_model.nd))
    (fss_cons (fs_B (fn_setLcF (vs := [9]) (own := [(("k" : Str), 9)]) 5 rfl rfl (blkOk_by (N := N__law_model) (sc := defScope (top 50)) (by decide +kernel)) sc__law_model.nd (fi_range1 (fe_add fe_int (fe_mod (fe_ixL (fe_var 0) fe_int) fe_int)) (T.f_range)) (fgb_name 9 sc__law_model.nd) fts_nil (fun s H C cl fp => (fe_fz (fo_cal D__law_function takesF hr (fa_cons (fe_var 0) (fa_cons (fe_add fe_int (fe_mul fe_int (fe_var 9))) (fa_cons (fe_var 4) (fa_cons (fe_var 3) fa_nil)))))))))
    (fss_cons (fs_B (fn_setLcF (vs := [9]) (own := [(("k" : Str), 9)]) 6 rfl rfl (blkOk_by (N := N__law_model) (sc := defScope (top 50)) (by decide +kernel)) sc__law_model.nd (fi_range1 (fe_mod (fe_ixL (fe_var 0) fe_int) fe_int) (T.f_range)) (fgb_name 9 sc__law_model.nd) fts_nil (fun s H C cl fp => (fe_fz (fo_cal D__law_function takesF hr (fa_cons (fe_var 0) (fa_cons (fe_add fe_int (fe_mul fe_int (fe_var 9))) (fa_cons (fe_var 4) (fa_cons (fe_var 3) fa_nil)))))))))
    (fss_cons (fs_B (fn_set 7 rfl (fe_fz (fo_cal D__law_function tk hr (fa_cons (fe_var 0) (fa_cons fe_int (fa_cons (fe_var 4) (fa_cons (fe_var 3) fa_nil)))))) sc__law_model.nd))
    (fss_cons (fs_n (fn_if (ft_eq (fe_mod (fe_ixL (fe_var 0) fe_int) fe_int) fe_int) (fns_B (fn_set 7 rfl (fe_fz (fo_catF (fe_fz (fo_catF (fe_slL (fe_var 7) fp_none (fp_some (fe_var 1))) (fe_fz (fo_rep (fo_lst (fh_cons fe_int fh_nil)) (fe_var 2))))) (fe_slL (fe_var 7) (fp_some (fe_neg fe_int)) fp_none))) sc__law_model.nd) fns_nil) fns_nil))
    (fss_cons (fs_B (fn_set 8 rfl (fe_fz (fo_cal D__law_prices tk hr (fa_cons (fe_var 1) (fa_cons (fe_var 7) (fa_cons (fe_var 5) fa_nil))))) sc__law_model.nd))
    (fss_one (fs_ret (fe_dc (fdp_cons (fe_var 5) (fdp_cons (fe_var 6) (fdp_cons (fe_var 7) (fdp_cons (fe_fz (fo_cal D__law_function tk hr (fa_cons (fe_var 0) (fa_cons fe_int (fa_cons (fe_var 4) (fa_cons fe_int fa_nil)))))) (fdp_cons (fe_var 8) (fdp_cons (fe_fz (fo_catF (fe_var 5) (fe_fz (fo_cal D__law_variables tk hr (fa_cons (fe_var 4) (fa_cons (fe_var 1) fa_nil)))))) (fdp_cons (fe_fz (fo_catF (fe_fz (fo_cal D__law_variables tk hr (fa_cons (fe_len (fe_var 5) (T.f_len)) (fa_cons fe_int fa_nil)))) (fe_var 8))) fdp_nil))))))))))))))))) (fun z => by simp only [bind_ok']; rfl)
abbrev N_law : List Str := [("script" : Str), ("draws" : Str), ("size" : Str), ("replies" : Str), ("far" : Str), ("model" : Str), ("made" : Str), ("last" : Str), ("task" : Str), ("told" : Str), ("count" : Str), ("k" : Str), ("sides" : Str), ("more" : Str), ("some" : Str), ("row" : Str)]
theorem sc_law : FnScope N_law [("script" : Str)] (defScope (top 51)) := ⟨rfl, rfl, rfl, by decide +kernel, rfl, by decide +kernel, by decide +kernel⟩
theorem d_law {f : Addr} {fd : FuncData} (Fd : FnP K "law" (top 51) f fd) (T : T0 K mg) (D__law_draws : Dk P w K mg base "_law_draws" [("script" : Str), ("count" : Str)] 1 (spF K (rtO Int) m__law_draws)) (D__law_model : Dk P w K mg base "_law_model" [("draws" : Str), ("size" : Str), ("replies" : Str), ("far" : Str)] 2 (spF K (rtF (Dc [("rows" : Str), ("rules" : Str), ("aim" : Str), ("cost" : Str), ("prices" : Str), ("firsts" : Str), ("seconds" : Str)] ((List (List Int)) × (List (List Int)) × (List Int) × (List Int) × (List (List Int)) × (List (List Int)) × (List (List Int)) × Unit))) m__law_model)) (D__law_made : Dk P w K mg base "_law_made" [("row" : Str)] 4 (spF K (rtF Ty_Affine) m__law_made)) (D_Task___init__ : Di P w K mg base "Task" [("self" : Str), ("size" : Str), ("replies" : Str), ("cost" : Str), ("rules" : Str), ("aim" : Str), ("rows" : Str)] [] 2 (spI K "Task" Fs_Task m_Task___init__)) (D_pair_functions : Dk P w K mg base "pair_functions" [("task" : Str)] 8 (spF K (rtO (Ty_Affine × Ty_Affine)) m_pair_functions)) (D__law_same : Dk P w K mg base "_law_same" [("told" : Str), ("due" : Str)] 3 (spF K (rtF Bool) m__law_same)) (D__law_nodes : Dk P w K mg base "_law_nodes" [("task" : Str), ("model" : Str), ("sides" : Str)] 9 (spF K (rtF Bool) m__law_nodes)) (D__law_kinds : Dk P w K mg base "_law_kinds" [("task" : Str), ("model" : Str), ("size" : Str), ("draws" : Str)] 7 (spF K (rtF Bool) m__law_kinds)) : FnOk P w K mg base (L2.CX P w) 10 f fd [("script" : Str)] (spF K (rtF Bool) m_law) :=
  fn_def (αs := (List Int) × Unit) (G' := nl) (n := 15) Fd sc_law rfl rfl (fun cdv A outer s F H E hr tk =>
    (fss_cons (fs_B (fn_set 1 rfl (fe_fz (fo_cal D__law_draws tk hr (fa_cons (fe_var 0) (fa_cons fe_int fa_nil)))) sc_law.nd))
    (fss_cons (fs_B (fn_set 2 rfl (fe_add fe_int (fe_mod (fe_ixL (fe_var 1) fe_int) fe_int)) sc_law.nd))
    (fss_cons (fs_B (fn_set 3 rfl (fe_add fe_int (fe_mod (fe_ixL (fe_var 1) fe_int) fe_int)) sc_law.nd))
    (fss_cons (fs_B (fn_set 4 rfl fe_int sc_law.nd))
    (fss_cons (fs_n (fn_if (ft_eq (fe_mod (fe_ixL (fe_var 1) fe_int) fe_int) fe_int) (fns_B (fn_set 4 rfl (fe_add (fe_pow fe_int fe_int) (fe_ixL (fe_var 1) fe_int)) sc_law.nd) fns_nil) fns_nil))
    (fss_cons (fs_B (fn_set 5 rfl (fe_cal D__law_model tk hr (fa_cons (fe_var 1) (fa_cons (fe_var 2) (fa_cons (fe_var 3) (fa_cons (fe_var 4) fa_nil))))) sc_law.nd))
    (fss_cons (fs_B (fn_setLcF (vs := [15]) (own := [(("row" : Str), 15)]) 6 rfl rfl (blkOk_by (N := N_law) (sc := defScope (top 51)) (by decide +kernel)) sc_law.nd (fi_list (fe_fz (fo_catF (fe_fz (fo_catF (fe_fz (fo_lst (fh_cons (fe_dcget 3 hr (fe_var 5)) (fh_cons (fe_dcget 2 hr (fe_var 5)) fh_nil)))) (fe_dcget 1 hr (fe_var 5)))) (fe_dcget 0 hr (fe_var 5))))) (fgb_name 15 sc_law.nd) fts_nil (fun s H C cl fp => (fe_cal D__law_made takesF hr (fa_cons (fe_var 15) fa_nil)))))
    (fss_cons (fs_B (fn_set 7 rfl (fe_add fe_int (fe_len (fe_dcget 1 hr (fe_var 5)) (T.f_len))) sc_law.nd))
    (fss_cons (fs_B (fn_set 8 rfl (fe_make D_Task___init__ tk hr (fa_cons (fe_var 2) (fa_cons (fe_var 3) (fa_cons (fe_ixL (fe_var 6) fe_int) (fa_cons (fe_slL (fe_var 6) (fp_some fe_int) (fp_some (fe_var 7))) (fa_cons (fe_ixL (fe_var 6) fe_int) (fa_cons (fe_slL (fe_var 6) (fp_some (fe_var 7)) fp_none) fa_nil))))))) sc_law.nd))
    (fss_cons (fs_B (fn_set 9 rfl (fe_fz (fo_cal D_pair_functions tk hr (fa_cons (fe_var 8) fa_nil))) sc_law.nd))
    (fss_cons (fs_B (fn_set 10 rfl (fe_len (fe_dcget 5 hr (fe_var 5)) (T.f_len)) sc_law.nd))
    (fss_cons (fs_if (ft_w (fw_or (ft_not (ft_val (fe_isi (U := "list") (fe_var 9) (T.f_isinstance) T.f_list))) (fw_or1 (ft_ne (fe_len (fe_var 9) (T.f_len)) (fe_var 10))))) (fss_one (fs_ret fe_bl)) fss_nil)
    (fss_cons (fs_forK (rt := id) (passes_of rfl) (fi_range1 (fe_var 10) (T.f_range)) (fg_name 11 rfl sc_law.nd) (fss_cons (fs_if (ft_w (fw_or (ft_not (ft_val (fe_isi (U := "tuple") (fe_ixL (fe_var 9) (fe_var 11)) (T.f_isinstance) T.f_tuple))) (fw_or1 (ft_ne (fe_len (fe_ixL (fe_var 9) (fe_var 11)) (T.f_len)) fe_int)))) (fss_one (fs_retL fe_bl)) fss_nil)
    (fss_cons (fs_if (ft_w (fw_or (ft_not (ft_val (fe_cal D__law_same tk hr (fa_cons (fe_p0 (fe_ixL (fe_var 9) (fe_var 11))) (fa_cons (fe_ixL (fe_dcget 5 hr (fe_var 5)) (fe_var 11)) fa_nil))))) (fw_or1 (ft_not (ft_val (fe_cal D__law_same tk hr (fa_cons (fe_p1 (fe_ixL (fe_var 9) (fe_var 11))) (fa_cons (fe_ixL (fe_dcget 6 hr (fe_var 5)) (fe_var 11)) fa_nil)))))))) (fss_one (fs_retL fe_bl)) fss_nil)
    (fss_nilS (G' := (va (List Int) (va (List Int) (va Int (va Int (va Int (va (Dc [("rows" : Str), ("rules" : Str), ("aim" : Str), ("cost" : Str), ("prices" : Str), ("firsts" : Str), ("seconds" : Str)] ((List (List Int)) × (List (List Int)) × (List Int) × (List Int) × (List (List Int)) × (List (List Int)) × (List (List Int)) × Unit)) (va (List Ty_Affine) (va Int (va Ty_Task (va (List (Ty_Affine × Ty_Affine)) (va Int (un (un (un (un (un nl)))))))))))))))))))))
    (fss_cons (fs_B (fn_setLcF (vs := [11]) (own := [(("k" : Str), 11)]) 12 rfl rfl (blkOk_by (N := N_law) (sc := defScope (top 51)) (by decide +kernel)) sc_law.nd (fi_range1 (fe_var 10) (T.f_range)) (fgb_name 11 sc_law.nd) fts_nil (fun s H C cl fp => (fe_ixL (fe_fz (fo_lst (fh_cons (fe_nopt (α := Str) fe_none) (fh_cons (fe_opt fe_str) (fh_cons (fe_opt fe_str) fh_nil))))) (fe_mod (fe_ixL (fe_var 1) (fe_add fe_int (fe_var 11))) fe_int)))))
    (fss_cons (fs_B (fn_setLcF (vs := [11]) (own := [(("k" : Str), 11)]) 13 rfl rfl (blkOk_by (N := N_law) (sc := defScope (top 51)) (by decide +kernel)) sc_law.nd (fi_range1 (fe_var 10) (T.f_range)) (fgb_name 11 sc_law.nd) fts_nil (fun s H C cl fp => (fe_ixL (fe_fz (fo_lst (fh_cons (fe_nopt (α := Str) fe_none) (fh_cons (fe_opt fe_str) (fh_cons (fe_opt fe_str) (fh_cons (fe_opt fe_str) (fh_cons (fe_opt fe_str) fh_nil))))))) (fe_mod (fe_ixL (fe_var 1) (fe_add fe_int (fe_var 11))) fe_int)))))
    (fss_cons (fs_forK (rt := id) (passes_of rfl) (fi_list (fe_fz (fo_lst (fh_cons (fe_fz (fo_rep (fo_lst (fh_cons (fe_nopt (α := Str) fe_none) fh_nil)) (fe_var 10))) (fh_cons (fe_var 12) (fh_cons (fe_var 13) (fh_cons (fe_fz (fo_rep (fo_lst (fh_cons (fe_opt fe_str) fh_nil)) (fe_var 10))) (fh_cons (fe_fz (fo_rep (fo_lst (fh_cons (fe_opt fe_str) fh_nil)) (fe_var 10))) fh_nil)))))))) (fg_name 14 rfl sc_law.nd) (fss_cons (fs_if (ft_not (ft_val (fe_cal D__law_nodes tk hr (fa_cons (fe_var 8) (fa_cons (fe_var 5) (fa_cons (fe_var 14) fa_nil)))))) (fss_one (fs_retL fe_bl)) fss_nil)
    (fss_nilS (G' := (va (List Int) (va (List Int) (va Int (va Int (va Int (va (Dc [("rows" : Str), ("rules" : Str), ("aim" : Str), ("cost" : Str), ("prices" : Str), ("firsts" : Str), ("seconds" : Str)] ((List (List Int)) × (List (List Int)) × (List Int) × (List Int) × (List (List Int)) × (List (List Int)) × (List (List Int)) × Unit)) (va (List Ty_Affine) (va Int (va Ty_Task (va (List (Ty_Affine × Ty_Affine)) (va Int (un (va (List (Option Str)) (va (List (Option Str)) (un (un nl))))))))))))))))))))
    (fss_one (fs_ret (fe_cal D__law_kinds tk hr (fa_cons (fe_var 8) (fa_cons (fe_var 5) (fa_cons (fe_var 2) (fa_cons (fe_slL (fe_var 1) (fp_some fe_int) (fp_some fe_int)) fa_nil)))))))))))))))))))))))) (fun z => by simp only [bind_ok']; rfl)
end
end LW

/-! CD: the draws. -/
namespace LW
open PySem L2 FL
theorem fm_range {a : Int} {m : Int} (h : 0 < m) : 0 ≤ a.fmod m ∧ a.fmod m < m := ⟨Int.fmod_nonneg_of_pos _ h, Int.fmod_lt_of_pos _ h⟩
def Dr (l : List Int) : Prop := ∀ x ∈ l, 0 ≤ x ∧ x < 1000
theorem Dr.snoc {l : List Int} {a : Int} (h : Dr l) (h2 : 0 ≤ a ∧ a < 1000) : Dr (l ++ [a]) := fun x m => by
  rcases List.mem_append.mp m with m | m
  · exact h x m
  · rw [List.mem_singleton.mp m]; exact h2
theorem hlen {α : Type} [Rp α] (l : List α) : HasLen.len l = l.length := rfl
theorem draws_ok {ns : List Int} {c : Int} (hn : ns.length ≤ 63) (h0 : 0 ≤ c) (h1 : c ≤ 1000) : Ok (m__law_draws (ns, c, ())) fun l => (l.length : Int) = c ∧ Dr l := by
  unfold m__law_draws
  rw [ok_bind]
  refine ok_fold (fun g => g.1 = ns ∧ g.2.1 = c ∧ (g.2.2.1.length : Int) ≤ c ∧ Dr g.2.2.1) ⟨by first | rfl | trivial, by first | rfl | trivial, by simpa using h0, fun x m => by cases m⟩ ?_ ?_
  · rintro ⟨a1, a2, a3, _⟩ a _ ⟨b1, b2, b3, b4⟩
    simp only at b1 b2 b3 b4
    subst b1 b2
    simp only [ok_bind, ok_ok, ok_ite, hlen]
    rw [ok_pow (by decide)]
    refine ⟨fun _ => ?_, fun _ => ⟨fun hl => ?_, fun _ => ⟨by first | rfl | trivial, by first | rfl | trivial, b3, b4⟩⟩⟩
    · rw [ok_rng (by decide)]
      refine ok_fold (fun g => g.1 = a1 ∧ g.2.1 = a2 ∧ (g.2.2.1.length : Int) ≤ a2 ∧ Dr g.2.2.1) ⟨by first | rfl | trivial, by first | rfl | trivial, b3, b4⟩ ?_ fun g h => h
      rintro ⟨c1, c2, c3, c4, c5, _⟩ k _ ⟨d1, d2, d3, d4⟩
      simp only at d1 d2 d3 d4
      subst d1 d2
      simp only [ok_bind, ok_ok, ok_ite, hlen]

      refine ⟨fun _ => ⟨fun hl => ?_, fun _ => ⟨by first | rfl | trivial, by first | rfl | trivial, d3, d4⟩⟩, fun _ => ⟨(fun z => absurd z Bool.false_ne_true), fun _ => ⟨by first | rfl | trivial, by first | rfl | trivial, d3, d4⟩⟩⟩
      have hl := of_decide_eq_true hl
      rw [ok_mod (by decide), ok_app (by omega), ok_fdv (by decide) (by decide)]
      exact ⟨by first | rfl | trivial, by first | rfl | trivial, by simp only [len_app]; omega, d4.snoc (fm_range (by decide))⟩
    · have hl := of_decide_eq_true hl
      rw [ok_mulr (by decide), ok_mod (by decide), ok_mulr (by decide), ok_mod (by decide), ok_mod (by decide), ok_app (by omega)]
      exact ⟨by first | rfl | trivial, by first | rfl | trivial, by simp only [len_app]; omega, b4.snoc (fm_range (by decide))⟩
  · rintro ⟨a1, a2, a3, _⟩ ⟨b1, b2, b3, b4⟩
    simp only at b1 b2 b3 b4
    subst b1 b2
    simp only []
    rw [ok_bind]
    refine ok_fold (fun g => g.1 = a1 ∧ g.2.1 = a2 ∧ g.2.2.1 = a3) ⟨rfl, rfl, rfl⟩ ?_ ?_
    · rintro ⟨c1, c2, c3, c4, _⟩ a _ ⟨d1, d2, d3⟩
      simp only at d1 d2 d3
      subst d1 d2 d3
      simp only [ok_bind, ok_ok]
      rw [ok_mulr (by decide), ok_mod (by decide)]
      exact ⟨by trivial, by trivial, by trivial⟩
    · rintro ⟨c1, c2, c3, c4, _⟩ ⟨d1, d2, d3⟩
      simp only at d1 d2 d3
      subst d1 d2 d3
      simp only [ok_bind, ok_ok]
      rw [ok_rng (by omega)]
      refine ok_foldI (fun i g => g.1 = c1 ∧ g.2.1 = c2 ∧ (g.2.2.1.length : Int) ≤ c2 ∧ ((i : Int) ≤ c2 → (i : Int) ≤ g.2.2.1.length) ∧ Dr g.2.2.1) ⟨by first | rfl | trivial, by first | rfl | trivial, b3, fun _ => by simp, b4⟩ ?_ ?_
      · rintro i ⟨e1, e2, e3, e4, _⟩ k hk ⟨f1, f2, f3, f4, f5⟩
        simp only at f1 f2 f3 f4 f5
        subst f1 f2
        simp only [ok_bind, ok_ok, ok_ite, hlen]
        refine ⟨fun hl => ?_, fun hl => ⟨by first | rfl | trivial, by first | rfl | trivial, f3, fun z => ?_, f5⟩⟩
        · have hl := of_decide_eq_true hl
          rw [ok_mulr (by decide), ok_mod (by decide), ok_fdv (by decide) (by decide), ok_mod (by decide), ok_app (by omega)]
          exact ⟨by first | rfl | trivial, by first | rfl | trivial, by simp only [len_app]; omega, fun z => by simp only [len_app]; omega, f5.snoc (fm_range (by decide))⟩
        · have hl := of_decide_eq_false hl
          omega
      · rintro ⟨e1, e2, e3, e4, _⟩ ⟨f1, f2, f3, f4, f5⟩
        simp only at f1 f2 f3 f4 f5
        subst f1 f2
        rw [rangeL_len] at f4
        exact ⟨by have := f4 (by omega); show ((e3.length : Int)) = _; omega, f5⟩
/-- the draw at a place -/
def dv (l : List Int) (i : Int) : Int := l.getD i.toNat 0
theorem dv_range {l : List Int} (h : Dr l) (i : Int) : 0 ≤ dv l i ∧ dv l i < 1000 := by
  unfold dv
  rw [List.getD_eq_getElem?_getD]
  cases e : l[i.toNat]? with
  | none => exact ⟨Int.le_refl 0, by decide⟩
  | some x => exact h x (List.mem_of_getElem? e)
theorem getX_dv {l : List Int} {i : Int} (h0 : 0 ≤ i) (h1 : i < (l.length : Int)) : getX l i = .ok (dv l i) := by
  have e : l[i.toNat]? = some l[i.toNat] := List.getElem?_eq_getElem (by omega)
  rw [getX_b h0 e]
  unfold dv
  rw [List.getD_eq_getElem?_getD, e]
  rfl
theorem mod_range {a m : Int} (h : 0 < m) : 0 ≤ a.fmod m ∧ a.fmod m < m := fm_range h
end LW

/-! CG: the law's gcd. -/
namespace LW
open PySem L2 FL
theorem gcd_loop {f : (Int × (Int × Unit)) → Int → Xc (Lp (Int × (Int × Unit)) Int)} (hf : ∀ x y k, f (x, (y, ())) k = if decide (y = 0) = true then Xc.ok (Lp.rt x) else Xc.bind (modX x y) fun t => Xc.ok (Lp.ct (y, (t, ())))) :
    ∀ (n : Nat) (l : List Int) (x y : Nat), 2 * n + 2 ≤ l.length → y < 2 ^ n → forX f l ((x : Int), ((y : Int), ())) = .ok (.inr ((Nat.gcd x y : Nat) : Int)) := by
  have step0 : ∀ (a : Int) (l : List Int) (x : Nat), forX f (a :: l) ((x : Int), ((0 : Int), ())) = .ok (.inr (x : Int)) := fun a l x => by
    rw [forX_cons, hf]
    simp [bind_ok]
  have step1 : ∀ (a : Int) (l : List Int) (x y : Nat), y ≠ 0 → forX f (a :: l) ((x : Int), ((y : Int), ())) = forX f l ((y : Int), (((x % y : Nat) : Int), ())) := fun a l x y h => by
    rw [forX_cons, hf]
    have h2 : (y : Int) ≠ 0 := by omega
    rw [if_neg (by simpa using h), modX_b h2]
    simp only [bind_ok]
    rw [Int.fmod_eq_emod_of_nonneg _ (by omega)]
    rfl
  intro n
  induction n with
  | zero =>
    intro l x y hl hy
    have : y = 0 := by simpa using hy
    subst this
    cases l with
    | nil => simp at hl
    | cons a l => simpa using step0 a l x
  | succ n ih =>
    intro l x y hl hy
    match l, hl with
    | a :: b :: l, hl =>
      by_cases h : y = 0
      · subst h; simpa using step0 a (b :: l) x
      · rw [step1 _ _ _ _ h]
        by_cases h2 : x % y = 0
        · rw [h2]
          have := step0 b l y
          rw [show ((0 : Nat) : Int) = 0 from rfl, this]
          rw [Nat.gcd_comm, Nat.gcd_rec, h2, Nat.gcd_zero_left]
        · rw [step1 _ _ _ _ h2]
          have hr : x % y < y := Nat.mod_lt _ (by omega)
          have hs : 2 * (y % (x % y)) < 2 ^ (n + 1) := by
            have h3 : y % (x % y) < x % y := Nat.mod_lt _ (by omega)
            have h4 : y % (x % y) ≤ y - (x % y) := by
              have e := Nat.div_add_mod y (x % y)
              have : 1 ≤ y / (x % y) := Nat.div_pos (by omega) (by omega)
              have : (x % y) * 1 ≤ (x % y) * (y / (x % y)) := Nat.mul_le_mul_left _ this
              omega
            omega
          rw [ih l (x % y) (y % (x % y)) (by simp at hl; omega) (by rw [Nat.pow_succ] at hs; omega)]
          congr 3
          rw [Nat.gcd_comm x y, Nat.gcd_rec y x, Nat.gcd_rec (x % y) y, Nat.gcd_comm]
theorem absI_eq (i : Int) : absI i = (i.natAbs : Int) := by
  unfold absI
  split <;> omega
theorem bits_lt (n : Nat) : n < 2 ^ Builtin.Int.intBits (n : Int) := by
  unfold Builtin.Int.intBits
  by_cases h : n = 0
  · subst h; decide
  · have : ((n : Int) == 0) = false := by simpa using h
    rw [this]
    simp only [Bool.false_eq_true, if_false]
    exact Nat.lt_log2_self
theorem bits_le {n b : Nat} (h : n < 2 ^ b) : Builtin.Int.intBits (n : Int) ≤ b := by
  unfold Builtin.Int.intBits
  by_cases h0 : n = 0
  · subst h0; simp
  · have : ((n : Int) == 0) = false := by simpa using h0
    rw [this]
    simp only [Bool.false_eq_true, if_false]
    have := (Nat.log2_lt h0).2 h
    exact this
theorem gcd_ok' {a b : Int} (h1 : Builtin.Int.intBits (b.natAbs : Int) ≤ 9000) : m__law_gcd (a, b, ()) = .ok (gcdI a b) := by
  have e1 : mulX (2 : Int) ((Builtin.Int.intBits (absI b) : Nat) : Int) = .ok (2 * ((Builtin.Int.intBits (b.natAbs : Int) : Nat) : Int)) := by rw [absI_eq]; exact mulX_l (by decide)
  have e2 : rngX 0 (2 * ((Builtin.Int.intBits (b.natAbs : Int) : Nat) : Int) + 2) = .ok (rangeL 0 (2 * ((Builtin.Int.intBits (b.natAbs : Int) : Nat) : Int) + 2)) := rngX_b (by decide) (by omega) (by decide) (by omega)
  have e3 := gcd_loop (f := fun (g408 : (Int × (Int × Unit))) a411 => (if (decide (g408.2.1 = (0 : Int))) = true then (Xc.ok (Lp.rt g408.1)) else (Xc.bind (modX g408.1 g408.2.1) fun t413 => (Xc.ok (Lp.ct (g408.2.1, (t413, ()))))))) (fun x y k => Eq.refl _) (Builtin.Int.intBits (b.natAbs : Int)) (rangeL 0 (2 * ((Builtin.Int.intBits (b.natAbs : Int) : Nat) : Int) + 2)) a.natAbs b.natAbs (by rw [rangeL_len]; omega) (bits_lt _)
  unfold m__law_gcd
  show (Xc.bind (Xc.bind (Xc.bind (mulX (2 : Int) ((Builtin.Int.intBits (absI b) : Nat) : Int)) _) _) _) = _
  rw [e1, bind_ok, bind_ok, e2, bind_ok]
  show forK (forX _ _ (absI a, (absI b, ()))) id _ = _
  rw [absI_eq, absI_eq, e3, forK_inr, gcdI]
  exact Eq.refl _
theorem gcd_ok {a b : Int} (hb : b.natAbs < 2 ^ 9000) : m__law_gcd (a, b, ()) = .ok (gcdI a b) := gcd_ok' (bits_le hb)
end LW

/-! CP: points: divisors, lowest terms. -/
namespace LW
open PySem L2 FL
theorem gcdI_nat (n : Nat) (a : Int) : gcdI (n : Int) a = ((Nat.gcd n a.natAbs : Nat) : Int) := by
  unfold gcdI
  rw [Int.natAbs_natCast]
theorem fold_gcd {χ : Type} {f : (χ × (Int × (Int × Unit))) → Int → Xc (χ × (Int × (Int × Unit)))} {x : χ} {s : Int} : ∀ (l : List Int) (n : Nat), (∀ c a, a ∈ l → f (x, (s, (c, ()))) a = .ok (x, (s, (gcdI c a, ())))) →
    foldX f l (x, (s, ((n : Int), ()))) = .ok (x, (s, (((l.foldl (fun g a => Nat.gcd g a.natAbs) n : Nat) : Int), ())))
  | [], n, _ => rfl
  | a :: l, n, hf => by
    show (f _ a).bind _ = _
    rw [hf _ _ (by simp), bind_ok', gcdI_nat]
    exact fold_gcd l _ fun c a m => hf c a (by simp [m])
theorem common_l (l : List Int) (s : Int) : m_common_divisor_l (l, (s, ())) = .ok ((gcdL l s : Nat) : Int) := by
  unfold m_common_divisor_l
  dsimp only
  rw [absI_eq, fold_gcd (χ := List Int) l s.natAbs (fun c a _ => Eq.refl _), bind_ok']
  rfl
theorem common_u (l : Tu Int) (s : Int) : m_common_divisor_u (l, (s, ())) = .ok ((gcdL (Tu.l l) s : Nat) : Int) := by
  unfold m_common_divisor_u
  dsimp only
  rw [absI_eq, fold_gcd (χ := Tu Int) (Tu.l l) s.natAbs (fun c a _ => Eq.refl _), bind_ok']
  rfl
theorem comp_fdiv {n : Nat} {c : Int} (hn : n ≤ 8999) (hb : Bd n c) (hc : c ≠ 0) (l : List Int) {f : Int → Xc Int} {t : Int → Xc Bool} (ht : ∀ a, t a = .ok true) (hf : ∀ a, f a = fdvX a c) : compX t f l = .ok (l.map fun t => t.fdiv c) :=
  compX_map fun a _ => ⟨ht a, by rw [hf]; exact fdvX_bd hn hc⟩
theorem bd_sgd {n : Nat} {l : List Int} {b : Int} (h : b ≠ 0) (hb : Bd n b) : Bd n (sgd l b) := ⟨by
  rw [sgd_abs]
  exact Nat.lt_of_le_of_lt (gcdL_le (l := l) h).1 hb.lt⟩
theorem point_tail {χ : Type} {x : χ} {n : Nat} {l : List Int} {b : Int} (hn : n ≤ 8999) (h : b ≠ 0) (hb : Bd n b) {k : (χ × (Int × (Int × Unit))) → Xc (Tu Int × Int)}
    (hk : ∀ c : Int, Bd n c → c ≠ 0 → k (x, (b, (c, ()))) = .ok (tu (l.map fun t => t.fdiv c), b.fdiv c)) :
    (Xc.bind (if (decide (b < (0 : Int))) = true then (Xc.ok (x, (b, ((-((gcdL l b : Nat) : Int)), ())))) else (Xc.ok (x, (b, (((gcdL l b : Nat) : Int), ()))))) k) = .ok (pt l b) := by
  have h1 := bd_sgd (l := l) h hb
  have h2 := sgd_ne (l := l) h
  have h3 := hk _ h1 h2
  unfold pt
  unfold sgd at *
  by_cases q : b < 0
  · rw [if_pos (by simpa using q), bind_ok']
    rw [if_pos q] at *
    exact h3
  · rw [if_neg (by simpa using q), bind_ok']
    rw [if_neg q] at *
    exact h3
theorem point_l {n : Nat} {l : List Int} {b : Int} [hb : Bd n b] (hn : n ≤ 8999) (h : b ≠ 0) : m_point_l (l, (b, ())) = .ok (pt l b) := by
  unfold m_point_l
  rw [if_neg (by simpa using h)]
  dsimp only
  rw [common_l, bind_ok']
  refine point_tail hn h hb fun c hc h0 => ?_
  dsimp only
  rw [comp_fdiv hn hc h0 l (fun _ => rfl) (fun _ => rfl), bind_ok', bind_ok', fdvX_bd hn h0, bind_ok']
theorem point_u {n : Nat} {l : Tu Int} {b : Int} [hb : Bd n b] (hn : n ≤ 8999) (h : b ≠ 0) : m_point_u (l, (b, ())) = .ok (pt (Tu.l l) b) := by
  unfold m_point_u
  rw [if_neg (by simpa using h)]
  dsimp only
  rw [common_u, bind_ok']
  refine point_tail hn h hb fun c hc h0 => ?_
  dsimp only
  rw [comp_fdiv hn hc h0 (Tu.l l) (fun _ => rfl) (fun _ => rfl), bind_ok', bind_ok', fdvX_bd hn h0, bind_ok']
theorem point_er (l : List Int) : m_point_l (l, (0, ())) = .er "BadNumber" [] := rfl
end LW

/-! CQ: numbers in lowest terms; kinds. -/
namespace LW
open PySem L2 FL
def lowq (a b : Int) : Int × Int := (a.fdiv (sgd [a] b), b.fdiv (sgd [a] b))
theorem szX_1 {a : Int} : szX [a] = .ok [a] := szX_b (show 1 ≤ 1000000 by decide)
theorem gcdI_sgd (a b : Int) : ((gcdL [a] b : Nat) : Int) = gcdI a b := by
  unfold gcdI gcdL
  simp [Nat.gcd_comm]
theorem ratio_ok {n : Nat} {a b : Int} [hb : Bd n b] (hn : n ≤ 8999) (h : b ≠ 0) : m_ratio (a, (b, ())) = .ok (lowq a b) := by
  unfold m_ratio
  rw [if_neg (by simpa using h)]
  dsimp only
  rw [← gcdI_sgd]
  have h1 := bd_sgd (l := [a]) h hb
  have h2 := sgd_ne (l := [a]) h
  unfold lowq
  unfold sgd at *
  by_cases q : b < 0
  · rw [if_pos (by simpa using q), bind_ok']
    rw [if_pos q] at *
    dsimp only
    rw [fdvX_bd hn h2, bind_ok', fdvX_bd hn h2, bind_ok']
  · rw [if_neg (by simpa using q), bind_ok']
    rw [if_neg q] at *
    dsimp only
    rw [fdvX_bd hn h2, bind_ok', fdvX_bd hn h2, bind_ok']
theorem lowq_pt (a b : Int) : pt [a] b = (tu [(lowq a b).1], (lowq a b).2) := rfl
theorem lowq_eq {a b a' b' : Int} (hb : b ≠ 0) (hb' : b' ≠ 0) (h : a * b' = a' * b) : lowq a b = lowq a' b' := by
  have := pt_eq (l := [a]) (l' := [a']) hb hb' (by simp [h])
  rw [lowq_pt, lowq_pt] at this
  have e1 := congrArg Prod.snd this
  have e2 : ([(lowq a b).1] : List Int) = [(lowq a' b').1] := congrArg Prod.fst this
  simp only [List.cons.injEq, and_true] at e2
  exact Prod.ext e2 e1
theorem lowq_pos {a b : Int} (hb : b ≠ 0) : 1 ≤ (lowq a b).2 := (pt_lp (l := [a]) hb).pos
theorem lowq_cross {a b : Int} (hb : b ≠ 0) : (lowq a b).1 * b = a * (lowq a b).2 := by
  have := pt_cross (l := [a]) hb
  rw [lowq_pt] at this
  have : ([(lowq a b).1 * b] : List Int) = [a * (lowq a b).2] := this
  simpa using this
instance bd_low1 {n : Nat} {a b : Int} [h : Bd n a] : Bd n (lowq a b).1 := ⟨Nat.lt_of_le_of_lt (fdiv_le _ _) h.lt⟩
instance bd_low2 {n : Nat} {a b : Int} [h : Bd n b] : Bd n (lowq a b).2 := ⟨Nat.lt_of_le_of_lt (fdiv_le _ _) h.lt⟩
/-! the same -/
theorem isi_ii (i : Int) : isiX (HasTy.ty i) "int" = .ok true := by
  show isiX "int" "int" = _
  unfold isiX
  rfl
theorem isi_ib (i : Int) : isiX (HasTy.ty i) "bool" = .ok false := by
  show isiX "int" "bool" = _
  unfold isiX
  rfl
theorem isi_bb (i : Bool) : isiX (HasTy.ty i) "bool" = .ok true := by
  show isiX "bool" "bool" = _
  unfold isiX
  rfl
theorem isi_tt {α : Type} [Rp α] (t : Tu α) : isiX (HasTy.ty t) "tuple" = .ok true := by
  show isiX "tuple" "tuple" = _
  unfold isiX
  rfl
theorem isi_pt {α β : Type} [Rp α] [Rp β] (p : α × β) : isiX (HasTy.ty p) "tuple" = .ok true := by
  show isiX "tuple" "tuple" = _
  unfold isiX
  rfl
theorem hlenU {α : Type} [Rp α] (t : Tu α) : HasLen.len t = (Tu.l t).length := rfl
theorem hlenL {α : Type} [Rp α] (t : List α) : HasLen.len t = t.length := rfl
theorem hlenP {α β : Type} [Rp α] [Rp β] (t : α × β) : HasLen.len t = 2 := rfl
end LW

/-! CO: points of numbers. -/
namespace LW
open PySem L2 FL
theorem lcmX_ok {i j : Int} (hi : i.natAbs < 2 ^ 64) (hj : j.natAbs < 2 ^ 64) : lcmX i j = .ok ((Nat.lcm i.natAbs j.natAbs : Nat) : Int) := by unfold lcmX; rw [if_pos ⟨hi, hj⟩]
theorem lcm_fold {χ : Type} {x : χ} {f : (χ × (Int × Unit)) → Int × Int → Xc (χ × (Int × Unit))} {D : Nat} (hD : D < 2 ^ 64) (h0 : 0 < D) : ∀ (l : List (Int × Int)) (n : Nat), n ∣ D → (∀ c a, a ∈ l → f (x, (c, ())) a = (lcmX c a.2).bind fun t => .ok (x, (t, ()))) → (∀ a ∈ l, a.2.natAbs ∣ D) →
    ∃ m : Nat, foldX f l (x, ((n : Int), ())) = .ok (x, ((m : Int), ())) ∧ m ∣ D ∧ n ∣ m ∧ ∀ a ∈ l, a.2.natAbs ∣ m
  | [], n, hn, _, _ => ⟨n, rfl, hn, Nat.dvd_refl _, fun a m => by cases m⟩
  | a :: l, n, hn, hf, hl => by
    have d := hl a (by simp)
    have e : lcmX (n : Int) a.2 = .ok ((Nat.lcm n a.2.natAbs : Nat) : Int) := lcmX_ok (by have := Nat.le_of_dvd h0 hn; omega) (by have := Nat.le_of_dvd h0 d; omega)
    obtain ⟨m, e1, e2, e3, e4⟩ := lcm_fold hD h0 l (Nat.lcm n a.2.natAbs) (Nat.lcm_dvd hn d) (fun c b m => hf c b (by simp [m])) fun b m => hl b (by simp [m])
    refine ⟨m, ?_, e2, Nat.dvd_trans (Nat.dvd_lcm_left _ _) e3, fun b mb => ?_⟩
    · show (f _ a).bind _ = _
      rw [hf _ _ (by simp), e, bind_ok', bind_ok']
      exact e1
    · rcases List.mem_cons.mp mb with q | q
      · subst q; exact Nat.dvd_trans (Nat.dvd_lcm_right _ _) e3
      · exact e4 b q
theorem point_of_ok {n : Nat} {l : List (Int × Int)} {D : Nat} (hD : D < 2 ^ 64) (h0 : 0 < D) (hd : ∀ a ∈ l, a.2.natAbs ∣ D ∧ 1 ≤ a.2) (hb : ∀ a ∈ l, Bd n a.1) (hn : n ≤ 900000) :
    ∃ m : Nat, 0 < m ∧ m ∣ D ∧ (∀ a ∈ l, a.2 ∣ (m : Int)) ∧ m_point_of (l, ()) = .ok (pt (l.map fun a => a.1 * ((m : Int).fdiv a.2)) (m : Int)) := by
  unfold m_point_of
  dsimp only
  obtain ⟨m, e1, e2, e3, e4⟩ := lcm_fold (x := l) (f := fun (g34 : ((List (Int × Int)) × (Int × Unit))) a35 => (Xc.bind (lcmX g34.2.1 a35.2) fun t36 => (Xc.ok (g34.1, (t36, ()))))) hD h0 l 1 (Nat.one_dvd _) (fun _ _ _ => rfl) fun a m => (hd a m).1
  have hm0 : 0 < m := Nat.pos_of_dvd_of_pos e2 h0
  have hm : m < 2 ^ 64 := by have := Nat.le_of_dvd h0 e2; omega
  have bm : Bd 64 (m : Int) := ⟨by rw [Int.natAbs_natCast]; exact hm⟩
  refine ⟨m, hm0, e2, fun a q => Int.ofNat_dvd_right.mpr (e4 a q), ?_⟩
  rw [show ((1 : Int)) = ((1 : Nat) : Int) from rfl, e1, bind_ok']
  dsimp only
  rw [comp_list (h := fun a => a.1 * ((m : Int).fdiv a.2)) (fun _ => rfl) (fun a q => by
    have ba : Bd 64 a.2 := ⟨by have := Nat.le_of_dvd h0 (hd a q).1; omega⟩
    have b1 := hb a q
    rw [fdvX_bd (n := 64) (by decide) (by have := (hd a q).2; omega), bind_ok']
    exact mulX_bd (n := 64) (by omega)), bind_ok', bind_ok', point_l (n := 64) (by decide) (by omega)]
end LW

/-! K2A: functions of points: their lowest terms. -/
namespace LW
open PySem L2 FL
/-- l, c over b: reduced -/
def sga (l : List Int) (c b : Int) : Int := sgd (l ++ [c]) b
def RA (xs : List Int) (k y : Int) : Ty_Affine := ⟨(tu xs, (k, (y, ((xs.length : Int), ()))))⟩
def AF (l : List Int) (c b : Int) : Ty_Affine := RA (l.map fun t => t.fdiv (sga l c b)) (c.fdiv (sga l c b)) (b.fdiv (sga l c b))
def LV (l : List Int) (c b : Int) : List Int := (l.map fun t => t.fdiv (sga l c b)) ++ [c.fdiv (sga l c b), b.fdiv (sga l c b)]
theorem pt_af (l : List Int) (c b : Int) : pt (l ++ [c]) b = (tu ((l.map fun t => t.fdiv (sga l c b)) ++ [c.fdiv (sga l c b)]), b.fdiv (sga l c b)) := by
  unfold pt sga
  rw [List.map_append]
  rfl
theorem af_of {l l' : List Int} {c b c' b' : Int} (h : pt (l ++ [c]) b = pt (l' ++ [c']) b') : AF l c b = AF l' c' b' ∧ LV l c b = LV l' c' b' := by
  rw [pt_af, pt_af] at h
  have h1 : (l.map fun t => t.fdiv (sga l c b)) ++ [c.fdiv (sga l c b)] = (l'.map fun t => t.fdiv (sga l' c' b')) ++ [c'.fdiv (sga l' c' b')] := congrArg Prod.fst h
  have h2 : b.fdiv (sga l c b) = b'.fdiv (sga l' c' b') := congrArg Prod.snd h
  obtain ⟨h3, h4⟩ := List.append_inj' h1 rfl
  have h4 : c.fdiv (sga l c b) = c'.fdiv (sga l' c' b') := by simpa using h4
  unfold AF LV
  rw [h2, h3, h4]
  exact ⟨rfl, rfl⟩
/-- lowest terms -/
structure NA (xs : List Int) (k y : Int) : Prop where
  pos : 1 ≤ y
  cop : gcdL (xs ++ [k]) y = 1
theorem af_red {xs : List Int} {k y : Int} (h : NA xs k y) : AF xs k y = RA xs k y ∧ LV xs k y = xs ++ [k, y] := by
  have p := pt_red (p := (tu (xs ++ [k]), y)) ⟨h.pos, h.cop⟩
  have p : pt (xs ++ [k]) y = (tu (xs ++ [k]), y) := p
  rw [pt_af] at p
  have h1 : (xs.map fun t => t.fdiv (sga xs k y)) ++ [k.fdiv (sga xs k y)] = xs ++ [k] := congrArg Prod.fst p
  have h2 : y.fdiv (sga xs k y) = y := congrArg Prod.snd p
  obtain ⟨h3, h4⟩ := List.append_inj' h1 rfl
  have h4 : k.fdiv (sga xs k y) = k := by simpa using h4
  unfold AF LV
  rw [h2, h3, h4]
  exact ⟨rfl, rfl⟩
/-- two ways to write one function -/
theorem af_eq {l l' : List Int} {c b c' b' : Int} (hb : b ≠ 0) (hb' : b' ≠ 0) (h : l.map (· * b') = l'.map (· * b)) (hc : c * b' = c' * b) : AF l c b = AF l' c' b' ∧ LV l c b = LV l' c' b' := by
  refine af_of (pt_eq hb hb' ?_)
  rw [List.map_append, List.map_append, h]
  show _ ++ [c * b'] = _ ++ [c' * b]
  rw [hc]
theorem af_na (l : List Int) (c : Int) {b : Int} (hb : b ≠ 0) : ∃ xs k y, AF l c b = RA xs k y ∧ LV l c b = xs ++ [k, y] ∧ NA xs k y ∧ xs.length = l.length ∧ xs.map (· * b) = l.map (· * y) ∧ k * b = c * y ∧ y.natAbs ≤ b.natAbs ∧ (∀ n, BdL n l → BdL n xs) ∧ ∀ n, Bd n c → Bd n k := by
  have lp := pt_lp (l := l ++ [c]) hb
  have cr := pt_cross (l := l ++ [c]) hb
  rw [pt_af] at lp cr
  refine ⟨_, _, _, rfl, rfl, ⟨lp.pos, lp.cop⟩, List.length_map .., ?_, ?_, fdiv_le _ _, fun n h => ⟨fun a m => ?_⟩, fun n h => ⟨Nat.lt_of_le_of_lt (fdiv_le _ _) h.lt⟩⟩
  · have cr : ((l.map fun t => t.fdiv (sga l c b)) ++ [c.fdiv (sga l c b)]).map (· * b) = (l ++ [c]).map (· * b.fdiv (sga l c b)) := cr
    rw [List.map_append, List.map_append] at cr
    exact (List.append_inj' cr rfl).1
  · have cr : ((l.map fun t => t.fdiv (sga l c b)) ++ [c.fdiv (sga l c b)]).map (· * b) = (l ++ [c]).map (· * b.fdiv (sga l c b)) := cr
    rw [List.map_append, List.map_append] at cr
    have := (List.append_inj' cr rfl).2
    simpa using this
  · obtain ⟨t, mt, rfl⟩ := List.mem_map.mp m
    exact ⟨Nat.lt_of_le_of_lt (fdiv_le _ _) (h.all t mt).lt⟩
/-! gcds -/
theorem gcdL_snoc (l : List Int) (c b : Int) : gcdL l (gcdI c b) = gcdL (l ++ [c]) b := by
  refine gcdL_eq_of fun d => ?_
  unfold gcdI
  rw [Int.natAbs_natCast, Nat.dvd_gcd_iff]
  constructor
  · rintro ⟨⟨h1, h2⟩, h3⟩
    exact ⟨h2, fun a m => (List.mem_append.mp m).elim (h3 a) fun m => by rw [List.mem_singleton.mp m]; exact h1⟩
  · rintro ⟨h1, h2⟩
    exact ⟨⟨h2 c (by simp), h1⟩, fun a m => h2 a (List.mem_append_left _ m)⟩
theorem gcdL_two (l : List Int) (c b : Int) : gcdL (l ++ [c, b]) 0 = gcdL (l ++ [c]) b := by
  refine gcdL_eq_of fun d => ?_
  constructor
  · rintro ⟨_, h⟩
    exact ⟨h b (by simp), fun a m => h a (by
      rcases List.mem_append.mp m with m | m
      · exact List.mem_append_left _ m
      · exact List.mem_append_right _ (by rw [List.mem_singleton.mp m]; simp))⟩
  · rintro ⟨h1, h2⟩
    refine ⟨by show d ∣ 0; exact Nat.dvd_zero d, fun a m => ?_⟩
    rcases List.mem_append.mp m with m | m
    · exact h2 a (List.mem_append_left _ m)
    · simp only [List.mem_cons, List.not_mem_nil, or_false] at m
      rcases m with e | e
      · rw [e]; exact h2 c (by simp)
      · rw [e]; exact h1
theorem init_tail {τ : Type} {n : Nat} {l : List Int} {c b : Int} {x : τ} (hn : n ≤ 8999) (h : b ≠ 0) (hb : Bd n b) {k : (Unit × (τ × (Int × (Int × (Int × Unit))))) → Xc ((Tu Int) × Int × Int × Int × Unit)}
    (hk : ∀ g : Int, Bd n g → g ≠ 0 → k ((), (x, (c, (b, (g, ()))))) = .ok (tu (l.map fun t => t.fdiv g), (c.fdiv g, (b.fdiv g, ((l.length : Int), ()))))) :
    (Xc.bind (if (decide (b < (0 : Int))) = true then (Xc.ok ((), (x, (c, (b, ((-((gcdL l (gcdI c b) : Nat) : Int)), ())))))) else (Xc.ok ((), (x, (c, (b, (((gcdL l (gcdI c b) : Nat) : Int), ()))))))) k) = .ok (AF l c b).v := by
  have h1 := bd_sgd (l := l ++ [c]) h hb
  have h2 := sgd_ne (l := l ++ [c]) h
  have h3 := hk _ h1 h2
  have e : (AF l c b).v = (tu (l.map fun t => t.fdiv (sgd (l ++ [c]) b)), (c.fdiv (sgd (l ++ [c]) b), (b.fdiv (sgd (l ++ [c]) b), ((l.length : Int), ())))) := by
    unfold AF RA sga
    rw [List.length_map]
  rw [e, gcdL_snoc]
  unfold sgd at *
  by_cases q : b < 0
  · rw [if_pos (by simpa using q), bind_ok']
    rw [if_pos q] at *
    exact h3
  · rw [if_neg (by simpa using q), bind_ok']
    rw [if_neg q] at *
    exact h3
theorem init_l {n : Nat} {l : List Int} {c b : Int} [hb : Bd n b] (hn : n ≤ 8999) (h : b ≠ 0) : m_Affine___init___l (l, (c, (b, ()))) = .ok (AF l c b).v := by
  unfold m_Affine___init___l
  rw [if_neg (by simpa using h), bind_ok']
  dsimp only
  rw [common_l, bind_ok']
  refine init_tail (x := l) hn h hb fun g hg h0 => ?_
  dsimp only
  rw [comp_fdiv hn hg h0 l (fun _ => rfl) (fun _ => rfl), bind_ok', bind_ok', fdvX_bd hn h0, bind_ok', fdvX_bd hn h0, bind_ok']
  show Xc.ok (_, (_, (_, (((l.map _).length : Int), ())))) = _
  rw [List.length_map]
theorem init_u {n : Nat} {l : Tu Int} {c b : Int} [hb : Bd n b] (hn : n ≤ 8999) (h : b ≠ 0) : m_Affine___init___u (l, (c, (b, ()))) = .ok (AF (Tu.l l) c b).v := by
  unfold m_Affine___init___u
  rw [if_neg (by simpa using h), bind_ok']
  dsimp only
  rw [common_u, bind_ok']
  refine init_tail (x := l) hn h hb fun g hg h0 => ?_
  dsimp only
  rw [comp_fdiv hn hg h0 (Tu.l l) (fun _ => rfl) (fun _ => rfl), bind_ok', bind_ok', fdvX_bd hn h0, bind_ok', fdvX_bd hn h0, bind_ok']
  show Xc.ok (_, (_, (_, ((((Tu.l l).map _).length : Int), ())))) = _
  rw [List.length_map]
/-! the law's -/
theorem getX_last2 {α : Type} {l : List α} {a b : α} : getX (l ++ [a, b]) (-1) = .ok b := by
  rw [show l ++ [a, b] = (l ++ [a]) ++ [b] from by rw [List.append_assoc]; rfl]
  exact getX_last
theorem is_int_ok (i : Int) : m__law_is_integer (i, ()) = .ok true := by
  unfold m__law_is_integer
  simp only [isi_ii, isi_ib, bind_ok', Bool.not_false, if_true]
end LW

/-! K2B: sums of products; the methods. -/
namespace LW
open PySem L2 FL
def dotp : List (Int × Int) → Int
  | [] => 0
  | a :: l => a.1 * a.2 + dotp l
theorem dotp_app : ∀ l m : List (Int × Int), dotp (l ++ m) = dotp l + dotp m
  | [], m => by simp [dotp]
  | a :: l, m => by
    show a.1 * a.2 + dotp (l ++ m) = a.1 * a.2 + dotp l + dotp m
    rw [dotp_app l m]
    omega
theorem dotp_cross {b w : Int} : ∀ {xs ts tops : List Int}, ts.map (· * b) = tops.map (· * w) → dotp (xs.zip ts) * b = dotp (xs.zip tops) * w
  | [], ts, tops, _ => by simp [dotp]
  | x :: xs, [], [], _ => by simp [dotp]
  | x :: xs, [], _ :: _, h => by simp at h
  | x :: xs, _ :: _, [], h => by simp at h
  | x :: xs, t :: ts, u :: us, h => by
    simp only [List.map_cons, List.cons.injEq] at h
    have ih := dotp_cross (xs := xs) h.2
    have h1 := h.1
    show (x * t + dotp (xs.zip ts)) * b = (x * u + dotp (xs.zip us)) * w
    grind
theorem bd_dotp {n m : Nat} : ∀ {xs ts : List Int}, BdL n xs → BdL m ts → Bd (n + m + xs.length) (dotp (xs.zip ts))
  | [], ts, _, _ => ⟨by show 0 < _; exact Nat.two_pow_pos _⟩
  | x :: xs, [], _, _ => ⟨by show 0 < _; exact Nat.two_pow_pos _⟩
  | x :: xs, t :: ts, h1, h2 => by
    have ih := bd_dotp (xs := xs) (ts := ts) ⟨fun a q => h1.all a (by simp [q])⟩ ⟨fun a q => h2.all a (by simp [q])⟩
    have a := h1.all x (by simp)
    have b := h2.all t (by simp)
    have : Bd (max (n + m) (n + m + xs.length) + 1) (x * t + dotp (xs.zip ts)) := bd_add
    rw [List.length_cons]
    exact this.mono (by omega)
theorem fold_dot {γ : Type} {f : γ → Int × Int → Xc γ} (E : Int → γ) : ∀ {l : List (Int × Int)} {t : Int}, (∀ t a, a ∈ l → f (E t) a = .ok (E (t + a.1 * a.2))) → foldX f l (E t) = .ok (E (t + dotp l))
  | [], t, _ => by show Xc.ok (E t) = _; rw [show dotp [] = 0 from rfl, Int.add_zero]
  | a :: l, t, h => by
    show (f (E t) a).bind _ = _
    rw [h t a (by simp), bind_ok']
    have := fold_dot (f := f) E (l := l) (t := t + a.1 * a.2) fun t b m => h t b (by simp [m])
    rw [show t + dotp (a :: l) = t + a.1 * a.2 + dotp l from by show t + (a.1 * a.2 + dotp l) = _; omega]
    exact this
theorem fold_dotR {γ : Type} {f : γ → Int → Xc γ} (E : Int → γ) {v w : List Int} {n : Int} {t : Int} (h0 : 0 ≤ n) (hv : n ≤ v.length) (hw : n ≤ w.length) (h : ∀ t (k : Int) x y, x ∈ v → y ∈ w → getX v k = .ok x → getX w k = .ok y → f (E t) k = .ok (E (t + x * y))) :
    foldX f (rangeL 0 n) (E t) = .ok (E (t + dotp ((v.take n.toNat).zip (w.take n.toNat)))) := by
  obtain ⟨g, e, p⟩ := foldX_ix (f := f) (l := rangeL 0 n) (g := E t) (P := fun i g => g = E (t + dotp ((v.take i).zip (w.take i)))) (by show E t = E (t + dotp []); rw [show dotp [] = 0 from rfl, Int.add_zero]) fun i g a ha hp => by
    obtain ⟨e, hi⟩ := rangeL_get ha
    have hi1 : i < v.length := by omega
    have hi2 : i < w.length := by omega
    have e : a = (i : Int) := by omega
    subst e
    refine ⟨_, by rw [hp]; exact h _ _ v[i] w[i] (List.getElem_mem hi1) (List.getElem_mem hi2) (getX_nat (List.getElem?_eq_getElem hi1)) (getX_nat (List.getElem?_eq_getElem hi2)), ?_⟩
    rw [List.take_succ_eq_append_getElem hi1, List.take_succ_eq_append_getElem hi2, List.zip_append (by rw [List.length_take, List.length_take]; omega), dotp_app]
    congr 1
    show _ = _ + (_ + (v[i] * w[i] + 0))
    omega
  rw [e, p, rangeL_len]
  rw [show (n - 0).toNat = n.toNat by omega]
section
variable {xs : List Int} {k y : Int} [bx : BdL 200 xs] [bk : Bd 200 k] [by_ : Bd 10 y]
theorem neg_ok (h : NA xs k y) : m_Affine___neg__ (RA xs k y, ()) = .ok (RA (xs.map fun t => -t) (-k) y) := by
  unfold m_Affine___neg__
  show (((compX (fun _ => Xc.ok true) (fun a => Xc.ok (-a)) xs).bind fun t => Xc.ok (t, (-k, (y, ())))).bind _) = _
  have hp := h.pos
  rw [comp_list (h := fun t => -t) (fun _ => rfl) (fun x m => rfl), bind_ok', bind_ok', init_l (n := 10) (by decide) (by omega), bind_ok']
  congr 1
  refine (af_red ⟨hp, ?_⟩).1
  rw [← h.cop]
  refine gcdL_eq_of fun d => ?_
  constructor
  · rintro ⟨h1, h2⟩
    refine ⟨h1, fun a m => ?_⟩
    rcases List.mem_append.mp m with m | m
    · have := h2 (-a) (List.mem_append_left _ (List.mem_map.mpr ⟨a, m, rfl⟩)); rwa [Int.natAbs_neg] at this
    · rw [List.mem_singleton.mp m]; have := h2 (-k) (by simp); rwa [Int.natAbs_neg] at this
  · rintro ⟨h1, h2⟩
    refine ⟨h1, fun a m => ?_⟩
    rcases List.mem_append.mp m with m | m
    · obtain ⟨b, mb, rfl⟩ := List.mem_map.mp m; rw [Int.natAbs_neg]; exact h2 b (List.mem_append_left _ mb)
    · rw [List.mem_singleton.mp m, Int.natAbs_neg]; exact h2 k (by simp)
theorem scaled_ok {n0 n1 : Int} [b0 : Bd 10 n0] [b1 : Bd 10 n1] (hy : n1 * y ≠ 0) : m_Affine_scaled (RA xs k y, ((n0, n1), ())) = .ok (AF (xs.map (n0 * ·)) (n0 * k) (n1 * y)) := by
  unfold m_Affine_scaled
  show ((compX (fun _ => Xc.ok true) (fun a => mulX n0 a) xs).bind fun t146 => (((mulX n0 k).bind fun t148 => ((mulX n1 y).bind fun t => Xc.ok (t, ())).bind fun t149 => Xc.ok (t148, t149)).bind fun t150 => Xc.ok (t146, t150)).bind fun t151 => (m_Affine___init___l t151).bind fun r => Xc.ok (⟨r⟩ : Ty_Affine)) = _
  rw [comp_list (h := (n0 * ·)) (fun _ => rfl) (fun x m => by
    have := bx.all x m
    exact mulX_bd (by decide)), bind_ok', mulX_bd (by decide), bind_ok', mulX_bd (by decide)]
  simp only [bind_ok']
  rw [init_l (n := 20) (by decide) hy, bind_ok']
theorem head_ok {c : Int} (hc : 0 ≤ c) (hy : y ≠ 0) : m_Affine_head (RA xs k y, (c, ())) = .ok (AF (xs.take c.toNat) k y) := by
  unfold m_Affine_head
  show ((m_Affine___init___u (tu (cutL xs none (some c)), (k, (y, ())))).bind _) = _
  rw [cutL_take _ hc, init_u (n := 10) (by decide) hy, bind_ok']
  rfl
theorem rep0 {n : Int} (h0 : 0 ≤ n) (h1 : n ≤ 1000) : ((szX ((0 : Int) :: ([] : List Int))).bind fun t => repX t n) = .ok (List.replicate n.toNat 0) := by
  have := size_ge
  rw [szX_1, bind_ok']
  unfold repX
  rw [if_pos ⟨by omega, by omega, by rw [List.length_cons, List.length_nil]; omega⟩]
  congr 1
  unfold repL
  generalize n.toNat = m
  induction m with
  | zero => rfl
  | succ m ih => rw [List.replicate_succ, List.flatten_cons, ih, List.replicate_succ]; rfl
end
end LW

/-! K2C: sums; the ways to make. -/
namespace LW
open PySem L2 FL
theorem getX_m2 {α : Type} {l : List α} {a b : α} : getX (l ++ [a, b]) (-2) = .ok a := by
  unfold getX atI
  have : ixN (l ++ [a, b]).length (-2) = some l.length := by
    unfold ixN
    simp
    omega
  rw [this]
  simp
theorem zip_cross2 {xs us : List Int} {f g : Int → Int → Int} (c d : Int) (h : ∀ x u, f x u * c = g x u * d) : (List.zipWith f xs us).map (· * c) = (List.zipWith g xs us).map (· * d) := by
  rw [List.map_zipWith, List.map_zipWith]
  congr 1
  funext x u
  exact h x u
section
variable {xs us : List Int} {k y m z : Int} [bx : BdL 200 xs] [bk : Bd 200 k] [by_ : Bd 10 y] [bu : BdL 200 us] [bm : Bd 200 m] [bz : Bd 10 z]
theorem lcm_mul (hy : 1 ≤ y) (hz : 1 ≤ z) : ∃ L p q : Int, lcmX y z = .ok L ∧ L ≠ 0 ∧ Bd 20 L ∧ fdvX L y = .ok p ∧ fdvX L z = .ok q ∧ p * y = L ∧ q * z = L ∧ Bd 20 p ∧ Bd 20 q := by
  have h1 : y.natAbs < 2 ^ 64 := Nat.lt_of_lt_of_le by_.lt (by decide)
  have h2 : z.natAbs < 2 ^ 64 := Nat.lt_of_lt_of_le bz.lt (by decide)
  have hL : ((Nat.lcm y.natAbs z.natAbs : Nat) : Int) ≠ 0 := by
    have := Nat.lcm_pos (m := y.natAbs) (n := z.natAbs) (by omega) (by omega)
    omega
  have bL : Bd 20 ((Nat.lcm y.natAbs z.natAbs : Nat) : Int) := ⟨by
    rw [Int.natAbs_natCast]
    have e : Nat.lcm y.natAbs z.natAbs ≤ y.natAbs * z.natAbs := Nat.le_of_dvd (Nat.mul_pos (by omega) (by omega)) (Nat.lcm_dvd (Nat.dvd_mul_right _ _) (Nat.dvd_mul_left _ _))
    exact Nat.lt_of_le_of_lt e (by rw [show (2 : Nat) ^ 20 = 2 ^ 10 * 2 ^ 10 from rfl]; exact Nat.mul_lt_mul'' by_.lt bz.lt)⟩
  obtain ⟨p, hp⟩ : y ∣ ((Nat.lcm y.natAbs z.natAbs : Nat) : Int) := Int.ofNat_dvd_right.mpr (Nat.dvd_lcm_left _ _)
  obtain ⟨q, hq⟩ : z ∣ ((Nat.lcm y.natAbs z.natAbs : Nat) : Int) := Int.ofNat_dvd_right.mpr (Nat.dvd_lcm_right _ _)
  have e1 : ((Nat.lcm y.natAbs z.natAbs : Nat) : Int).fdiv y = p := by rw [hp, Int.mul_fdiv_cancel_left _ (by omega)]
  have e2 : ((Nat.lcm y.natAbs z.natAbs : Nat) : Int).fdiv z = q := by rw [hq, Int.mul_fdiv_cancel_left _ (by omega)]
  have bp : Bd 20 (((Nat.lcm y.natAbs z.natAbs : Nat) : Int).fdiv y) := bd_fdiv
  have bq : Bd 20 (((Nat.lcm y.natAbs z.natAbs : Nat) : Int).fdiv z) := bd_fdiv
  refine ⟨_, p, q, lcmX_ok h1 h2, hL, bL, ?_, ?_, ?_, ?_, by rw [← e1]; exact bp, by rw [← e2]; exact bq⟩
  · rw [fdvX_bd (n := 10) (by decide) (by omega), e1]
  · rw [fdvX_bd (n := 10) (by decide) (by omega), e2]
  · rw [hp, Int.mul_comm]
  · rw [hq, Int.mul_comm]
theorem sub_ok (hy : 1 ≤ y) (hz : 1 ≤ z) : m_Affine___sub__ (RA xs k y, (RA us m z, ())) = .ok (AF (List.zipWith (fun x u => x * z + (-1) * u * y) xs us) (k * z + (-1) * m * y) (y * z)) := by
  obtain ⟨L, p, q, e1, hL, bL, e2, e3, e4, e5, bp, bq⟩ := lcm_mul hy hz
  have hyz : y * z ≠ 0 := Int.mul_ne_zero (by omega) (by omega)
  unfold m_Affine___sub__
  rw [if_neg (by decide)]
  show ((lcmX y z).bind _) = _
  rw [e1, bind_ok']
  show ((fdvX L y).bind _) = _
  rw [e2, bind_ok']
  show ((fdvX L z).bind _) = _
  rw [e3, bind_ok']
  have ec : compX (fun _ => Xc.ok true) (fun a99 => (Xc.bind (mulX p a99.1) fun t100 => (Xc.bind (mulX q a99.2) fun t101 => (Xc.ok (t100 - t101))))) (List.zip xs us) = .ok ((List.zip xs us).map fun a => p * a.1 - q * a.2) := comp_list (fun _ => rfl) fun a h => by
    have b1 := bx.all _ (List.of_mem_zip h).1
    have b2 := bu.all _ (List.of_mem_zip h).2
    rw [mulX_bd (by decide), bind_ok', mulX_bd (by decide), bind_ok']
  show ((compX (fun _ => Xc.ok true) _ (List.zip xs us)).bind _) = _
  rw [ec, bind_ok', zip_map]
  show (((((mulX p k).bind fun t103 => (mulX q m).bind fun t104 => Xc.ok (t103 - t104)).bind _).bind _).bind _) = _
  rw [mulX_bd (by decide), bind_ok', mulX_bd (by decide), bind_ok', bind_ok', bind_ok', bind_ok', init_l (n := 20) (by decide) hL, bind_ok']
  congr 1
  refine (af_eq hL hyz (zip_cross2 _ _ fun x u => ?_) ?_).1 <;> grind
end
/-- [1 at j] over 1 -/
theorem na_one {xs : List Int} {k : Int} : NA xs k 1 := ⟨by decide, by
  have := gcdL_s (xs ++ [k]) 1
  exact Nat.dvd_one.mp this⟩
theorem variable_ok {n j : Int} (h0 : 0 ≤ n) (h1 : n ≤ 1000) : ∃ l : List Int, compX (fun _ => Xc.ok true) (fun a => Xc.ok (if (decide (a = j)) = true then (1 : Int) else 0)) (rangeL 0 n) = .ok l ∧ l.length = n.toNat ∧ m_Affine_variable (n, (j, ())) = .ok (RA l 0 1) := by
  refine ⟨(rangeL 0 n).map fun a => if (decide (a = j)) = true then (1 : Int) else 0, comp_list (fun _ => rfl) fun a m => rfl, by rw [List.length_map, rangeL_len]; congr 1; omega, ?_⟩
  have o10 : Bd 10 1 := ⟨by decide⟩
  unfold m_Affine_variable
  dsimp only
  rw [rngX_b (by decide) (by omega) (by decide) (by omega), bind_ok', comp_list (h := fun a => if (decide (a = j)) = true then (1 : Int) else 0) (fun _ => rfl) (fun a m => rfl), bind_ok', bind_ok']
  dsimp only
  rw [init_l (n := 10) (by decide) (by decide), bind_ok']
  congr 1
  exact (af_red na_one).1
end LW

/-! K2D: the law on functions made. -/
namespace LW
open PySem L2 FL
theorem na_zeros {xs : List Int} {k y : Int} (a b : Nat) (h : NA xs k y) : NA (List.replicate a 0 ++ xs ++ List.replicate b 0) k y := by
  refine ⟨h.pos, ?_⟩
  rw [← h.cop]
  refine gcdL_eq_of fun d => ?_
  constructor
  · rintro ⟨h1, h2⟩
    refine ⟨h1, fun x m => h2 x ?_⟩
    rcases List.mem_append.mp m with m | m
    · exact List.mem_append_left _ (List.mem_append_left _ (List.mem_append_right _ m))
    · exact List.mem_append_right _ m
  · rintro ⟨h1, h2⟩
    refine ⟨h1, fun x m => ?_⟩
    have z : ∀ n : Nat, x ∈ List.replicate n (0 : Int) → d ∣ x.natAbs := fun n q => by rw [(List.mem_replicate.mp q).2]; exact Nat.dvd_zero d
    rcases List.mem_append.mp m with m | m
    · rcases List.mem_append.mp m with m | m
      · rcases List.mem_append.mp m with m | m
        · exact z _ m
        · exact h2 x (List.mem_append_left _ m)
      · exact z _ m
    · exact h2 x (List.mem_append_right _ m)
theorem na_lowq {x b : Int} (hb : b ≠ 0) : NA [] (lowq x b).1 (lowq x b).2 := by
  have lp := pt_lp (l := [x]) hb
  rw [lowq_pt] at lp
  exact ⟨lp.pos, lp.cop⟩
theorem na_level {n0 n1 : Int} (n : Nat) (h : NA [] n0 n1) : NA (List.replicate n 0) n0 n1 := by
  have := na_zeros n 0 h
  rwa [List.append_nil, List.replicate_zero, List.append_nil] at this
theorem placed_ok {xs : List Int} {k y t s : Int} [b1 : Bd 10 y] (h0 : 0 ≤ s) (h1 : s ≤ 500) (h2 : 0 ≤ t - s - xs.length) (h3 : t ≤ 500) (h : NA xs k y) : m_Affine_placed (RA xs k y, (t, (s, ()))) = .ok (RA (List.replicate s.toNat 0 ++ xs ++ List.replicate (t - s - xs.length).toNat 0) k y) := by
  have hp := h.pos
  unfold m_Affine_placed
  show ((((((szX ((0 : Int) :: ([] : List Int))).bind fun t153 => repX t153 s).bind fun t154 => catL t154 xs).bind fun t156 => (((szX ((0 : Int) :: ([] : List Int))).bind fun t155 => repX t155 (t - s - ((xs.length : Nat) : Int))).bind fun t157 => catL t156 t157)).bind _) = _)
  rw [rep0 h0 (by omega), bind_ok', catL_ok (by rw [List.length_replicate]; omega), bind_ok', rep0 h2 (by omega), bind_ok', catL_ok (by rw [List.length_append, List.length_replicate, List.length_replicate]; omega), bind_ok']
  show ((m_Affine___init___l (_, (k, (y, ())))).bind _) = _
  rw [init_l (n := 10) (by decide) (by omega), bind_ok']
  congr 1
  exact (af_red (na_zeros _ _ h)).1
/-- from numbers -/
theorem from_ok {L : List (Int × Int)} {n0 n1 : Int} (hL : ∀ a ∈ L, a.2.natAbs ∣ 2520 ∧ 1 ≤ a.2 ∧ Bd 10 a.1) (h1 : n1.natAbs ∣ 2520) (h2 : 1 ≤ n1) (b0 : Bd 10 n0) (hl : L.length ≤ 100) {P : Int} (hP : P ≠ 0) (hd : ∀ a ∈ L, a.2 ∣ P) (hn : n1 ∣ P) :
    m_Affine_from_numbers (L, ((n0, n1), ())) = .ok (AF (L.map fun a => a.1 * P.fdiv a.2) (n0 * P.fdiv n1) P) := by
  obtain ⟨m, m0, mD, md, e⟩ := point_of_ok (n := 10) (l := L ++ [(n0, n1)]) (D := 2520) (by decide) (by decide) (fun a q => by
    rcases List.mem_append.mp q with q | q
    · exact ⟨(hL a q).1, (hL a q).2.1⟩
    · rw [List.mem_singleton.mp q]; exact ⟨h1, h2⟩) (fun a q => by
    rcases List.mem_append.mp q with q | q
    · exact (hL a q).2.2
    · rw [List.mem_singleton.mp q]; exact b0) (by decide)
  have hm0 : (m : Int) ≠ 0 := by omega
  have bm : Bd 12 (m : Int) := ⟨by rw [Int.natAbs_natCast]; have := Nat.le_of_dvd (by decide) mD; show m < 4096; omega⟩
  rw [List.map_append] at e
  have e : m_point_of (L ++ [(n0, n1)], ()) = .ok (pt ((L.map fun a => a.1 * (m : Int).fdiv a.2) ++ [n0 * (m : Int).fdiv n1]) (m : Int)) := e
  obtain ⟨xs, k, y, f1, _, na, lx, _, _, ly, _, _⟩ := af_na (L.map fun a => a.1 * (m : Int).fdiv a.2) (n0 * (m : Int).fdiv n1) hm0
  have by_ : Bd 12 y := ⟨Nat.lt_of_le_of_lt ly bm.lt⟩
  have hp := na.pos
  have ept : pt ((L.map fun a => a.1 * (m : Int).fdiv a.2) ++ [n0 * (m : Int).fdiv n1]) (m : Int) = (tu (xs ++ [k]), y) := by
    rw [pt_af]
    have f1 : RA _ _ _ = RA xs k y := f1
    have g1 := congrArg (fun z : Ty_Affine => z.v.1) f1
    have g2 := congrArg (fun z : Ty_Affine => z.v.2.1) f1
    have g3 := congrArg (fun z : Ty_Affine => z.v.2.2.1) f1
    have g1 : (L.map fun a => a.1 * (m : Int).fdiv a.2).map (fun t => t.fdiv (sga (L.map fun a => a.1 * (m : Int).fdiv a.2) (n0 * (m : Int).fdiv n1) (m : Int))) = xs := g1
    have g2 : (n0 * (m : Int).fdiv n1).fdiv (sga (L.map fun a => a.1 * (m : Int).fdiv a.2) (n0 * (m : Int).fdiv n1) (m : Int)) = k := g2
    have g3 : (m : Int).fdiv (sga (L.map fun a => a.1 * (m : Int).fdiv a.2) (n0 * (m : Int).fdiv n1) (m : Int)) = y := g3
    rw [g1, g2, g3]
  rw [ept] at e
  unfold m_Affine_from_numbers
  dsimp only
  rw [szX_b (show [(n0, n1)].length ≤ 1000000 by simp), bind_ok', catL_ok (by rw [List.length_cons, List.length_nil]; omega), bind_ok', bind_ok', e, bind_ok']
  dsimp only
  show ((((getX (xs ++ [k]) (-1)).bind _).bind _).bind _) = _
  rw [getX_last, bind_ok', bind_ok', bind_ok']
  show ((m_Affine___init___u (tu (cutL (xs ++ [k]) none (some (-1))), (k, (y, ())))).bind _) = _
  rw [cutL_init, List.dropLast_concat, init_u (n := 12) (by decide) (by omega), bind_ok']
  congr 1
  show AF xs k y = _
  rw [(af_red na).1, ← f1]
  refine (af_eq hm0 hP ?_ ?_).1
  · rw [List.map_map, List.map_map]
    refine List.map_congr_left fun a q => ?_
    obtain ⟨u, hu⟩ := md a (List.mem_append_left _ q)
    obtain ⟨v, hv⟩ := hd a q
    have a2 := (hL a q).2.1
    have e1 : (m : Int).fdiv a.2 = u := by rw [hu, Int.mul_fdiv_cancel_left _ (by omega)]
    have e2 : P.fdiv a.2 = v := by rw [hv, Int.mul_fdiv_cancel_left _ (by omega)]
    show a.1 * (m : Int).fdiv a.2 * P = a.1 * P.fdiv a.2 * (m : Int)
    rw [e1, e2, hu, hv]
    grind
  · obtain ⟨u, hu⟩ := md (n0, n1) (by simp)
    obtain ⟨v, hv⟩ := hn
    have hu : (m : Int) = n1 * u := hu
    have e1 : (m : Int).fdiv n1 = u := by rw [hu, Int.mul_fdiv_cancel_left _ (by omega)]
    have e2 : P.fdiv n1 = v := by rw [hv, Int.mul_fdiv_cancel_left _ (by omega)]
    rw [e1, e2, hu, hv]
    grind
end LW

/-! P21A: lowest terms, the same. -/
namespace LW
open PySem L2 FL
theorem lowest_ok {n : Nat} {l : List Int} {c b : Int} [hl : BdL n l] [hc : Bd n c] [hb : Bd n b] (hn : n ≤ 8999) (h : 1 ≤ b) : m__law_lowest (l ++ [c, b], ()) = .ok (LV l c b) := by
  have B : BdL n (l ++ [c, b]) := bdl_app hl ⟨fun a m => by
    simp only [List.mem_cons, List.not_mem_nil, or_false] at m
    rcases m with e | e <;> rw [e]
    · exact hc
    · exact hb⟩
  unfold m__law_lowest
  dsimp only
  have fold : ∀ (l' : List Int) (g : Nat) (x : List Int), (∀ a ∈ l', Bd n a) → foldX (fun (g476 : ((List Int) × (Int × Unit))) a477 => (Xc.bind (m__law_gcd (g476.2.1, (a477, ()))) fun t478 => (Xc.ok (g476.1, (t478, ()))))) l' (x, ((g : Int), ())) = .ok (x, (((l'.foldl (fun g a => Nat.gcd g a.natAbs) g : Nat) : Int), ())) := by
    intro l'
    induction l' with
    | nil => intro g x _; rfl
    | cons a l' ih =>
      intro g x hm
      have ba := hm a (by simp)
      show (Xc.bind _ _).bind _ = _
      dsimp only
      rw [gcd_ok (ba.mono (show n ≤ 9000 by omega)).lt, bind_ok', bind_ok', gcdI_nat]
      exact ih _ _ fun b m => hm b (by simp [m])
  have f0 : foldX (fun (g476 : ((List Int) × (Int × Unit))) a477 => (Xc.bind (m__law_gcd (g476.2.1, (a477, ()))) fun t478 => (Xc.ok (g476.1, (t478, ()))))) (l ++ [c, b]) (l ++ [c, b], ((0 : Int), ())) = .ok (l ++ [c, b], (((gcdL (l ++ [c, b]) 0 : Nat) : Int), ())) := fold _ 0 _ B.all
  rw [f0, bind_ok']
  dsimp only
  have h0 : b ≠ 0 := by omega
  rw [gcdL_two]
  have h1 : Bd n (sga l c b) := bd_sgd (l := l ++ [c]) h0 hb
  have h2 : sga l c b ≠ 0 := sgd_ne (l := l ++ [c]) h0
  have fin : compX (fun _ => Xc.ok true) (fun a => fdvX a (sga l c b)) (l ++ [c, b]) = .ok (LV l c b) := by
    rw [comp_fdiv hn h1 h2 _ (fun _ => rfl) (fun _ => rfl), List.map_append]
    rfl
  have e : sga l c b = ((gcdL (l ++ [c]) b : Nat) : Int) := by
    unfold sga sgd
    rw [if_neg (by omega)]
  rw [e] at fin h2
  rw [if_neg (by simpa using h2)]
  exact fin
theorem comp_fm {α β : Type} {t : α → Xc Bool} {f : α → Xc β} (p : α → Bool) (h : α → β) : ∀ {l : List α}, (∀ a ∈ l, t a = .ok (p a)) → (∀ a ∈ l, p a = true → f a = .ok (h a)) → compX t f l = .ok ((l.filter p).map h)
  | [], _, _ => rfl
  | a :: l, h1, h2 => by
    have ih := comp_fm p h (l := l) (fun b m => h1 b (by simp [m])) fun b m => h2 b (by simp [m])
    unfold compX
    rw [h1 a (by simp)]
    show (if p a = true then _ else _) = _
    cases hp : p a with
    | true => rw [if_pos rfl, h2 a (by simp) hp, ih, List.filter_cons_of_pos hp]; rfl
    | false => rw [if_neg (by decide), ih, List.filter_cons_of_neg (by rw [hp]; decide)]
theorem comp_none {α β : Type} {t : α → Xc Bool} {f : α → Xc β} : ∀ {l : List α}, (∀ a ∈ l, t a = .ok false) → compX t f l = .ok []
  | [], _ => rfl
  | a :: l, h => by
    unfold compX
    rw [h a (by simp)]
    exact comp_none fun b m => h b (by simp [m])
/-- what the law says is the same -/
theorem same_na {n : Nat} {l xs : List Int} {c b k y : Int} [hl : BdL n l] [hc : Bd n c] [hb : Bd n b] (hn : n ≤ 8999) (h : 1 ≤ b) (e : LV l c b = xs ++ [k, y]) (hx : xs.length ≤ 1000) : m__law_same (RA xs k y, (l ++ [c, b], ())) = .ok true := by
  unfold m__law_same
  have e1 : szX (k :: (y :: ([] : List Int))) = .ok [k, y] := szX_b (show 2 ≤ 1000000 by decide)
  have e2 : catL (Tu.l (tu xs)) [k, y] = .ok (xs ++ [k, y]) := catL_ok (by show xs.length + 2 ≤ _; omega)
  have l2 : (xs ++ [k, y]).length = xs.length + 2 := by rw [List.length_append]; rfl
  rw [if_neg (by decide)]
  show (((isiX (HasTy.ty (tu xs)) "tuple").bind _).bind _) = _
  rw [isi_tt, bind_ok', bind_ok', Bool.not_true, if_neg (by decide)]
  show ((szX (k :: (y :: ([] : List Int)))).bind fun t530 => catL (Tu.l (tu xs)) t530).bind _ = _
  rw [e1, bind_ok', e2, bind_ok']
  dsimp only
  rw [lowest_ok hn h, bind_ok', e, decide_eq_true rfl, Bool.not_true, if_neg (by decide), hlenL, rngX_b (by decide) (by omega) (by decide) (by omega), bind_ok', comp_none (fun a m => by
    have := rangeL_mem m
    obtain ⟨v, ev, _⟩ := getX_ex (l := xs ++ [k, y]) (i := a) (by omega) (by omega)
    simp only [ev, bind_ok', is_int_ok, Bool.not_true, Bool.false_eq_true, if_false, decide_true]), bind_ok', bind_ok']
  rfl
theorem same_af {n : Nat} {l : List Int} {c b : Int} [hl : BdL n l] [hc : Bd n c] [hb : Bd n b] (hn : n ≤ 8999) (h : 1 ≤ b) (hx : l.length ≤ 1000) : m__law_same (AF l c b, (l ++ [c, b], ())) = .ok true := by
  obtain ⟨xs, k, y, e1, e2, _, e3, _⟩ := af_na l c (b := b) (by omega)
  rw [e1]
  exact same_na hn h e2 (by omega)
end LW

/-! P21B: rows of integers and the functions they stand for. -/
namespace LW
open PySem L2 FL
/-- the function of a row -/
def mk (row : List Int) : Ty_Affine := AF (row.take (row.length - 2)) (row.getD (row.length - 2) 0) (row.getD (row.length - 1) 0)
theorem mk_app (l : List Int) (c b : Int) : mk (l ++ [c, b]) = AF l c b := by
  have h : (l ++ [c, b]).length = l.length + 2 := by rw [List.length_append]; rfl
  unfold mk
  rw [h, show l.length + 2 - 2 = l.length from rfl, show l.length + 2 - 1 = l.length + 1 from rfl, List.take_left' rfl]
  congr 1 <;> simp [List.getD_eq_getElem?_getD]
/-- a row of w numbers below 2^n, a constant, a bottom below 2^m -/
def GR (n m w : Nat) (row : List Int) : Prop := ∃ l c b, row = l ++ [c, b] ∧ l.length = w ∧ BdL n l ∧ Bd n c ∧ Bd m b ∧ 1 ≤ b
theorem bdl_mono {n m : Nat} {l : List Int} (h : BdL n l) (q : n ≤ m) : BdL m l := ⟨fun a z => (h.all a z).mono q⟩
theorem GR.mono {n m w n' m' : Nat} {row : List Int} (h : GR n m w row) (q : n ≤ n') (q' : m ≤ m') : GR n' m' w row := by
  obtain ⟨l, c, b, e, el, h1, h2, h3, h4⟩ := h
  exact ⟨l, c, b, e, el, bdl_mono h1 q, h2.mono q, h3.mono q', h4⟩
theorem GR.len {n m w : Nat} {row : List Int} (h : GR n m w row) : row.length = w + 2 := by
  obtain ⟨l, c, b, rfl, el, _⟩ := h
  rw [List.length_append, el]; rfl
theorem af_size (l : List Int) (c b : Int) : (AF l c b).v.2.2.2.1 = (l.length : Int) := by
  show ((l.map _).length : Int) = _
  rw [List.length_map]
theorem GR.size {n m w : Nat} {row : List Int} (h : GR n m w row) : (mk row).v.2.2.2.1 = (w : Int) := by
  obtain ⟨l, c, b, rfl, el, _⟩ := h
  rw [mk_app, af_size, el]
/-- in lowest terms -/
theorem GR.red {n m w : Nat} {row : List Int} (h : GR n m w row) : ∃ l c b xs k y, row = l ++ [c, b] ∧ 1 ≤ b ∧ mk row = RA xs k y ∧ NA xs k y ∧ l.length = w ∧ xs.length = w ∧ xs.map (· * b) = l.map (· * y) ∧ k * b = c * y ∧ y ≤ b ∧ BdL n xs ∧ Bd n k ∧ Bd m y ∧ BdL n l ∧ Bd n c ∧ Bd m b := by
  obtain ⟨l, c, b, rfl, el, h1, h2, h3, h4⟩ := h
  obtain ⟨xs, k, y, e1, _, na, lx, cr, ck, ly, bx, bk⟩ := af_na l c (b := b) (by omega)
  have p := na.pos
  exact ⟨l, c, b, xs, k, y, rfl, h4, by rw [mk_app, e1], na, el, by omega, cr, ck, by omega, bx _ h1, bk _ h2, ⟨Nat.lt_of_le_of_lt ly h3.lt⟩, h1, h2, h3⟩
theorem same_mk {n m w : Nat} {row : List Int} (h : GR n m w row) (hn : n ≤ 8000) (hm : m ≤ 8000) (hw : w ≤ 900) : m__law_same (mk row, (row, ())) = .ok true := by
  obtain ⟨l, c, b, rfl, el, h1, h2, h3, h4⟩ := h
  rw [mk_app]
  exact same_af (n := 8000) (hl := bdl_mono h1 hn) (hc := h2.mono hn) (hb := h3.mono hm) (by decide) h4 (by omega)
theorem tuple_same_ok {rows : List (List Int)} (h : ∀ r ∈ rows, m__law_same (mk r, (r, ())) = .ok true) (hl : rows.length ≤ 1000) : m__law_tuple_same (tu (rows.map mk), (rows, ())) = .ok true := by
  unfold m__law_tuple_same
  dsimp only
  rw [isi_tt, bind_ok', bind_ok', Bool.not_true, if_neg (by decide), hlenU, hlenL]
  show (Xc.bind (Xc.ok (!decide ((((rows.map mk).length : Nat) : Int) = _))) _) = _
  rw [List.length_map, decide_eq_true rfl, Bool.not_true, bind_ok', if_neg (by decide), rngX_b (by decide) (by omega) (by decide) (by omega), bind_ok', comp_none (fun a m => ?_), bind_ok', bind_ok']
  · rfl
  · have hm := rangeL_mem m
    obtain ⟨v, ev, mv, hv⟩ := getX_ex (l := rows) (i := a) (by omega) (by omega)
    have e2 : getX (Tu.l (tu (rows.map mk))) a = .ok (mk v) := by
      refine getX_b (by omega) ?_
      show (rows.map mk)[a.toNat]? = _
      rw [List.getElem?_map, hv]
      rfl
    rw [e2, ev, bind_ok', bind_ok', bind_ok', bind_ok', h v mv, bind_ok', Bool.not_true]
def mkPlan (size : Int) (rows : List (List Int)) (cost : List Int) : Ty_Plan := ⟨(size, (tu (rows.map mk), (mk cost, ())))⟩
theorem planned_ok {n m w : Nat} {rows : List (List Int)} {cost : List Int} (h : ∀ r ∈ rows, GR n m w r) (hc : GR n m w cost) (hn : n ≤ 8000) (hm : m ≤ 8000) (hw : w ≤ 900) (hl : rows.length ≤ 1000) : m__law_planned (mkPlan w rows cost, (rows, (cost, ()))) = .ok true := by
  unfold m__law_planned
  rw [if_neg (by decide)]
  show ((((m__law_is_integer ((w : Int), ())).bind _).bind fun t691 => if t691 = true then Xc.ok true else Xc.ok (!decide ((w : Int) = ((HasLen.len cost : Nat) : Int) - 2))).bind fun t694 => if t694 = true then Xc.ok false else (m__law_tuple_same (tu (rows.map mk), (rows, ()))).bind fun t693 => if t693 = true then m__law_same (mk cost, (cost, ())) else Xc.ok false) = _
  rw [is_int_ok, bind_ok', bind_ok', Bool.not_true, if_neg (by decide), hlenL, hc.len, decide_eq_true (by omega), Bool.not_true, bind_ok', if_neg (by decide), tuple_same_ok (fun r q => same_mk (h r q) hn hm hw) hl, bind_ok', if_pos rfl, same_mk hc hn hm hw]
theorem plan_ok {w : Nat} {rows : List (List Int)} {cost : List Int} (h : ∀ r ∈ rows, (mk r).v.2.2.2.1 = (w : Int)) (hc : (mk cost).v.2.2.2.1 = (w : Int)) (h1 : 1 ≤ w) (h20 : w ≤ 20) (hl : rows.length ≤ 60) : (m_Plan___init__ ((w : Int), (rows.map mk, (mk cost, ())))).bind (fun t => Xc.ok (⟨t⟩ : Ty_Plan)) = .ok (mkPlan w rows cost) := by
  unfold m_Plan___init__
  dsimp only
  rw [if_pos (by omega), bind_ok', decide_eq_true (by omega), Bool.not_true, bind_ok', if_neg (by decide), bind_ok']
  dsimp only
  rw [hlenL, List.length_map, if_neg (by rw [decide_eq_false (by omega)]; decide), comp_list (h := fun _ => false) (fun _ => rfl) (fun a q => by
    obtain ⟨r, hr, rfl⟩ := List.mem_map.mp q
    rw [h r hr, decide_eq_true rfl, Bool.not_true]), bind_ok', bind_ok', if_neg (by simp), bind_ok']
  dsimp only
  rw [if_neg (by rw [decide_eq_true hc]; decide), bind_ok', bind_ok']
  rfl
theorem cutL_i2 {α : Type} {l : List α} {a b : α} : cutL (l ++ [a, b]) none (some (-2)) = l := by
  unfold cutL
  have e : HT.sIx (l ++ [a, b]).length (l ++ [a, b]).length (some (-2)) = l.length := by
    unfold HT.sIx
    simp
    omega
  rw [e, HT.sIx_none, List.drop_zero, Nat.sub_zero, List.take_left]
theorem cutL_m2 {α : Type} {l : List α} {a b : α} : cutL (l ++ [a, b]) (some (-2)) none = [a, b] := by
  unfold cutL
  have e : HT.sIx (l ++ [a, b]).length 0 (some (-2)) = l.length := by
    unfold HT.sIx
    simp
    omega
  rw [e, HT.sIx_none, List.drop_left]
  simp
theorem cutL_last {α : Type} {l : List α} {b : α} : cutL (l ++ [b]) (some (-1)) none = [b] := by
  unfold cutL
  have e : HT.sIx (l ++ [b]).length 0 (some (-1)) = l.length := by
    unfold HT.sIx
    simp
    omega
  rw [e, HT.sIx_none, List.drop_left' rfl]
  simp
/-- minus -/
def turn (row : List Int) : List Int := row.dropLast.map (fun t => -t) ++ row.drop (row.length - 1)
theorem turn_app (l : List Int) (c b : Int) : turn (l ++ [c, b]) = l.map (fun t => -t) ++ [-c, b] := by
  unfold turn
  rw [show l ++ [c, b] = (l ++ [c]) ++ [b] by rw [List.append_assoc]; rfl, List.dropLast_concat, List.length_append, show (l ++ [c]).length + [b].length - 1 = (l ++ [c]).length from rfl, List.drop_left' rfl, List.map_append, List.append_assoc]
  rfl
theorem bdl_neg {n : Nat} {l : List Int} (h : BdL n l) : BdL n (l.map fun t => -t) := ⟨fun a q => by
  obtain ⟨x, mx, rfl⟩ := List.mem_map.mp q
  exact ⟨by rw [Int.natAbs_neg]; exact (h.all x mx).lt⟩⟩
theorem turn_gr {n m w : Nat} {row : List Int} (h : GR n m w row) : GR n m w (turn row) := by
  obtain ⟨l, c, b, rfl, el, h1, h2, h3, h4⟩ := h
  exact ⟨_, _, _, turn_app l c b, by rw [List.length_map, el], bdl_neg h1, ⟨by rw [Int.natAbs_neg]; exact h2.lt⟩, h3, h4⟩
theorem turned_ok {n m w : Nat} {row : List Int} (h : GR n m w row) (hw : w ≤ 900) : m__law_turned (row, ()) = .ok (turn row) := by
  have hl := h.len
  obtain ⟨l, c, b, rfl, el, h1, h2, h3, h4⟩ := h
  unfold m__law_turned
  have s : l ++ [c, b] = (l ++ [c]) ++ [b] := by rw [List.append_assoc]; rfl
  dsimp only
  rw [s, cutL_init, List.dropLast_concat, comp_list (h := fun t => -t) (fun _ => rfl) (fun a q => rfl), bind_ok', cutL_last, catL_ok (by rw [List.length_map, List.length_append, el]; simp only [List.length_cons, List.length_nil]; omega), ← s, turn_app, List.map_append, List.append_assoc]
  rfl
theorem neg_mk {n m w : Nat} {row : List Int} (h : GR n m w row) (hm : m ≤ 10) (hn : n ≤ 200) : m_Affine___neg__ (mk row, ()) = .ok (mk (turn row)) := by
  obtain ⟨l, c, b, xs, k, y, rfl, hb, e, na, el, ex, cr, ck, ly, bx, bk, by_, _⟩ := h.red
  have p := na.pos
  have := neg_ok (bx := bdl_mono bx hn) (bk := bk.mono hn) (by_ := by_.mono hm) na
  rw [e, this, turn_app, mk_app]
  have red := neg_ok (bx := bdl_mono bx hn) (bk := bk.mono hn) (by_ := by_.mono hm) na
  have nn : NA (xs.map fun t => -t) (-k) y := by
    refine ⟨p, ?_⟩
    rw [← na.cop]
    refine gcdL_eq_of fun d => ?_
    constructor
    · rintro ⟨h1, h2⟩
      refine ⟨h1, fun a m => ?_⟩
      rcases List.mem_append.mp m with m | m
      · have := h2 (-a) (List.mem_append_left _ (List.mem_map.mpr ⟨a, m, rfl⟩)); rwa [Int.natAbs_neg] at this
      · rw [List.mem_singleton.mp m]; have := h2 (-k) (by simp); rwa [Int.natAbs_neg] at this
    · rintro ⟨h1, h2⟩
      refine ⟨h1, fun a m => ?_⟩
      rcases List.mem_append.mp m with m | m
      · obtain ⟨b, mb, rfl⟩ := List.mem_map.mp m; rw [Int.natAbs_neg]; exact h2 b (List.mem_append_left _ mb)
      · rw [List.mem_singleton.mp m, Int.natAbs_neg]; exact h2 k (by simp)
  congr 1
  rw [← (af_red nn).1]
  refine (af_eq (by omega) (by omega) ?_ (by grind)).1
  rw [List.map_map, List.map_map]
  have := congrArg (List.map fun t => -t) cr
  rw [List.map_map, List.map_map] at this
  refine Eq.trans ?_ (this.trans ?_)
  · exact List.map_congr_left fun a _ => by show -a * b = -(a * b); grind
  · exact List.map_congr_left fun a _ => by show -(a * y) = -a * y; grind
end LW

/-! P21C: rows drawn, made; variables. -/
namespace LW
open PySem L2 FL
theorem bd_le {n : Nat} {x M : Int} (h1 : -M ≤ x) (h2 : x ≤ M) (h : M.natAbs < 2 ^ n) : Bd n x := ⟨by omega⟩
theorem szX_2 (a b : Int) : szX [a, b] = .ok [a, b] := szX_b (show 2 ≤ 1000000 by decide)
theorem function_ok {dr : List Int} (hd : Dr dr) {at_ far : Int} {w : Nat} [bf : Bd 110 far] (h0 : 0 ≤ at_) (hw : w ≤ 6) (h1 : at_ + 7 < (dr.length : Int)) : ∃ row, m__law_function (dr, (at_, ((w : Int), (far, ())))) = .ok row ∧ GR 120 2 w row := by
  have z1 : ∀ a b : Int, szX [a, b] = .ok [a, b] := fun a b => szX_b (show 2 ≤ 1000000 by decide)
  have r6 := mod_range (a := dv dr (at_ + 6)) (m := 19) (by decide)
  have r7 := mod_range (a := dv dr (at_ + 7)) (m := 3) (by decide)
  have e : compX (fun _ => Xc.ok true) (fun a661 => (Xc.bind (Xc.bind (Xc.bind (getX dr (at_ + a661)) fun t662 => (modX t662 (7 : Int))) fun t663 => (Xc.ok (t663 - (3 : Int)))) fun t664 => (mulX t664 far))) (rangeL 0 (w : Int)) = .ok ((rangeL 0 (w : Int)).map fun a => ((dv dr (at_ + a)).fmod 7 - 3) * far) := comp_list (fun _ => rfl) fun a m => by
    have hm := rangeL_mem m
    have r := mod_range (a := dv dr (at_ + a)) (m := 7) (by decide)
    have b3 : Bd 3 ((dv dr (at_ + a)).fmod 7 - 3) := bd_le (M := 7) (by omega) (by omega) (by decide)
    rw [getX_dv (by omega) (by omega), bind_ok', modX_b (by decide), bind_ok', bind_ok', mulX_bd (by decide)]
  refine ⟨_, ?_, (rangeL 0 (w : Int)).map (fun a => ((dv dr (at_ + a)).fmod 7 - 3) * far), (dv dr (at_ + 6)).fmod 19 - 9, 1 + (dv dr (at_ + 7)).fmod 3, rfl, ?_, ⟨fun a m => ?_⟩, bd_le (M := 1023) (by omega) (by omega) (by decide), bd_le (M := 3) (by omega) (by omega) (by decide), by omega⟩
  · unfold m__law_function
    dsimp only
    rw [rngX_b (by decide) (by omega) (by decide) (by omega), bind_ok', e, bind_ok', getX_dv (by omega) (by omega), bind_ok', modX_b (by decide), bind_ok', bind_ok', getX_dv (by omega) (by omega), bind_ok', modX_b (by decide), bind_ok', bind_ok', bind_ok', bind_ok', z1, bind_ok', catL_ok (by rw [List.length_map, rangeL_len]; simp only [List.length_cons, List.length_nil]; omega)]
  · rw [List.length_map, rangeL_len]; omega
  · obtain ⟨x, mx, rfl⟩ := List.mem_map.mp m
    have r := mod_range (a := dv dr (at_ + x)) (m := 7) (by decide)
    have b3 : Bd 3 ((dv dr (at_ + x)).fmod 7 - 3) := bd_le (M := 7) (by omega) (by omega) (by decide)
    have : Bd (3 + 110) (((dv dr (at_ + x)).fmod 7 - 3) * far) := bd_mul
    exact this.mono (by decide)
theorem made_ok {n m w : Nat} {row : List Int} (h : GR n m w row) (hm : m ≤ 8000) : m__law_made (row, ()) = .ok (mk row) := by
  obtain ⟨l, c, b, rfl, el, h1, h2, h3, h4⟩ := h
  unfold m__law_made
  dsimp only
  rw [getX_m2, bind_ok', getX_last2, bind_ok', bind_ok', bind_ok', cutL_i2, bind_ok', init_l (n := m) (by omega) (by omega), bind_ok', mk_app]
def var (w : Nat) (j : Int) : List Int := (rangeL 0 (w : Int)).map (fun a => if decide (a = j) = true then (1 : Int) else 0) ++ [0, 1]
theorem var_gr (w : Nat) (j : Int) : GR 1 1 w (var w j) := ⟨_, 0, 1, rfl, by rw [List.length_map, rangeL_len]; omega, ⟨fun a m => by
  obtain ⟨x, _, rfl⟩ := List.mem_map.mp m
  by_cases h : x = j
  · rw [if_pos (decide_eq_true h)]; exact ⟨by decide⟩
  · rw [if_neg (by simpa using h)]; exact ⟨by decide⟩⟩, ⟨by decide⟩, ⟨by decide⟩, by decide⟩
theorem variable_mk {w : Nat} {j : Int} (hw : w ≤ 1000) : m_Affine_variable ((w : Int), (j, ())) = .ok (mk (var w j)) := by
  have o10 : Bd 10 1 := ⟨by decide⟩
  unfold m_Affine_variable
  dsimp only
  rw [rngX_b (by decide) (by omega) (by decide) (by omega), bind_ok', comp_list (h := fun a => if (decide (a = j)) = true then (1 : Int) else 0) (fun _ => rfl) (fun a m => rfl), bind_ok', bind_ok']
  dsimp only
  rw [init_l (n := 10) (by decide) (by decide), bind_ok']
  congr 1
  unfold var
  rw [mk_app]
def vars (w : Nat) (s : Int) : List (List Int) := (rangeL s (w : Int)).map (var w)
theorem variables_ok {w : Nat} {s : Int} (hw : w ≤ 1000) (h0 : 0 ≤ s) (h1 : s ≤ 1000) : m__law_variables ((w : Int), (s, ())) = .ok (vars w s) := by
  unfold m__law_variables
  dsimp only
  rw [rngX_b h0 (by omega) (by omega) (by omega), bind_ok', comp_list (h := var w) (fun _ => rfl) fun a m => ?_]
  · rfl
  · rw [rngX_b (by decide) (by omega) (by decide) (by omega), bind_ok', comp_list (h := fun x => if (decide (x = a)) = true then (1 : Int) else 0) (fun _ => rfl) (fun x m => rfl), bind_ok', szX_2, bind_ok', catL_ok (by rw [List.length_map, rangeL_len]; simp only [List.length_cons, List.length_nil]; omega)]
    rfl
theorem vars_mk {w : Nat} {s : Int} (hw : w ≤ 1000) : compX (fun _ => Xc.ok true) (fun a => m_Affine_variable ((w : Int), (a, ()))) (rangeL s (w : Int)) = .ok ((vars w s).map mk) := by
  rw [comp_list (h := fun a => mk (var w a)) (fun _ => rfl) (fun a m => variable_mk hw)]
  unfold vars
  rw [List.map_map]
  rfl
theorem vars_gr {w : Nat} {s : Int} : ∀ r ∈ vars w s, GR 1 1 w r := fun r m => by
  obtain ⟨j, _, rfl⟩ := List.mem_map.mp m
  exact var_gr w j
theorem vars_len {w : Nat} {s : Int} : (vars w s).length = ((w : Int) - s).toNat := by
  unfold vars
  rw [List.length_map, rangeL_len]
end LW

/-! P21D: prices. -/
namespace LW
open PySem L2 FL
/-- from numbers -/
theorem from_ok2 {L : List (Int × Int)} {n0 n1 : Int} (hL : ∀ a ∈ L, a.2.natAbs ∣ 2520 ∧ 1 ≤ a.2 ∧ Bd 200 a.1) (h1 : n1.natAbs ∣ 2520) (h2 : 1 ≤ n1) (b0 : Bd 200 n0) (hl : L.length ≤ 100) {P : Int} (hP : P ≠ 0) (hd : ∀ a ∈ L, a.2 ∣ P) (hn : n1 ∣ P) :
    m_Affine_from_numbers (L, ((n0, n1), ())) = .ok (AF (L.map fun a => a.1 * P.fdiv a.2) (n0 * P.fdiv n1) P) := by
  obtain ⟨m, m0, mD, md, e⟩ := point_of_ok (n := 200) (l := L ++ [(n0, n1)]) (D := 2520) (by decide) (by decide) (fun a q => by
    rcases List.mem_append.mp q with q | q
    · exact ⟨(hL a q).1, (hL a q).2.1⟩
    · rw [List.mem_singleton.mp q]; exact ⟨h1, h2⟩) (fun a q => by
    rcases List.mem_append.mp q with q | q
    · exact (hL a q).2.2
    · rw [List.mem_singleton.mp q]; exact b0) (by decide)
  have hm0 : (m : Int) ≠ 0 := by omega
  have bm : Bd 12 (m : Int) := ⟨by rw [Int.natAbs_natCast]; have := Nat.le_of_dvd (by decide) mD; show m < 4096; omega⟩
  rw [List.map_append] at e
  have e : m_point_of (L ++ [(n0, n1)], ()) = .ok (pt ((L.map fun a => a.1 * (m : Int).fdiv a.2) ++ [n0 * (m : Int).fdiv n1]) (m : Int)) := e
  obtain ⟨xs, k, y, f1, _, na, lx, _, _, ly, _, _⟩ := af_na (L.map fun a => a.1 * (m : Int).fdiv a.2) (n0 * (m : Int).fdiv n1) hm0
  have by_ : Bd 12 y := ⟨Nat.lt_of_le_of_lt ly bm.lt⟩
  have hp := na.pos
  have ept : pt ((L.map fun a => a.1 * (m : Int).fdiv a.2) ++ [n0 * (m : Int).fdiv n1]) (m : Int) = (tu (xs ++ [k]), y) := by
    rw [pt_af]
    have f1 : RA _ _ _ = RA xs k y := f1
    have g1 := congrArg (fun z : Ty_Affine => z.v.1) f1
    have g2 := congrArg (fun z : Ty_Affine => z.v.2.1) f1
    have g3 := congrArg (fun z : Ty_Affine => z.v.2.2.1) f1
    have g1 : (L.map fun a => a.1 * (m : Int).fdiv a.2).map (fun t => t.fdiv (sga (L.map fun a => a.1 * (m : Int).fdiv a.2) (n0 * (m : Int).fdiv n1) (m : Int))) = xs := g1
    have g2 : (n0 * (m : Int).fdiv n1).fdiv (sga (L.map fun a => a.1 * (m : Int).fdiv a.2) (n0 * (m : Int).fdiv n1) (m : Int)) = k := g2
    have g3 : (m : Int).fdiv (sga (L.map fun a => a.1 * (m : Int).fdiv a.2) (n0 * (m : Int).fdiv n1) (m : Int)) = y := g3
    rw [g1, g2, g3]
  rw [ept] at e
  unfold m_Affine_from_numbers
  dsimp only
  rw [szX_b (show [(n0, n1)].length ≤ 1000000 by simp), bind_ok', catL_ok (by rw [List.length_cons, List.length_nil]; omega), bind_ok', bind_ok', e, bind_ok']
  dsimp only
  show ((((getX (xs ++ [k]) (-1)).bind _).bind _).bind _) = _
  rw [getX_last, bind_ok', bind_ok', bind_ok']
  show ((m_Affine___init___u (tu (cutL (xs ++ [k]) none (some (-1))), (k, (y, ())))).bind _) = _
  rw [cutL_init, List.dropLast_concat, init_u (n := 12) (by decide) (by omega), bind_ok']
  congr 1
  show AF xs k y = _
  rw [(af_red na).1, ← f1]
  refine (af_eq hm0 hP ?_ ?_).1
  · rw [List.map_map, List.map_map]
    refine List.map_congr_left fun a q => ?_
    obtain ⟨u, hu⟩ := md a (List.mem_append_left _ q)
    obtain ⟨v, hv⟩ := hd a q
    have a2 := (hL a q).2.1
    have e1 : (m : Int).fdiv a.2 = u := by rw [hu, Int.mul_fdiv_cancel_left _ (by omega)]
    have e2 : P.fdiv a.2 = v := by rw [hv, Int.mul_fdiv_cancel_left _ (by omega)]
    show a.1 * (m : Int).fdiv a.2 * P = a.1 * P.fdiv a.2 * (m : Int)
    rw [e1, e2, hu, hv]
    grind
  · obtain ⟨u, hu⟩ := md (n0, n1) (by simp)
    obtain ⟨v, hv⟩ := hn
    have hu : (m : Int) = n1 * u := hu
    have e1 : (m : Int).fdiv n1 = u := by rw [hu, Int.mul_fdiv_cancel_left _ (by omega)]
    have e2 : P.fdiv n1 = v := by rw [hv, Int.mul_fdiv_cancel_left _ (by omega)]
    rw [e1, e2, hu, hv]
    grind
theorem fold_app {γ α β : Type} {f : γ → α → Xc γ} (E : List β → γ) {h : α → β} : ∀ {l : List α} {acc : List β}, acc.length + l.length ≤ 1000 → (∀ acc a, a ∈ l → acc.length ≤ 1000 → f (E acc) a = .ok (E (acc ++ [h a]))) → foldX f l (E acc) = .ok (E (acc ++ l.map h))
  | [], acc, _, _ => by show Xc.ok (E acc) = _; rw [List.map_nil, List.append_nil]
  | a :: l, acc, hl, hf => by
    rw [List.length_cons] at hl
    show (f (E acc) a).bind _ = _
    rw [hf acc a (by simp) (by omega), bind_ok']
    have := fold_app (f := f) E (h := h) (l := l) (acc := acc ++ [h a]) (by rw [List.length_append]; simp only [List.length_cons, List.length_nil]; omega) fun acc b m => hf acc b (by simp [m])
    rw [List.map_cons, show acc ++ h a :: l.map h = acc ++ [h a] ++ l.map h by rw [List.append_assoc]; rfl]
    exact this
def col (r : List Int) (j : Nat) : Int := r.getD j 0
def bot (r : List Int) : Int := r.getD (r.length - 1) 0
def scl (s : Int) (rows : List (List Int)) : Int := rows.foldl (fun s r => s * bot r) s
theorem bot_app (l : List Int) (c b : Int) : bot (l ++ [c, b]) = b := by
  unfold bot
  rw [List.length_append]
  simp [List.getD_eq_getElem?_getD]
theorem GR.bot {n m w : Nat} {row : List Int} (h : GR n m w row) : 1 ≤ bot row ∧ Bd m (bot row) ∧ getX row (-1) = .ok (bot row) := by
  obtain ⟨l, c, b, rfl, el, h1, h2, h3, h4⟩ := h
  rw [bot_app]
  exact ⟨h4, h3, getX_last2⟩
theorem GR.col {n m w j : Nat} {row : List Int} (h : GR n m w row) (hj : j < w) : getX row (j : Int) = .ok (col row j) ∧ Bd n (col row j) := by
  obtain ⟨l, c, b, rfl, el, h1, h2, h3, h4⟩ := h
  have e : (l ++ [c, b])[j]? = some l[j] := by rw [List.getElem?_append_left (by omega)]; exact List.getElem?_eq_getElem (by omega)
  have e2 : LW.col (l ++ [c, b]) j = l[j] := by unfold LW.col; rw [List.getD_eq_getElem?_getD, e]; rfl
  rw [e2]
  exact ⟨getX_nat e, h1.all _ (List.getElem_mem _)⟩
/-- the numbers of the function -/
def cof (r : List Int) (j : Nat) : Int := (Tu.l (mk r).v.1).getD j 0
def den (r : List Int) : Int := (mk r).v.2.2.1
theorem GR.cof {n m w j : Nat} {row : List Int} (h : GR n m w row) (hj : j < w) : getX (Tu.l (mk row).v.1) (j : Int) = .ok (cof row j) ∧ Bd n (cof row j) ∧ 1 ≤ den row ∧ den row ≤ LW.bot row ∧ cof row j * LW.bot row = LW.col row j * den row := by
  obtain ⟨l, c, b, xs, k, y, rfl, hb, e, na, ll, lx, cr, ck, hy, bx, _⟩ := h.red
  have hx : xs[j]? = some xs[j] := List.getElem?_eq_getElem (by omega)
  have hl : l[j]? = some l[j] := List.getElem?_eq_getElem (by omega)
  have e1 : Tu.l (mk (l ++ [c, b])).v.1 = xs := by rw [e]; rfl
  have e2 : LW.cof (l ++ [c, b]) j = xs[j] := by unfold LW.cof; rw [e1, List.getD_eq_getElem?_getD, hx]; rfl
  have e3 : den (l ++ [c, b]) = y := by unfold den; rw [e]; rfl
  have e4 : LW.col (l ++ [c, b]) j = l[j] := by unfold LW.col; rw [List.getD_eq_getElem?_getD, List.getElem?_append_left (by omega), hl]; rfl
  rw [e1, e2, e3, e4, bot_app]
  refine ⟨getX_nat hx, bx.all _ (List.getElem_mem _), na.pos, hy, ?_⟩
  have := congrArg (fun l => l[j]?) cr
  simp only [List.getElem?_map, hx, hl, Option.map_some] at this
  exact Option.some.inj this
theorem scl_ok {rows : List (List Int)} {n m w : Nat} : ∀ {s : Int}, (∀ r ∈ rows, GR n m w r) → 1 ≤ s → 1 ≤ scl s rows ∧ s ∣ scl s rows ∧ (∀ r ∈ rows, bot r ∣ scl s rows) ∧ ∀ k, Bd k s → Bd (k + m * rows.length) (scl s rows) := by
  induction rows with
  | nil => exact fun _ h => ⟨h, Int.dvd_refl _, (fun r m => by cases m), fun k b => b⟩
  | cons r rows ih =>
    intro s h hs
    have hr := (h r (by simp)).bot
    have br := hr.2.1
    obtain ⟨h1, h2, h3, h4⟩ := ih (s := s * bot r) (fun q m => h q (by simp [m])) (Int.mul_pos (by omega) (by omega))
    refine ⟨h1, Int.dvd_trans (Int.dvd_mul_right _ _) h2, fun q m => ?_, fun k b => ?_⟩
    · rcases List.mem_cons.mp m with e | m
      · rw [e]; exact Int.dvd_trans (Int.dvd_mul_left _ _) h2
      · exact h3 q m
    · have : Bd (k + m) (s * bot r) := bd_mul
      exact (h4 _ this).mono (by rw [List.length_cons, Nat.mul_add]; omega)
theorem fold_scl {γ : Type} {f : γ → List Int → Xc γ} (E : Int → γ) {n m w : Nat} (hm : m ≤ 63) : ∀ {rows : List (List Int)} {s : Int}, (∀ r ∈ rows, GR n m w r) → (∀ s r, r ∈ rows → f (E s) r = ((getX r (-1)).bind fun t => mulX s t).bind fun t => .ok (E t)) → foldX f rows (E s) = .ok (E (scl s rows))
  | [], s, _, _ => rfl
  | r :: rows, s, h, hf => by
    have hr := (h r (by simp)).bot
    show (f (E s) r).bind _ = _
    rw [hf s r (by simp), hr.2.2, bind_ok', mulX_r (Nat.lt_of_lt_of_le hr.2.1.lt (Nat.pow_le_pow_right (by decide) (by omega))), bind_ok', bind_ok']
    exact fold_scl E hm (fun q m => h q (by simp [m])) fun s q m => hf s q (by simp [m])
def price (aim : List Int) (rows : List (List Int)) (j : Nat) : List Int := rows.map (fun r => -col r j * (scl (bot aim) rows).fdiv (bot r)) ++ [col aim j * (scl (bot aim) rows).fdiv (bot aim), scl (bot aim) rows]
theorem common_mul (l : List (Int × Int)) (h : ∀ a ∈ l, a.2 ≠ 0) : ∃ P : Int, P ≠ 0 ∧ ∀ a ∈ l, a.2 ∣ P := by
  induction l with
  | nil => exact ⟨1, by decide, fun a m => by cases m⟩
  | cons a l ih =>
    obtain ⟨P, h1, h2⟩ := ih fun b m => h b (by simp [m])
    refine ⟨a.2 * P, Int.mul_ne_zero (h a (by simp)) h1, fun b m => ?_⟩
    rcases List.mem_cons.mp m with e | m
    · rw [e]; exact Int.dvd_mul_right _ _
    · exact Int.dvd_trans (h2 b m) (Int.dvd_mul_left _ _)
section
variable {aim : List Int} {rows : List (List Int)} {w : Nat} (ha : GR 120 2 w aim) (hr : ∀ r ∈ rows, GR 120 2 w r) (h4 : rows.length ≤ 4)
include ha hr h4
theorem bd4 {x : Int} (h1 : 1 ≤ x) (h2 : Bd 2 x) : x ≤ 3 := by
  have : x.natAbs < 4 := h2.lt
  omega
theorem price_mk {j : Nat} (hj : j < w) : m_Affine_from_numbers (rows.map (fun r => (-cof r j, den r)), ((cof aim j, den aim), ())) = .ok (mk (price aim rows j)) := by
  have fa := ha.cof hj
  have ba := ha.bot
  have a3 : bot aim ≤ 3 := bd4 ha hr h4 ba.1 ba.2.1
  have sc := scl_ok (s := bot aim) hr ba.1
  have hL : ∀ a ∈ (rows.map (fun r => (-cof r j, den r))), a.2.natAbs ∣ 2520 ∧ 1 ≤ a.2 ∧ Bd 200 a.1 := fun a m => by
    obtain ⟨r, mr, rfl⟩ := List.mem_map.mp m
    have f := (hr r mr).cof hj
    have b := (hr r mr).bot
    have b3 : bot r ≤ 3 := bd4 ha hr h4 b.1 b.2.1
    have : den r = 1 ∨ den r = 2 ∨ den r = 3 := by omega
    refine ⟨by show (den r).natAbs ∣ 2520; rcases this with e | e | e <;> rw [e] <;> decide, f.2.2.1, ⟨by rw [Int.natAbs_neg]; exact (f.2.1.mono (show 120 ≤ 200 by decide)).lt⟩⟩
  have d1 : (den aim).natAbs ∣ 2520 := by
    have : den aim = 1 ∨ den aim = 2 ∨ den aim = 3 := by omega
    rcases this with e | e | e <;> rw [e] <;> decide
  obtain ⟨P, p0, pd⟩ := common_mul ((cof aim j, den aim) :: rows.map (fun r => (-cof r j, den r))) (fun a m => by
    rcases List.mem_cons.mp m with e | m
    · rw [e]; show den aim ≠ 0; omega
    · have := (hL a m).2.1; omega)
  rw [from_ok2 hL d1 fa.2.2.1 (fa.2.1.mono (by decide)) (by rw [List.length_map]; omega) p0 (fun a m => pd a (List.mem_cons_of_mem _ m)) (pd (cof aim j, den aim) (by simp))]
  congr 1
  unfold price
  rw [mk_app]
  refine (af_eq p0 (by omega) ?_ ?_).1
  · rw [List.map_map, List.map_map, List.map_map]
    refine List.map_congr_left fun r mr => ?_
    have f := (hr r mr).cof hj
    obtain ⟨u, hu⟩ := pd (-cof r j, den r) (List.mem_cons_of_mem _ (List.mem_map.mpr ⟨r, mr, rfl⟩))
    obtain ⟨v, hv⟩ := sc.2.2.1 r mr
    have hu : P = den r * u := hu
    have b := (hr r mr).bot
    show -cof r j * P.fdiv (den r) * scl (bot aim) rows = -col r j * (scl (bot aim) rows).fdiv (bot r) * P
    have e1 : P.fdiv (den r) = u := by rw [hu, Int.mul_fdiv_cancel_left _ (by omega)]
    have e2 : (scl (bot aim) rows).fdiv (bot r) = v := by rw [hv, Int.mul_fdiv_cancel_left _ (by omega)]
    rw [e1, e2, hv, hu]
    have := f.2.2.2.2
    grind
  · obtain ⟨u, hu⟩ := pd (cof aim j, den aim) (by simp)
    obtain ⟨v, hv⟩ := sc.2.1
    have hu : P = den aim * u := hu
    have e1 : P.fdiv (den aim) = u := by rw [hu, Int.mul_fdiv_cancel_left _ (by omega)]
    have e2 : (scl (bot aim) rows).fdiv (bot aim) = v := by rw [hv, Int.mul_fdiv_cancel_left _ (by omega)]
    rw [e1, e2, hv, hu]
    have := fa.2.2.2.2
    grind
theorem price_gr {j : Nat} (hj : j < w) : GR 140 10 rows.length (price aim rows j) := by
  have ba := ha.bot
  have sc := scl_ok (s := bot aim) hr ba.1
  have bs : Bd 10 (scl (bot aim) rows) := (sc.2.2.2 2 ba.2.1).mono (by omega)
  have f1 : ∀ b, Bd 10 ((scl (bot aim) rows).fdiv b) := fun b => bd_fdiv
  refine ⟨_, _, _, rfl, List.length_map .., ⟨fun a m => ?_⟩, ?_, bs, sc.1⟩
  · obtain ⟨r, mr, rfl⟩ := List.mem_map.mp m
    have b1 := ((hr r mr).col hj).2
    have b2 := f1 (bot r)
    have b3 : Bd 120 (-col r j) := ⟨by rw [Int.natAbs_neg]; exact b1.lt⟩
    have : Bd (120 + 10) (-col r j * (scl (bot aim) rows).fdiv (bot r)) := bd_mul
    exact this.mono (by decide)
  · have b1 := (ha.col hj).2
    have b2 := f1 (bot aim)
    have : Bd (120 + 10) (col aim j * (scl (bot aim) rows).fdiv (bot aim)) := bd_mul
    exact this.mono (by decide)
end
end LW

/-! P21E: the task, its pairs. -/
namespace LW
open PySem L2 FL
def prices (s w : Nat) (aim : List Int) (rows : List (List Int)) : List (List Int) := (rangeL (s : Int) (w : Int)).map fun j => price aim rows j.toNat
def mkTask (size replies : Nat) (cost : List Int) (rules : List (List Int)) (aim : List Int) (rows : List (List Int)) : Ty_Task := ⟨((size : Int), ((replies : Int), (mk cost, (tu (rules.map mk), (mk aim, (tu (rows.map mk), ()))))))⟩
theorem nat_mem {s w : Nat} {j : Int} (m : j ∈ rangeL (s : Int) (w : Int)) : ∃ k : Nat, j = (k : Int) ∧ k < w := by
  have := rangeL_mem m
  exact ⟨j.toNat, by omega, by omega⟩
section
variable {aim cost : List Int} {rows rules : List (List Int)} {w s p : Nat} (ha : GR 120 2 w aim) (hr : ∀ r ∈ rows, GR 120 2 w r) (h4 : rows.length ≤ 4) (hw : w ≤ 6) (hs : s ≤ w)
include ha hr h4 hw hs
theorem law_prices_ok : m__law_prices ((s : Int), (aim, (rows, ()))) = .ok (prices s w aim rows) := by
  have ba := ha.bot
  have sc := scl_ok (s := bot aim) hr ba.1
  have bs : Bd 10 (scl (bot aim) rows) := (sc.2.2.2 2 ba.2.1).mono (by omega)
  unfold m__law_prices
  dsimp only
  rw [ba.2.2, bind_ok']
  refine okB _ (fold_scl (fun t => ((s : Int), (aim, (rows, (t, ()))))) (by decide) hr (fun t r m => rfl)) ?_
  dsimp only
  rw [hlenL, ha.len, rngX_b (by omega) (by omega) (by omega) (by omega), bind_ok', show (((w + 2 : Nat) : Int) - 2) = (w : Int) by omega]
  refine okB _ (fold_app (fun acc => ((s : Int), (aim, (rows, (scl (bot aim) rows, (acc, ())))))) (h := fun j => price aim rows j.toNat) (by rw [rangeL_len, List.length_nil]; omega) fun acc j m hacc => ?_) rfl
  obtain ⟨k, rfl, hk⟩ := nat_mem m
  dsimp only
  rw [comp_list (h := fun r => -col r k * (scl (bot aim) rows).fdiv (bot r)) (fun _ => rfl) (fun r mr => by
    have c := (hr r mr).col hk
    have b := (hr r mr).bot
    have c2 := c.2
    have b2 := b.2.1
    have bf : Bd 10 ((scl (bot aim) rows).fdiv (bot r)) := bd_fdiv
    rw [c.1, bind_ok', bind_ok', b.2.2, bind_ok', fdvX_bd (n := 2) (by decide) (by omega), bind_ok', mulX_bd (by decide)]), bind_ok']
  have c := ha.col hk
  have c2 := c.2
  have b2 := ba.2.1
  have bf : Bd 10 ((scl (bot aim) rows).fdiv (bot aim)) := bd_fdiv
  rw [c.1, bind_ok', ba.2.2, bind_ok', fdvX_bd (n := 2) (by decide) (by omega), bind_ok', mulX_bd (by decide), bind_ok', bind_ok', szX_2, bind_ok', catL_ok (by rw [List.length_map]; simp only [List.length_cons, List.length_nil]; omega), bind_ok', appX_b (by omega), bind_ok']
  rfl
theorem weight_rows_ok (hp : s + p = w) : m_weight_rows (mkTask s p cost rules aim rows, ()) = .ok ((prices s w aim rows).map mk) := by
  unfold m_weight_rows
  show ((rngX (s : Int) ((s : Int) + (p : Int))).bind _).bind _ = _
  rw [show (s : Int) + (p : Int) = (w : Int) by omega, rngX_b (by omega) (by omega) (by omega) (by omega), bind_ok']
  refine okB _ (fold_app (fun acc => (mkTask s p cost rules aim rows, (acc, ()))) (h := fun j => mk (price aim rows j.toNat)) (by rw [rangeL_len, List.length_nil]; omega) fun acc j m hacc => ?_) ?_
  · obtain ⟨k, rfl, hk⟩ := nat_mem m
    dsimp only
    have ec : compX (fun _ => Xc.ok true) (fun a124 => (Xc.bind (Xc.bind (getX (Tu.l a124.v.1) (k : Int)) fun t125 => (Xc.ok (-t125))) fun t126 => (Xc.ok (t126, a124.v.2.2.1)))) (rows.map mk) = .ok (rows.map fun r => (-cof r k, den r)) := by
      rw [comp_list (h := fun a : Ty_Affine => (-((Tu.l a.v.1).getD k 0), a.v.2.2.1)) (fun _ => rfl) (fun a q => by
        obtain ⟨r, mr, rfl⟩ := List.mem_map.mp q
        rw [((hr r mr).cof hk).1, bind_ok', bind_ok']
        rfl), List.map_map]
      rfl
    show (compX (fun _ => Xc.ok true) _ (rows.map mk)).bind _ = _
    rw [ec, bind_ok']
    show (((((getX (Tu.l (mk aim).v.1) (k : Int)).bind _).bind _).bind _).bind _).bind _ = _
    rw [(ha.cof hk).1, bind_ok', bind_ok', bind_ok', bind_ok']
    show (m_Affine_from_numbers (rows.map (fun r => (-cof r k, den r)), ((cof aim k, den aim), ()))).bind _ = _
    rw [price_mk ha hr h4 hk, bind_ok', appX_b (by omega), bind_ok']
    rfl
  · show Xc.ok _ = _
    rw [List.nil_append]
    unfold prices
    rw [List.map_map]
    rfl
theorem prices_gr : ∀ r ∈ prices s w aim rows, GR 140 10 rows.length r := fun r m => by
  obtain ⟨j, mj, rfl⟩ := List.mem_map.mp m
  obtain ⟨k, rfl, hk⟩ := nat_mem mj
  exact price_gr ha hr h4 hk
omit hr ha h4 in
theorem prices_len : (prices s w aim rows).length = w - s := by
  unfold prices
  rw [List.length_map, rangeL_len]; omega
/-- the pairs -/
def firsts (s w : Nat) (rows : List (List Int)) : List (List Int) := rows ++ vars w s
def seconds (s w : Nat) (aim : List Int) (rows : List (List Int)) : List (List Int) := vars rows.length 0 ++ prices s w aim rows
def mkPairs (s p w : Nat) (cost : List Int) (rules : List (List Int)) (aim : List Int) (rows : List (List Int)) : Ty_Pairs := ⟨(mkTask s p cost rules aim rows, ((prices s w aim rows).map mk, ((firsts s w rows).map mk, ((seconds s w aim rows).map mk, ()))))⟩
theorem pairs_ok (hp : s + p = w) : ((m_Pairs___init__ (mkTask s p cost rules aim rows, ())).bind fun t => Xc.ok (⟨t⟩ : Ty_Pairs)) = .ok (mkPairs s p w cost rules aim rows) := by
  unfold m_Pairs___init__
  dsimp only
  rw [weight_rows_ok ha hr h4 hw hs hp, bind_ok']
  show ((((rngX (s : Int) ((s : Int) + (p : Int))).bind fun t164 => compX (fun _ => Xc.ok true) (fun a => m_Affine_variable ((s : Int) + (p : Int), (a, ()))) t164).bind fun t165 => catL (rows.map mk) t165).bind fun t166 => ((((rngX 0 (((rows.map mk).length : Nat) : Int)).bind fun t168 => compX (fun _ => Xc.ok true) (fun a => m_Affine_variable ((((rows.map mk).length : Nat) : Int), (a, ()))) t168).bind fun t169 => catL t169 ((prices s w aim rows).map mk)).bind fun t170 => Xc.ok (mkTask s p cost rules aim rows, ((prices s w aim rows).map mk, (t166, (t170, ())))))).bind _ = _
  have pl := prices_len (aim := aim) (rows := rows) hw hs
  rw [show (s : Int) + (p : Int) = (w : Int) by omega, rngX_b (by omega) (by omega) (by omega) (by omega), bind_ok', vars_mk (by omega), bind_ok', catL_ok (by rw [List.length_map, List.length_map, vars_len]; omega), bind_ok', List.length_map, rngX_b (by decide) (by omega) (by decide) (by omega), bind_ok', vars_mk (by omega), bind_ok', catL_ok (by rw [List.length_map, List.length_map, vars_len, pl]; omega), bind_ok', bind_ok']
  unfold mkPairs firsts seconds
  rw [List.map_append, List.map_append]
theorem pair_functions_ok (hp : s + p = w) : m_pair_functions (mkTask s p cost rules aim rows, ()) = .ok (((firsts s w rows).map mk).zip ((seconds s w aim rows).map mk)) := by
  unfold m_pair_functions
  show (((m_Pairs___init__ (mkTask s p cost rules aim rows, ())).bind fun t => Xc.ok (⟨t⟩ : Ty_Pairs)).bind _) = _
  rw [pairs_ok ha hr h4 hw hs hp, bind_ok']
  rfl
end
theorem all_fit_ok {rows : List (List Int)} {w : Nat} (h : ∀ r ∈ rows, (mk r).v.2.2.2.1 = (w : Int)) : m__all_fit (rows.map mk, ((w : Int), ())) = .ok true := by
  unfold m__all_fit
  dsimp only
  rw [comp_list (h := fun _ => true) (fun _ => rfl) (fun a q => by
    obtain ⟨r, hr, rfl⟩ := List.mem_map.mp q
    rw [h r hr, decide_eq_true rfl]), bind_ok']
  simp
theorem check_ok (x : Str) : m__check (x, (true, ())) = .ok () := by
  unfold m__check
  exact if_neg (show ¬ (!true) = true by decide)
theorem task_ok {aim cost : List Int} {rows rules : List (List Int)} {w s p : Nat} (ha : (mk aim).v.2.2.2.1 = (w : Int)) (hc : (mk cost).v.2.2.2.1 = (w : Int)) (hr : ∀ r ∈ rows, (mk r).v.2.2.2.1 = (w : Int)) (hu : ∀ r ∈ rules, (mk r).v.2.2.2.1 = (w : Int)) (h1 : 1 ≤ rows.length) (h4 : rows.length ≤ 4) (hu4 : rules.length ≤ 4) (s1 : 1 ≤ s) (s3 : s ≤ 3) (p1 : 1 ≤ p) (p3 : p ≤ 3) (hp : s + p = w) :
    ((m_Task___init__ ((s : Int), ((p : Int), (mk cost, (rules.map mk, (mk aim, (rows.map mk, ()))))))).bind fun t => Xc.ok (⟨t⟩ : Ty_Task)) = .ok (mkTask s p cost rules aim rows) := by
  have e : (s : Int) + (p : Int) = (w : Int) := by omega
  unfold m_Task___init__
  dsimp only
  rw [e, if_pos (by omega), bind_ok', decide_eq_true (by omega), bind_ok', bind_ok', check_ok, bind_ok', if_pos (by omega), bind_ok', decide_eq_true (by omega), bind_ok', bind_ok', check_ok, bind_ok', hc, decide_eq_true rfl, check_ok, bind_ok', hlenL, List.length_map, if_pos (decide_eq_true (by omega)), all_fit_ok hu, bind_ok', bind_ok', bind_ok', check_ok, bind_ok', ha, decide_eq_true rfl, check_ok, bind_ok', hlenL, List.length_map, if_pos (by omega), bind_ok', if_pos (decide_eq_true (by omega)), all_fit_ok hr, bind_ok', bind_ok', bind_ok', check_ok, bind_ok', bind_ok']
  rfl
end LW

/-! P21F: words or None; the plans of a node. -/
namespace LW
open PySem L2 FL
def Sd (x : Option Str) : Prop := x = none ∨ x = some ("task" : Str) ∨ x = some ("price" : Str)
instance : EqD (Option Str) := ⟨fun a b => by
  cases a with
  | none => cases b with
    | none => exact ⟨fun _ => rfl, fun _ => rfl⟩
    | some b => exact ⟨fun h => (Bool.false_ne_true h).elim, fun h => nomatch h⟩
  | some a => cases b with
    | none => exact ⟨fun h => (Bool.false_ne_true h).elim, fun h => nomatch h⟩
    | some b =>
      show PyData.eqv (ToD.d a) (ToD.d b) = true ↔ _
      rw [EqD.eq a b]
      exact ⟨fun h => by rw [h], fun h => Option.some.inj h⟩⟩
theorem sd_lay {x : Option Str} (h : Sd x) : PyData.canLay0 (ToD.d x) = true ∧ PyData.depth (ToD.d x) = 0 := by
  rcases h with rfl | rfl | rfl
  · exact ⟨by decide +kernel, by decide +kernel⟩
  · exact ⟨by decide +kernel, by decide +kernel⟩
  · exact ⟨by decide +kernel, by decide +kernel⟩
theorem sd_shaped {x : Option Str} (h : Sd x) : SeqAt.shaped (ToD.d x) = true := by
  unfold SeqAt.shaped
  rw [(sd_lay h).1, (sd_lay h).2]
  rfl
theorem sd_eq {x y : Option Str} (h : Sd x) (k : Sd y) : eqdX x y = .ok (decide (x = y)) := by
  unfold eqdX
  rw [if_pos ⟨sd_shaped h, sd_shaped k⟩]
  congr 1
  by_cases q : x = y
  · rw [decide_eq_true q, (EqD.eq x y).mpr q]
  · rw [decide_eq_false q]
    cases r : PyData.eqv (ToD.d x) (ToD.d y) with
    | false => rfl
    | true => exact absurd ((EqD.eq x y).mp r) q
theorem sd_list {l : List (Option Str)} (h : ∀ x ∈ l, Sd x) : PyData.canLayAll0 (l.map ToD.d) = true ∧ PyData.depthAll (l.map ToD.d) = 0 := by
  induction l with
  | nil => simp [PyData.canLayAll0, PyData.depthAll]
  | cons a l ih =>
    obtain ⟨h1, h2⟩ := ih fun x m => h x (by simp [m])
    obtain ⟨h3, h4⟩ := sd_lay (h a (by simp))
    show PyData.canLayAll0 (ToD.d a :: l.map ToD.d) = true ∧ PyData.depthAll (ToD.d a :: l.map ToD.d) = 0
    simp only [PyData.canLayAll0, PyData.depthAll, h1, h2, h3, h4]
    decide
theorem sides_eq {l : List (Option Str)} (h : ∀ x ∈ l, Sd x) : eqdX l l = .ok true := by
  have s : SeqAt.shaped (ToD.d l) = true := by
    unfold SeqAt.shaped
    show (PyData.canLay0 (.list (l.map ToD.d)) && decide (PyData.depth (.list (l.map ToD.d)) ≤ _)) = true
    simp only [PyData.canLay0, PyData.depth, (sd_list h).1, (sd_list h).2]
    decide
  unfold eqdX
  rw [if_pos ⟨s, s⟩]
  congr 1
  exact (EqD.eq l l).mpr rfl
def on (x : Str) (sides : List (Option Str)) : List Int := (rangeL 0 (sides.length : Int)).filter fun a => decide (sides.getD a.toNat none = some x)
def pick (x : Str) (sides : List (Option Str)) (rows : List (List Int)) : List (List Int) := (on x sides).map fun a => turn (rows.getD a.toNat [])
theorem on_mem {x : Str} {sides : List (Option Str)} {a : Int} (m : a ∈ on x sides) : 0 ≤ a ∧ a < (sides.length : Int) := rangeL_mem (List.mem_filter.mp m).1
theorem on_len {x : Str} {sides : List (Option Str)} : (on x sides).length ≤ sides.length := by
  have := List.length_filter_le (fun a : Int => decide (sides.getD a.toNat none = some x)) (rangeL 0 (sides.length : Int))
  rw [rangeL_len] at this
  unfold on
  omega
theorem getD_mem {α : Type} {l : List α} {i : Nat} {d : α} (h : i < l.length) : l.getD i d ∈ l ∧ l[i]? = some (l.getD i d) := by
  rw [List.getD_eq_getElem?_getD, List.getElem?_eq_getElem h]
  exact ⟨List.getElem_mem h, rfl⟩
theorem comp_on {β : Type} {x : Str} (hx : Sd (some x)) {sides : List (Option Str)} (hs : ∀ y ∈ sides, Sd y) {f : Int → Xc β} (h : Int → β) (hf : ∀ a, 0 ≤ a → a < (sides.length : Int) → f a = .ok (h a)) (hl : sides.length ≤ 1000) :
    ((rngX 0 ((HasLen.len sides : Nat) : Int)).bind fun t => compX (fun a => (getX sides a).bind fun y => eqdX y (some x)) f t) = .ok ((on x sides).map h) := by
  rw [hlenL, rngX_b (by decide) (by omega) (by decide) (by omega), bind_ok']
  refine comp_fm _ h (fun a m => ?_) fun a m _ => hf a (rangeL_mem m).1 (rangeL_mem m).2
  have hm := rangeL_mem m
  have g := getD_mem (l := sides) (i := a.toNat) (d := none) (by omega)
  rw [getX_b hm.1 g.2, bind_ok', sd_eq (hs _ g.1) hx]
section
variable {aim cost : List Int} {rows rules : List (List Int)} {w s p : Nat} (ha : GR 120 2 w aim) (hr : ∀ r ∈ rows, GR 120 2 w r) (hu : ∀ r ∈ rules, GR 120 2 w r) (hc : GR 120 2 w cost) (h4 : rows.length ≤ 4) (hr1 : 1 ≤ rows.length) (hu4 : rules.length ≤ 4) (hw : w ≤ 6) (hw1 : 1 ≤ w) (hp : s + p = w) {sides : List (Option Str)} (hsd : ∀ x ∈ sides, Sd x) (hsl : sides.length = rows.length + p)
include ha hr hu hc h4 hr1 hu4 hw hw1 hp hsd hsl
theorem firsts_gr : ∀ r ∈ firsts s w rows, GR 140 10 w r := fun r m => by
  rcases List.mem_append.mp m with m | m
  · exact (hr r m).mono (by decide) (by decide)
  · exact (vars_gr r m).mono (by decide) (by decide)
theorem seconds_gr : ∀ r ∈ seconds s w aim rows, GR 140 10 rows.length r := fun r m => by
  rcases List.mem_append.mp m with m | m
  · exact (vars_gr r m).mono (by decide) (by decide)
  · exact prices_gr ha hr h4 hw (by omega) r m
theorem firsts_len : (firsts s w rows).length = rows.length + p := by
  unfold firsts
  rw [List.length_append, vars_len]; omega
theorem seconds_len : (seconds s w aim rows).length = rows.length + p := by
  unfold seconds
  rw [List.length_append, vars_len, prices_len hw (by omega)]; omega
theorem pick_gr {x : Str} {l : List (List Int)} {n m v : Nat} (hl : ∀ r ∈ l, GR n m v r) (e : l.length = sides.length) : ∀ r ∈ pick x sides l, GR n m v r := fun r q => by
  obtain ⟨a, ma, rfl⟩ := List.mem_map.mp q
  have := on_mem ma
  exact turn_gr (hl _ (getD_mem (by omega)).1)
theorem held_ok {x : Str} (hx : Sd (some x)) {l : List (List Int)} {v : Nat} (hl : ∀ r ∈ l, GR 140 10 v r) (e : l.length = sides.length) :
    ((rngX 0 ((HasLen.len sides : Nat) : Int)).bind fun t => compX (fun a => (getX sides a).bind fun y => eqdX y (some x)) (fun a => (getX (l.map mk) a).bind fun t => m_Affine___neg__ (t, ())) t) = .ok ((pick x sides l).map mk) := by
  rw [comp_on hx hsd (fun a => mk (turn (l.getD a.toNat []))) (fun a h0 h1 => by
    have g := getD_mem (l := l) (i := a.toNat) (d := []) (by omega)
    rw [getX_b (a := mk (l.getD a.toNat [])) h0 (by rw [List.getElem?_map, g.2]; rfl), bind_ok', neg_mk (hl _ g.1) (by decide) (by decide)]) (by omega)]
  unfold pick
  rw [List.map_map]
  rfl
theorem due_ok {x : Str} (hx : Sd (some x)) {l : List (List Int)} {v : Nat} (hv : v ≤ 100) (hl : ∀ r ∈ l, GR 140 10 v r) (e : l.length = sides.length) :
    ((rngX 0 ((HasLen.len sides : Nat) : Int)).bind fun t => compX (fun a => (getX sides a).bind fun y => eqdX y (some x)) (fun a => ((getX l a).bind fun t => Xc.ok (t, ())).bind fun t => m__law_turned t) t) = .ok (pick x sides l) := by
  rw [comp_on hx hsd (fun a => turn (l.getD a.toNat [])) (fun a h0 h1 => by
    have g := getD_mem (l := l) (i := a.toNat) (d := []) (by omega)
    rw [getX_b h0 g.2, bind_ok', bind_ok', turned_ok (hl _ g.1) (by omega)]) (by omega)]
  rfl
def zeros (n : Nat) : List Int := List.replicate n 0 ++ [0, 1]
omit ha hr hu hc h4 hr1 hu4 hw hw1 hp hsd hsl in
theorem zeros_gr (n : Nat) : GR 1 1 n (zeros n) := ⟨_, 0, 1, rfl, List.length_replicate, ⟨fun a m => by rw [(List.mem_replicate.mp m).2]; exact ⟨by decide⟩⟩, ⟨by decide⟩, ⟨by decide⟩, by decide⟩
theorem plans_ok : m_Pairs_plans_at (mkPairs s p w cost rules aim rows, (sides, ())) = .ok (mkPlan w (rules ++ rows ++ pick "task" sides (firsts s w rows)) cost, mkPlan rows.length (prices s w aim rows ++ pick "price" sides (seconds s w aim rows)) (zeros rows.length)) := by
  have fg := firsts_gr ha hr hu hc h4 hr1 hu4 hw hw1 hp hsd hsl
  have sg := seconds_gr ha hr hu hc h4 hr1 hu4 hw hw1 hp hsd hsl
  have fl : (firsts s w rows).length = sides.length := by rw [firsts_len ha hr hu hc h4 hr1 hu4 hw hw1 hp hsd hsl, hsl]
  have sl : (seconds s w aim rows).length = sides.length := by rw [seconds_len ha hr hu hc h4 hr1 hu4 hw hw1 hp hsd hsl, hsl]
  have e1 := held_ok ha hr hu hc h4 hr1 hu4 hw hw1 hp hsd hsl (x := "task") (.inr (.inl rfl)) fg fl
  have e2 := held_ok ha hr hu hc h4 hr1 hu4 hw hw1 hp hsd hsl (x := "price") (.inr (.inr rfl)) sg sl
  have l1 : (pick "task" sides (firsts s w rows)).length ≤ sides.length := by unfold pick; rw [List.length_map]; exact on_len
  have l2 : (pick "price" sides (seconds s w aim rows)).length ≤ sides.length := by unfold pick; rw [List.length_map]; exact on_len
  have pg := pick_gr ha hr hu hc h4 hr1 hu4 hw hw1 hp hsd hsl (x := "task") fg fl
  have qg := pick_gr ha hr hu hc h4 hr1 hu4 hw hw1 hp hsd hsl (x := "price") sg sl
  have pl := prices_len (aim := aim) (rows := rows) (s := s) hw (by omega)
  have k1 := plan_ok (w := w) (rows := rules ++ rows ++ pick "task" sides (firsts s w rows)) (cost := cost) (fun r m => by
    rcases List.mem_append.mp m with m | m
    · rcases List.mem_append.mp m with m | m
      · exact (hu r m).size
      · exact (hr r m).size
    · exact (pg r m).size) hc.size hw1 (by omega) (by rw [List.length_append, List.length_append]; omega)
  have k2 := plan_ok (w := rows.length) (rows := prices s w aim rows ++ pick "price" sides (seconds s w aim rows)) (cost := zeros rows.length) (fun r m => by
    rcases List.mem_append.mp m with m | m
    · exact (prices_gr ha hr h4 hw (by omega) r m).size
    · exact (qg r m).size) (zeros_gr _).size hr1 (by omega) (by rw [List.length_append]; omega)
  have z : (m_Affine___init___l (List.replicate rows.length 0, (0, (1, ())))).bind (fun t => Xc.ok (⟨t⟩ : Ty_Affine)) = .ok (mk (zeros rows.length)) := by
    have o10 : Bd 10 1 := ⟨by decide⟩
    rw [init_l (n := 10) (by decide) (by decide), bind_ok']
    unfold zeros
    rw [mk_app]
  unfold m_Pairs_plans_at
  dsimp only
  refine okB _ e1 ?_
  refine okB _ e2 ?_
  refine okB (mkPlan w (rules ++ rows ++ pick "task" sides (firsts s w rows)) cost) ?_ ?_
  · show ((((catL (rules.map mk) (rows.map mk)).bind fun t182 => catL t182 ((pick "task" sides (firsts s w rows)).map mk)).bind fun t183 => Xc.ok (t183, (mk cost, ()))).bind fun t184 => Xc.ok ((s : Int) + (p : Int), t184)).bind (fun t185 => (m_Plan___init__ t185).bind fun t186 => Xc.ok (⟨t186⟩ : Ty_Plan)) = _
    rw [catL_ok (by rw [List.length_map, List.length_map]; omega), bind_ok', catL_ok (by rw [List.length_append, List.length_map, List.length_map, List.length_map]; omega), bind_ok', bind_ok', bind_ok', ← List.map_append, ← List.map_append, show (s : Int) + (p : Int) = (w : Int) by omega, k1]
  · show ((((catL ((prices s w aim rows).map mk) ((pick "price" sides (seconds s w aim rows)).map mk)).bind fun t193 => (((((szX ((0 : Int) :: ([] : List Int))).bind fun t188 => repX t188 (((rows.map mk).length : Nat) : Int)).bind fun t189 => Xc.ok (t189, ((0 : Int), ()))).bind fun t190 => (m_Affine___init___l (t190.1, (t190.2.1, ((1 : Int), ())))).bind fun t191 => Xc.ok (⟨t191⟩ : Ty_Affine)).bind fun t192 => Xc.ok (t192, ())).bind fun t194 => Xc.ok (t193, t194)).bind fun t195 => Xc.ok ((((rows.map mk).length : Nat) : Int), t195)).bind (fun t196 => (m_Plan___init__ t196).bind fun t197 => Xc.ok (⟨t197⟩ : Ty_Plan))).bind (fun t198 => Xc.ok (_, t198)) = _
    rw [catL_ok (by rw [List.length_map, List.length_map]; omega), bind_ok', List.length_map, rep0 (by omega) (by omega), bind_ok', bind_ok']
    dsimp only
    rw [Int.toNat_natCast, z, bind_ok', bind_ok', bind_ok', bind_ok', ← List.map_append, k2, bind_ok']
theorem node_plans_ok : m_node_plans (mkTask s p cost rules aim rows, (sides, ())) = .ok (mkPlan w (rules ++ rows ++ pick "task" sides (firsts s w rows)) cost, mkPlan rows.length (prices s w aim rows ++ pick "price" sides (seconds s w aim rows)) (zeros rows.length)) := by
  unfold m_node_plans
  show (((m_Pairs___init__ (mkTask s p cost rules aim rows, ())).bind fun t => Xc.ok (⟨t⟩ : Ty_Pairs)).bind _) = _
  rw [pairs_ok ha hr h4 hw (by omega) hp, bind_ok', plans_ok ha hr hu hc h4 hr1 hu4 hw hw1 hp hsd hsl]
end
end LW

/-! P21G: what the law says of the plans of a node. -/
namespace LW
open PySem L2 FL
abbrev MDT := Dc [("rows" : Str), ("rules" : Str), ("aim" : Str), ("cost" : Str), ("prices" : Str), ("firsts" : Str), ("seconds" : Str)] ((List (List Int)) × (List (List Int)) × (List Int) × (List Int) × (List (List Int)) × (List (List Int)) × (List (List Int)) × Unit)
def mdl (s w : Nat) (cost : List Int) (rules : List (List Int)) (aim : List Int) (rows : List (List Int)) : MDT := ⟨(rows, (rules, (aim, (cost, (prices s w aim rows, (firsts s w rows, (seconds s w aim rows, ())))))))⟩
theorem isi_pt2 {α β : Type} [Rp α] [Rp β] (p : α × β) : isiX (HasTy.ty p) "tuple" = .ok true := isi_pt p
section
variable {aim cost : List Int} {rows rules : List (List Int)} {w s p : Nat} (ha : GR 120 2 w aim) (hr : ∀ r ∈ rows, GR 120 2 w r) (hu : ∀ r ∈ rules, GR 120 2 w r) (hc : GR 120 2 w cost) (h4 : rows.length ≤ 4) (hr1 : 1 ≤ rows.length) (hu4 : rules.length ≤ 4) (hw : w ≤ 6) (hw1 : 1 ≤ w) (hp : s + p = w) {sides : List (Option Str)} (hsd : ∀ x ∈ sides, Sd x) (hsl : sides.length = rows.length + p)
include ha hr hu hc h4 hr1 hu4 hw hw1 hp hsd hsl
theorem nodes_ok : m__law_nodes (mkTask s p cost rules aim rows, (mdl s w cost rules aim rows, (sides, ()))) = .ok true := by
  have fg := firsts_gr ha hr hu hc h4 hr1 hu4 hw hw1 hp hsd hsl
  have sg := seconds_gr ha hr hu hc h4 hr1 hu4 hw hw1 hp hsd hsl
  have fl : (firsts s w rows).length = sides.length := by rw [firsts_len ha hr hu hc h4 hr1 hu4 hw hw1 hp hsd hsl, hsl]
  have sl : (seconds s w aim rows).length = sides.length := by rw [seconds_len ha hr hu hc h4 hr1 hu4 hw hw1 hp hsd hsl, hsl]
  have e1 := due_ok ha hr hu hc h4 hr1 hu4 hw hw1 hp hsd hsl (x := "task") (.inr (.inl rfl)) (by omega) fg fl
  have e2 := due_ok ha hr hu hc h4 hr1 hu4 hw hw1 hp hsd hsl (x := "price") (.inr (.inr rfl)) (by omega) sg sl
  have l1 : (pick "task" sides (firsts s w rows)).length ≤ sides.length := by unfold pick; rw [List.length_map]; exact on_len
  have l2 : (pick "price" sides (seconds s w aim rows)).length ≤ sides.length := by unfold pick; rw [List.length_map]; exact on_len
  have pg := pick_gr ha hr hu hc h4 hr1 hu4 hw hw1 hp hsd hsl (x := "task") fg fl
  have qg := pick_gr ha hr hu hc h4 hr1 hu4 hw hw1 hp hsd hsl (x := "price") sg sl
  have pl := prices_len (aim := aim) (rows := rows) (s := s) hw (by omega)
  have k1 := planned_ok (w := w) (rows := rules ++ rows ++ pick "task" sides (firsts s w rows)) (cost := cost) (n := 140) (m := 10) (fun r m => by
    rcases List.mem_append.mp m with m | m
    · rcases List.mem_append.mp m with m | m
      · exact (hu r m).mono (by decide) (by decide)
      · exact (hr r m).mono (by decide) (by decide)
    · exact pg r m) (hc.mono (by decide) (by decide)) (by decide) (by decide) (by omega) (by rw [List.length_append, List.length_append]; omega)
  have k2 := planned_ok (w := rows.length) (rows := prices s w aim rows ++ pick "price" sides (seconds s w aim rows)) (cost := zeros rows.length) (n := 140) (m := 10) (fun r m => by
    rcases List.mem_append.mp m with m | m
    · exact prices_gr ha hr h4 hw (by omega) r m
    · exact qg r m) ((zeros_gr _).mono (by decide) (by decide)) (by decide) (by decide) (by omega) (by rw [List.length_append]; omega)
  have zr : List.replicate (((rows.length : Nat) : Int) + 1).toNat (0 : Int) ++ [1] = zeros rows.length := by
    rw [show (((rows.length : Nat) : Int) + 1).toNat = rows.length + 1 by omega, List.replicate_succ', List.append_assoc]
    rfl
  have np := node_plans_ok ha hr hu hc h4 hr1 hu4 hw hw1 hp hsd hsl
  unfold m__law_nodes
  have q0 : catL rules rows = .ok (rules ++ rows) := catL_ok (by omega)
  refine okB (rules ++ rows) q0 ?_
  refine okB (rules ++ rows ++ pick "task" sides (firsts s w rows)) (by
    refine okB _ e1 ?_
    exact catL_ok (by rw [List.length_append]; omega)) ?_
  refine okB (prices s w aim rows ++ pick "price" sides (seconds s w aim rows)) (by
    refine okB _ e2 ?_
    have q : catL (prices s w aim rows) (pick "price" sides (seconds s w aim rows)) = .ok _ := catL_ok (by omega)
    exact q) ?_
  refine okB _ np ?_
  refine okB false (by
    rw [isi_pt, bind_ok', bind_ok', Bool.not_true, if_neg (by decide), hlenP, if_neg (by decide)]
    show (eqdX sides sides).bind _ = _
    rw [sides_eq hsd, bind_ok', Bool.not_true]) ?_
  rw [if_neg (by decide)]
  refine okB _ k1 ?_
  rw [if_pos rfl]
  show ((((((szX ((0 : Int) :: ([] : List Int))).bind fun t714 => repX t714 (((rows.length : Nat) : Int) + 1)).bind fun t716 => (szX ((1 : Int) :: ([] : List Int))).bind fun t => catL t716 t).bind fun t => Xc.ok (t, ())).bind fun t => Xc.ok (_, t)).bind fun t => Xc.ok (_, t)).bind _ = _
  rw [rep0 (by omega) (by omega), bind_ok', szX_1, bind_ok', catL_ok (by rw [List.length_replicate]; simp only [List.length_cons, List.length_nil]; omega), bind_ok', bind_ok', bind_ok', zr]
  exact k2
end
end LW

/-! P21I: values. -/
namespace LW
open PySem L2 FL
theorem va {x X D h r v u Xs L b y z top bo w S Q : Int} (hz : z ≠ 0) (hy : y ≠ 0) (e1 : x * D = X * h) (e2 : v * (bo * z) = top * u * r) (e3 : u * y = Xs * z) (e4 : Xs * b = L * y) (e5 : D = S * bo) (e6 : S = b * w) (e7 : Q = top * w) : (x * r + (-1) * v * h) * D = (X - Q * L) * (h * r) := by
  have k : v * D = Q * L * r := by
    refine Int.eq_of_mul_eq_mul_right (Int.mul_ne_zero hz hy) ?_
    have h1 : v * D * (z * y) = (v * (bo * z)) * (b * w * y) := by rw [e5, e6]; grind
    have h3 : top * u * r * (b * w * y) = top * r * b * w * (u * y) := by grind
    have h4 : top * r * b * w * (Xs * z) = top * r * w * z * (Xs * b) := by grind
    rw [h1, e2, h3, e3, h4, e4, e7]
    grind
  have : (x * r + (-1) * v * h) * D = (x * D) * r - (v * D) * h := by grind
  rw [this, e1, k]
  grind
theorem map_at {l m : List Int} {a b : Int} (h : l.map (· * a) = m.map (· * b)) {i : Nat} (h1 : i < l.length) (h2 : i < m.length) : l[i] * a = m[i] * b := by
  have := congrArg (fun l => l[i]?) h
  simp only [List.getElem?_map, List.getElem?_eq_getElem h1, List.getElem?_eq_getElem h2, Option.map_some] at this
  exact Option.some.inj this
def con (r : List Int) : Int := r.getD (r.length - 2) 0
def pstep (s : Nat) (S : Int) (a : List Int × Int) (p : List Int × Int) : List Int × Int := (List.zipWith (fun t h => t - p.2 * S.fdiv (bot p.1) * h) a.1 (p.1.take s), a.2 - p.2 * S.fdiv (bot p.1) * con p.1)
theorem con_app (l : List Int) (c b : Int) : con (l ++ [c, b]) = c := by
  unfold con
  rw [List.length_append]
  simp [List.getD_eq_getElem?_getD]
theorem take_app {l : List Int} {c b : Int} {s : Nat} (h : s ≤ l.length) : (l ++ [c, b]).take s = l.take s := List.take_append_of_le_length h
/-- one row taken off -/
theorem vstep_ok {row : List Int} {w s n : Nat} (hg : GR 120 2 w row) (hs : s ≤ w) {T : List Int} {C S bo top : Int} (hT : T.length = s) (bT : BdL n T) (bC : Bd n C) (hn : n ≤ 200) (S1 : 1 ≤ S) (bS : Bd 10 (S * bo)) (bo1 : 1 ≤ bo) (bo3 : bo ≤ 3) (btop : Bd 3 top) (hd : bot row ∣ S) :
    ((m_Affine_head (mk row, ((s : Int), ()))).bind fun t145 => m_Affine_scaled (t145, ((top, bo), ()))).bind (fun t146 => m_Affine___sub__ (AF T C (S * bo), (t146, ()))) = .ok (AF (pstep s S (T, C) (row, top)).1 (pstep s S (T, C) (row, top)).2 (S * bo)) := by
  obtain ⟨l, c, b, xs, k, y, rfl, hb, e, na, ll, lx, cr, ck, hy, bx, bk, by2, bl, bc, bb⟩ := hg.red
  have y1 := na.pos
  have b3 : b.natAbs < 4 := bb.lt
  have by10 : Bd 10 y := by2.mono (by decide)
  have bx2 : BdL 200 xs := bdl_mono bx (by decide)
  have bk2 : Bd 200 k := bk.mono (by decide)
  have D1 : 1 ≤ S * bo := Int.mul_pos (by omega) (by omega)
  rw [e, head_ok (bx := bx2) (bk := bk2) (by_ := by10) (by omega) (by omega), bind_ok', Int.toNat_natCast]
  obtain ⟨us, m, z, f1, _, nb, lu, cu, cm, hz, bu, bm⟩ := af_na (xs.take s) k (b := y) (by omega)
  have z1 := nb.pos
  have bu2 : BdL 200 us := bu 200 ⟨fun a q => bx2.all a (List.mem_of_mem_take q)⟩
  have bm2 : Bd 200 m := bm 200 bk2
  have bz : Bd 10 z := bd_le (M := 3) (by omega) (by omega) (by decide)
  have bbo : Bd 10 bo := bd_le (M := 3) (by omega) (by omega) (by decide)
  have btop10 : Bd 10 top := btop.mono (by decide)
  have boz : 1 ≤ bo * z := Int.mul_pos (by omega) (by omega)
  rw [f1, scaled_ok (bx := bu2) (bk := bm2) (by_ := bz) (b0 := btop10) (b1 := bbo) (by omega), bind_ok']
  obtain ⟨vs, q, r, g1, _, nc, lv, cv, cq, hr, bv, bq⟩ := af_na (us.map (top * ·)) (top * m) (b := bo * z) (by omega)
  have r1 := nc.pos
  have bus : BdL 150 us := bu 150 ⟨fun a q => (bx.all a (List.mem_of_mem_take q)).mono (by decide)⟩
  have bms : Bd 150 m := bm 150 (bk.mono (by decide))
  have bv2 : BdL 200 vs := bv 200 ⟨fun a q => by
    obtain ⟨x, mx, rfl⟩ := List.mem_map.mp q
    have := bus.all x mx
    have : Bd (3 + 150) (top * x) := bd_mul (h := btop) (k := this)
    exact this.mono (by decide)⟩
  have bq2 : Bd 200 q := bq 200 (by
    have : Bd (3 + 150) (top * m) := bd_mul (h := btop) (k := bms)
    exact this.mono (by decide))
  have z3 : z ≤ 3 := by omega
  have r9 : r ≤ 9 := by
    have : bo * z ≤ 3 * 3 := Int.mul_le_mul bo3 z3 (by omega) (by decide)
    omega
  have br : Bd 10 r := bd_le (M := 9) (by omega) (by omega) (by decide)
  obtain ⟨ts, g, h, k1, _, nd, lt_, ct, cg, hh, bt, bg⟩ := af_na T C (b := S * bo) (by omega)
  have h1 := nd.pos
  have bh : Bd 10 h := ⟨Nat.lt_of_le_of_lt hh bS.lt⟩
  rw [g1, k1, sub_ok (bx := bt 200 (bdl_mono bT hn)) (bk := bg 200 (bC.mono hn)) (by_ := bh) (bu := bv2) (bm := bq2) (bz := br) h1 r1]
  obtain ⟨v, hv⟩ := hd
  rw [bot_app] at hv
  have ev : S.fdiv b = v := by rw [hv, Int.mul_fdiv_cancel_left _ (by omega)]
  congr 1
  unfold pstep
  dsimp only
  rw [bot_app, con_app, take_app (by omega), ev]
  have len1 : (xs.take s).length = s := by rw [List.length_take]; omega
  rw [List.length_map] at lv
  refine (af_eq (Int.mul_ne_zero (by omega) (by omega)) (by omega) ?_ ?_).1
  · refine List.ext_getElem (by simp only [List.length_map, List.length_zipWith, List.length_take]; omega) fun i i1 i2 => ?_
    simp only [List.length_map, List.length_zipWith] at i1
    simp only [List.getElem_map, List.getElem_zipWith]
    have a1 := map_at ct (i := i) (by omega) (by omega)
    have a2 := map_at cv (i := i) (by omega) (by rw [List.length_map]; omega)
    rw [List.getElem_map] at a2
    have a3 := map_at cu (i := i) (by omega) (by omega)
    have a4 := map_at cr (i := i) (by omega) (by omega)
    rw [List.getElem_take] at a3 ⊢
    exact va (by omega) (by omega) a1 a2 a3 a4 rfl hv rfl
  · exact va (by omega) (by omega) cg cq cm ck rfl hv rfl
theorem bd_pstep {row : List Int} {w s n : Nat} (hg : GR 120 2 w row) {T : List Int} {C S top : Int} (bT : BdL n T) (bC : Bd n C) (hn : 133 ≤ n) (bS : Bd 10 S) (btop : Bd 3 top) : BdL (n + 1) (pstep s S (T, C) (row, top)).1 ∧ Bd (n + 1) (pstep s S (T, C) (row, top)).2 := by
  obtain ⟨l, c, b, rfl, el, bl, bc, bb, hb⟩ := hg
  have bf : Bd 10 (S.fdiv b) := bd_fdiv
  have key : ∀ t h : Int, Bd n t → Bd 120 h → Bd (n + 1) (t - top * S.fdiv b * h) := fun t h b1 b2 => by
    have : Bd (3 + 10 + 120) (top * S.fdiv b * h) := bd_mul
    have : Bd (max n (3 + 10 + 120) + 1) (t - top * S.fdiv b * h) := bd_sub
    exact this.mono (by omega)
  unfold pstep
  dsimp only
  rw [bot_app, con_app]
  refine ⟨⟨fun a m => ?_⟩, key _ _ bC bc⟩
  obtain ⟨i, hi, rfl⟩ := List.getElem_of_mem m
  rw [List.getElem_zipWith]
  rw [List.length_zipWith] at hi
  refine key _ _ (bT.all _ (List.getElem_mem _)) ?_
  rw [List.getElem_take]
  have h2 : i < l.length + 2 := by
    have := hi
    rw [List.length_take, List.length_append] at this
    simp only [List.length_cons, List.length_nil] at this
    omega
  have mem : (l ++ [c, b])[i]'(by rw [List.length_append]; exact h2) ∈ l ++ [c, b] := List.getElem_mem _
  rcases List.mem_append.mp mem with q | q
  · exact bl.all _ q
  · simp only [List.mem_cons, List.not_mem_nil, or_false] at q
    rcases q with q | q <;> rw [q]
    · exact bc
    · exact bb.mono (by decide)
theorem value_fold {γ : Type} {f : γ → Ty_Affine × Int → Xc γ} (E : Ty_Affine → γ) {w s : Nat} (hs : s ≤ w) {S bo : Int} (S1 : 1 ≤ S) (bS : Bd 10 (S * bo)) (bS2 : Bd 10 S) (bo1 : 1 ≤ bo) (bo3 : bo ≤ 3) (hf : ∀ t a, f (E t) a = (((m_Affine_head (a.1, ((s : Int), ()))).bind fun t145 => m_Affine_scaled (t145, ((a.2, bo), ()))).bind fun t146 => m_Affine___sub__ (t, (t146, ()))).bind fun t => .ok (E t)) :
    ∀ {ps : List (List Int × Int)} {a : List Int × Int} {n : Nat}, (∀ p ∈ ps, GR 120 2 w p.1 ∧ Bd 3 p.2 ∧ bot p.1 ∣ S) → a.1.length = s → BdL n a.1 → Bd n a.2 → 133 ≤ n → n + ps.length ≤ 200 →
    foldX f (ps.map fun p => (mk p.1, p.2)) (E (AF a.1 a.2 (S * bo))) = .ok (E (AF (ps.foldl (pstep s S) a).1 (ps.foldl (pstep s S) a).2 (S * bo)))
  | [], a, n, _, _, _, _, _, _ => rfl
  | p :: ps, a, n, h, hl, b1, b2, hn, hn2 => by
    rw [List.length_cons] at hn2
    obtain ⟨h1, h2, h3⟩ := h p (by simp)
    show (f _ (mk p.1, p.2)).bind _ = _
    rw [hf]
    show (Xc.bind (Xc.bind (Xc.bind (Xc.bind (m_Affine_head (mk p.1, ((s : Int), ()))) fun t145 => m_Affine_scaled (t145, ((p.2, bo), ()))) fun t146 => m_Affine___sub__ (AF a.1 a.2 (S * bo), (t146, ()))) _) _) = _
    rw [vstep_ok (n := n) h1 hs hl b1 b2 (by omega) S1 bS bo1 bo3 h2 h3, bind_ok', bind_ok']
    have bb := bd_pstep (s := s) h1 b1 b2 hn bS2 h2
    refine value_fold E hs S1 bS bS2 bo1 bo3 hf (ps := ps) (a := pstep s S a p) (n := n + 1) (fun q m => h q (by simp [m])) ?_ bb.1 bb.2 (by omega) (by omega)
    obtain ⟨l, c, b, e, el, _⟩ := h1
    unfold pstep
    rw [List.length_zipWith, List.length_take, e, List.length_append]
    omega
end LW

/-! P21J: the value for weights. -/
namespace LW
open PySem L2 FL
theorem vz {x b l y S v bo : Int} (h : x * b = l * y) (hv : S = b * v) : x * (S * bo) = l * v * bo * y := by rw [hv]; grind
def pv0 (s : Nat) (bo : Int) (aim : List Int) (S : Int) : List Int × Int := ((aim.take s).map (fun t => t * S.fdiv (bot aim) * bo), con aim * S.fdiv (bot aim) * bo)
def pv (s : Nat) (bo : Int) (aim : List Int) (rows : List (List Int)) (tops : List Int) : List Int × Int := (rows.zip tops).foldl (pstep s (scl (bot aim) rows)) (pv0 s bo aim (scl (bot aim) rows))
def prow (s : Nat) (bo : Int) (aim : List Int) (rows : List (List Int)) (tops : List Int) : List Int := (pv s bo aim rows tops).1 ++ [(pv s bo aim rows tops).2, scl (bot aim) rows * bo]
theorem fold_bd {w s : Nat} (hs : s ≤ w) {S : Int} (bS : Bd 10 S) : ∀ {ps : List (List Int × Int)} {a : List Int × Int} {n : Nat}, (∀ p ∈ ps, GR 120 2 w p.1 ∧ Bd 3 p.2) → a.1.length = s → BdL n a.1 → Bd n a.2 → 133 ≤ n →
    (ps.foldl (pstep s S) a).1.length = s ∧ BdL (n + ps.length) (ps.foldl (pstep s S) a).1 ∧ Bd (n + ps.length) (ps.foldl (pstep s S) a).2
  | [], a, n, _, hl, b1, b2, _ => ⟨hl, b1, b2⟩
  | p :: ps, a, n, h, hl, b1, b2, hn => by
    obtain ⟨h1, h2⟩ := h p (by simp)
    have bb := bd_pstep (s := s) h1 b1 b2 hn bS h2
    have l1 : (pstep s S a p).1.length = s := by
      obtain ⟨l, c, b, e, el, _⟩ := h1
      unfold pstep
      rw [List.length_zipWith, List.length_take, e, List.length_append]
      omega
    have := fold_bd hs bS (ps := ps) (a := pstep s S a p) (n := n + 1) (fun q m => h q (by simp [m])) l1 bb.1 bb.2 (by omega)
    rw [List.length_cons, show n + (ps.length + 1) = n + 1 + ps.length by omega]
    exact this
theorem con_of {n m w : Nat} {row : List Int} (h : GR n m w row) : getX row (-2) = .ok (con row) ∧ Bd n (con row) := by
  obtain ⟨l, c, b, rfl, _, _, h2, _⟩ := h
  rw [con_app]
  exact ⟨getX_m2, h2⟩
section
variable {aim cost : List Int} {rows rules : List (List Int)} {w s p : Nat} (ha : GR 120 2 w aim) (hr : ∀ r ∈ rows, GR 120 2 w r) (h4 : rows.length ≤ 4) (hw : w ≤ 6) (hs : s ≤ w) {tops : List Int} {bo : Int} (ht : BdL 3 tops) (htl : tops.length = rows.length) (bo1 : 1 ≤ bo) (bo3 : bo ≤ 3)
include ha hr h4 hw hs ht htl bo1 bo3
theorem pv_facts : 1 ≤ scl (bot aim) rows ∧ Bd 10 (scl (bot aim) rows) ∧ Bd 12 (scl (bot aim) rows * bo) ∧ scl (bot aim) rows ≤ 243 ∧ (∀ p ∈ rows.zip tops, GR 120 2 w p.1 ∧ Bd 3 p.2 ∧ bot p.1 ∣ scl (bot aim) rows) ∧ (rows.zip tops).length = rows.length := by
  have ba := ha.bot
  have sc := scl_ok (s := bot aim) hr ba.1
  have bs : Bd 10 (scl (bot aim) rows) := (sc.2.2.2 2 ba.2.1).mono (by omega)
  have le : ∀ (l : List (List Int)) (t : Int), (∀ r ∈ l, GR 120 2 w r) → 1 ≤ t → scl t l ≤ t * 3 ^ l.length := by
    intro l
    induction l with
    | nil => intro t _ _; show t ≤ t * 1; omega
    | cons r l ih =>
      intro t hl ht
      have br := (hl r (by simp)).bot
      have b3 : bot r ≤ 3 := bd4 ha hr h4 br.1 br.2.1
      have h1 : 1 ≤ t * bot r := Int.mul_pos (by omega) (by omega)
      have h2 := ih (t * bot r) (fun q m => hl q (by simp [m])) h1
      have h3 : t * bot r ≤ t * 3 := Int.mul_le_mul_of_nonneg_left b3 (by omega)
      have h5 : (0 : Int) ≤ 3 ^ l.length := Int.pow_nonneg (by decide)
      have h6 : t * bot r * 3 ^ l.length ≤ t * 3 * 3 ^ l.length := Int.mul_le_mul_of_nonneg_right h3 h5
      show scl (t * bot r) l ≤ _
      rw [List.length_cons, Int.pow_succ]
      have : t * (3 ^ l.length * 3) = t * 3 * 3 ^ l.length := by grind
      omega
  have l1 := le rows (bot aim) hr ba.1
  have b3 : bot aim ≤ 3 := bd4 ha hr h4 ba.1 ba.2.1
  have p4 : (3 : Int) ^ rows.length ≤ 81 := by
    have : rows.length = 0 ∨ rows.length = 1 ∨ rows.length = 2 ∨ rows.length = 3 ∨ rows.length = 4 := by omega
    rcases this with e | e | e | e | e <;> rw [e] <;> decide
  have l2 : bot aim * 3 ^ rows.length ≤ 3 * 81 := Int.mul_le_mul b3 p4 (Int.pow_nonneg (by decide)) (by decide)
  have l243 : scl (bot aim) rows ≤ 243 := by omega
  have b2 : Bd 2 bo := bd_le (M := 3) (by omega) (by omega) (by decide)
  refine ⟨sc.1, bs, ?_, l243, fun q m => ?_, by rw [List.length_zip]; omega⟩
  · have : Bd (10 + 2) (scl (bot aim) rows * bo) := bd_mul
    exact this
  · have m1 := (List.of_mem_zip (show (q.1, q.2) ∈ rows.zip tops from m))
    exact ⟨hr _ m1.1, ht.all _ m1.2, sc.2.2.1 _ m1.1⟩
theorem bd_D : Bd 10 (scl (bot aim) rows * bo) := by
  obtain ⟨h1, _, _, h2, _⟩ := pv_facts ha hr h4 hw hs ht htl bo1 bo3
  have : scl (bot aim) rows * bo ≤ 243 * 3 := Int.mul_le_mul h2 bo3 (by omega) (by decide)
  have : 0 ≤ scl (bot aim) rows * bo := Int.mul_nonneg (by omega) (by omega)
  exact bd_le (M := 1023) (by omega) (by omega) (by decide)
theorem pv0_bd : (pv0 s bo aim (scl (bot aim) rows)).1.length = s ∧ BdL 133 (pv0 s bo aim (scl (bot aim) rows)).1 ∧ Bd 133 (pv0 s bo aim (scl (bot aim) rows)).2 := by
  obtain ⟨S1, bS, _, _, _, _⟩ := pv_facts ha hr h4 hw hs ht htl bo1 bo3
  obtain ⟨l, c, b, rfl, el, bl, bc, bb, hb⟩ := ha
  have bf : Bd 10 ((scl (bot (l ++ [c, b])) rows).fdiv b) := bd_fdiv
  have b2 : Bd 2 bo := bd_le (M := 3) (by omega) (by omega) (by decide)
  unfold pv0
  rw [bot_app] at *
  dsimp only
  rw [con_app, take_app (by omega)]
  refine ⟨by rw [List.length_map, List.length_take]; omega, ⟨fun a m => ?_⟩, ?_⟩
  · obtain ⟨t, mt, rfl⟩ := List.mem_map.mp m
    have bt := bl.all t (List.mem_of_mem_take mt)
    have : Bd (120 + 10 + 2) (t * (scl b rows).fdiv b * bo) := bd_mul
    exact this.mono (by decide)
  · have : Bd (120 + 10 + 2) (c * (scl b rows).fdiv b * bo) := bd_mul
    exact this.mono (by decide)
theorem prow_gr : GR 140 10 s (prow s bo aim rows tops) := by
  obtain ⟨S1, bS, _, _, hz, lz⟩ := pv_facts ha hr h4 hw hs ht htl bo1 bo3
  obtain ⟨p1, p2, p3⟩ := pv0_bd ha hr h4 hw hs ht htl bo1 bo3
  obtain ⟨q1, q2, q3⟩ := fold_bd (s := s) hs bS (ps := rows.zip tops) (n := 133) (fun q m => ⟨(hz q m).1, (hz q m).2.1⟩) p1 p2 p3 (by decide)
  exact ⟨_, _, _, rfl, q1, bdl_mono q2 (by omega), q3.mono (by omega), bd_D ha hr h4 hw hs ht htl bo1 bo3, Int.mul_pos (by omega) (by omega)⟩
theorem value_ok : m_value_of (mkTask s p cost rules aim rows, ((tu tops, bo), ())) = .ok (mk (prow s bo aim rows tops)) := by
  obtain ⟨S1, bS, _, _, hz, lz⟩ := pv_facts ha hr h4 hw hs ht htl bo1 bo3
  obtain ⟨p1, p2, p3⟩ := pv0_bd ha hr h4 hw hs ht htl bo1 bo3
  have bD := bd_D ha hr h4 hw hs ht htl bo1 bo3
  have ba := ha.bot
  have sc := scl_ok (s := bot aim) hr ba.1
  have e0 : m_Affine_head (mk aim, ((s : Int), ())) = .ok (AF (pv0 s bo aim (scl (bot aim) rows)).1 (pv0 s bo aim (scl (bot aim) rows)).2 (scl (bot aim) rows * bo)) := by
    obtain ⟨v, hv⟩ := sc.2.1
    obtain ⟨l, c, b, xs, k, y, rfl, hb, e, na, ll, lx, cr, ck, hy, bx, bk, by2, bl, bc, bb⟩ := ha.red
    have y1 := na.pos
    rw [e, head_ok (bx := bdl_mono bx (by decide)) (bk := bk.mono (by decide)) (by_ := by2.mono (by decide)) (by omega) (by omega), Int.toNat_natCast]
    congr 1
    unfold pv0
    rw [bot_app] at *
    dsimp only
    rw [con_app, take_app (by omega)]
    have ev : (scl b rows).fdiv b = v := by rw [hv, Int.mul_fdiv_cancel_left _ (by omega)]
    rw [ev]
    refine (af_eq (by omega) (Int.mul_ne_zero (by omega) (by omega)) ?_ ?_).1
    · rw [List.map_map]
      refine List.ext_getElem (by simp only [List.length_map, List.length_take]; omega) fun i i1 i2 => ?_
      simp only [List.length_map, List.length_take] at i1
      simp only [List.getElem_map, List.getElem_take, Function.comp]
      exact vz (map_at cr (i := i) (by omega) (by omega)) hv
    · exact vz ck hv
  unfold m_value_of
  refine okB _ e0 ?_
  have zl : List.zip (rows.map mk) tops = (rows.zip tops).map fun p => (mk p.1, p.2) := by rw [List.zip_map_left]; rfl
  show (foldX _ (List.zip (rows.map mk) tops) (mkTask s p cost rules aim rows, ((tu tops, bo), (_, ())))).bind _ = _
  rw [zl]
  refine okB _ (value_fold (fun t => (mkTask s p cost rules aim rows, ((tu tops, bo), (t, ())))) hs S1 bD bS bo1 bo3 (fun t a => rfl) (n := 133) hz p1 p2 p3 (by decide) (by omega)) ?_
  show Xc.ok _ = _
  unfold prow
  rw [mk_app]
  rfl
end
end LW

/-! P21K: the law's value. -/
namespace LW
open PySem L2 FL
section
variable {aim cost : List Int} {rows rules : List (List Int)} {w s p : Nat} (ha : GR 120 2 w aim) (hr : ∀ r ∈ rows, GR 120 2 w r) (h4 : rows.length ≤ 4) (hw : w ≤ 6) (hs : s ≤ w) {tops : List Int} {bo : Int} (ht : BdL 3 tops) (htl : tops.length = rows.length) (bo1 : 1 ≤ bo) (bo3 : bo ≤ 3)
include ha hr h4 hw hs ht htl bo1 bo3
theorem law_priced_ok : m__law_priced ((s : Int), (aim, (rows, (tops, (bo, ()))))) = .ok (prow s bo aim rows tops) := by
  obtain ⟨S1, bS, _, _, hz, lz⟩ := pv_facts ha hr h4 hw hs ht htl bo1 bo3
  obtain ⟨p1, p2, p3⟩ := pv0_bd ha hr h4 hw hs ht htl bo1 bo3
  have ba := ha.bot
  have b2a := ba.2.1
  have bbo : Bd 2 bo := bd_le (M := 3) (by omega) (by omega) (by decide)
  have bf : ∀ b, Bd 10 ((scl (bot aim) rows).fdiv b) := fun b => bd_fdiv
  have ca := con_of ha
  unfold m__law_priced
  dsimp only
  rw [ba.2.2, bind_ok']
  refine okB _ (fold_scl (fun t => ((s : Int), (aim, (rows, (tops, (bo, (t, ()))))))) (by decide) hr (fun t r m => rfl)) ?_
  dsimp only
  have eT : compX (fun _ => Xc.ok true) (fun a701 => (Xc.bind (Xc.bind (getX aim a701) fun t703 => (Xc.bind (Xc.bind (getX aim (-(1 : Int))) fun t702 => (fdvX (scl (bot aim) rows) t702)) fun t704 => (mulX t703 t704))) fun t705 => (mulX t705 bo))) (rangeL 0 (s : Int)) = .ok (pv0 s bo aim (scl (bot aim) rows)).1 := by
    refine comp_range (fun _ => rfl) (by rw [p1]) fun k b hb => ?_
    have hk : k < s := by
      by_cases q : k < s
      · exact q
      · rw [List.getElem?_eq_none (by rw [p1]; omega)] at hb; cases hb
    have c := ha.col (j := k) (by omega)
    have c2 := c.2
    have hlen := ha.len
    have g := getD_mem (l := aim) (i := k) (d := 0) (by omega)
    unfold pv0 at hb
    dsimp only at hb
    rw [List.getElem?_map, List.getElem?_take_of_lt hk, g.2] at hb
    have hb : some (col aim k * (scl (bot aim) rows).fdiv (bot aim) * bo) = some b := hb
    cases hb
    have b1 := bf (bot aim)
    rw [c.1, bind_ok', ba.2.2, bind_ok', fdvX_bd (n := 2) (by decide) (by omega), bind_ok', mulX_bd (by decide), bind_ok', mulX_bd (by decide)]
  rw [rngX_b (by decide) (by omega) (by decide) (by omega), bind_ok', eT, bind_ok']
  have b1 := bf (bot aim)
  have ca2 := ca.2
  rw [ca.1, bind_ok', ba.2.2, bind_ok', fdvX_bd (n := 2) (by decide) (by omega), bind_ok', mulX_bd (by decide), bind_ok', mulX_bd (by decide), bind_ok', appX_b (by omega), bind_ok', hlenL, rngX_b (by decide) (by omega) (by decide) (by omega), bind_ok']
  obtain ⟨g, e, hg⟩ := foldX_ix (f := (fun (g734 : (Int × ((List Int) × ((List (List Int)) × ((List Int) × (Int × (Int × ((List Int) × Unit)))))))) a735 => (Xc.bind (Xc.bind (Xc.bind (getX g734.2.2.1 a735) fun t736 => (Xc.ok (cutL t736 none (some g734.1)))) fun t740 => (Xc.bind (Xc.bind (Xc.bind (Xc.bind (getX g734.2.2.1 a735) fun t737 => (getX t737 (-(2 : Int)))) fun t738 => (Xc.ok (t738 :: ([] : List Int)))) fun t739 => (szX t739)) fun t741 => (catL t740 t741))) fun t742 => (Xc.bind (Xc.bind (getX g734.2.2.2.1 a735) fun t745 => (Xc.bind (Xc.bind (Xc.bind (getX g734.2.2.1 a735) fun t743 => (getX t743 (-(1 : Int)))) fun t744 => (fdvX g734.2.2.2.2.2.1 t744)) fun t746 => (mulX t745 t746))) fun t747 => (Xc.bind (Xc.bind (rngX 0 (g734.1 + (1 : Int))) fun t752 => (compX (fun a748 => (Xc.ok true)) (fun a748 => (Xc.bind (getX g734.2.2.2.2.2.2.1 a748) fun t750 => (Xc.bind (Xc.bind (getX t742 a748) fun t749 => (mulX t747 t749)) fun t751 => (Xc.ok (t750 - t751))))) t752)) fun t753 => (Xc.ok (g734.1, (g734.2.1, (g734.2.2.1, (g734.2.2.2.1, (g734.2.2.2.2.1, (g734.2.2.2.2.2.1, (t753, ())))))))))))))
    (l := rangeL 0 ((rows.length : Nat) : Int)) (g := ((s : Int), (aim, (rows, (tops, (bo, (scl (bot aim) rows, ((pv0 s bo aim (scl (bot aim) rows)).1 ++ [con aim * (scl (bot aim) rows).fdiv (bot aim) * bo], ()))))))))
    (P := fun i g => i ≤ rows.length → g = ((s : Int), (aim, (rows, (tops, (bo, (scl (bot aim) rows, ((((rows.zip tops).take i).foldl (pstep s (scl (bot aim) rows)) (pv0 s bo aim (scl (bot aim) rows))).1 ++ [(((rows.zip tops).take i).foldl (pstep s (scl (bot aim) rows)) (pv0 s bo aim (scl (bot aim) rows))).2], ()))))))) ∧ (((rows.zip tops).take i).foldl (pstep s (scl (bot aim) rows)) (pv0 s bo aim (scl (bot aim) rows))).1.length = s)
    (fun _ => ⟨rfl, p1⟩) (fun i g a ha' hp => by
      obtain ⟨ea, hi⟩ := rangeL_get ha'
      have ea : a = (i : Int) := by omega
      subst ea
      have hi1 : i < rows.length := by omega
      have hi2 : i < tops.length := by omega
      obtain ⟨rfl, hl⟩ := hp (by omega)
      have r1 : getX rows (i : Int) = .ok rows[i] := getX_nat (List.getElem?_eq_getElem hi1)
      have t1 : getX tops (i : Int) = .ok tops[i] := getX_nat (List.getElem?_eq_getElem hi2)
      have hri := hr rows[i] (List.getElem_mem hi1)
      have cr := con_of hri
      have br := hri.bot
      have br2 := br.2.1
      have bt := ht.all tops[i] (List.getElem_mem hi2)
      have lr := hri.len
      have b1 := bf (bot rows[i])
      generalize hF : ((rows.zip tops).take i).foldl (pstep s (scl (bot aim) rows)) (pv0 s bo aim (scl (bot aim) rows)) = F at *
      have hB : BdL 120 (rows[i].take s ++ [con rows[i]]) := by
        obtain ⟨l, c, b, e, el, bl, bc, _⟩ := hri
        rw [e, con_app, take_app (by omega)]
        exact bdl_app ⟨fun a q => bl.all a (List.mem_of_mem_take q)⟩ ⟨fun a q => by rw [List.mem_singleton.mp q]; exact bc⟩
      have l1 : (rows[i].take s).length = s := by rw [List.length_take]; omega
      have bq : Bd (3 + 10) (tops[i] * (scl (bot aim) rows).fdiv (bot rows[i])) := bd_mul (h := bt) (k := b1)
      refine ⟨((s : Int), (aim, (rows, (tops, (bo, (scl (bot aim) rows, (List.zipWith (fun t h => t - tops[i] * (scl (bot aim) rows).fdiv (bot rows[i]) * h) (F.1 ++ [F.2]) (rows[i].take s ++ [con rows[i]]), ()))))))), ?_, fun _ => ?_⟩
      · dsimp only
        rw [r1, bind_ok', bind_ok', bind_ok', cr.1, bind_ok', bind_ok', szX_1, bind_ok', cutL_take _ (by omega), Int.toNat_natCast, catL_ok (by rw [l1]; simp only [List.length_cons, List.length_nil]; omega), bind_ok', t1, bind_ok', bind_ok', br.2.2, bind_ok', fdvX_bd (n := 2) (by decide) (by omega), bind_ok', mulX_bd (by decide), bind_ok', rngX_b (by decide) (by omega) (by decide) (by omega), bind_ok']
        generalize tops[i] * (scl (bot aim) rows).fdiv (bot rows[i]) = Q at *
        rw [comp_at2 (l := F.1 ++ [F.2]) (l' := []) (m := rows[i].take s ++ [con rows[i]]) (m' := []) (h := fun t h => t - Q * h) (fun _ => rfl) (by rw [List.length_append, hl]; simp only [List.length_cons, List.length_nil]; omega) (by rw [List.length_append, List.length_append, hl, l1]; rfl) fun k x y mx my ex ey => by
          rw [List.append_nil] at ex ey
          have := hB.all y my
          rw [ex, bind_ok', ey, bind_ok', mulX_bd (by decide), bind_ok'], bind_ok']
      · have tk : (rows.zip tops).take (i + 1) = (rows.zip tops).take i ++ [(rows[i], tops[i])] := by
          rw [List.take_succ_eq_append_getElem (by omega), List.getElem_zip]
        rw [tk, List.foldl_append, hF]
        show _ = ((s : Int), (aim, (rows, (tops, (bo, (scl (bot aim) rows, ((pstep s (scl (bot aim) rows) F (rows[i], tops[i])).1 ++ [(pstep s (scl (bot aim) rows) F (rows[i], tops[i])).2], ()))))))) ∧ (pstep s (scl (bot aim) rows) F (rows[i], tops[i])).1.length = s
        refine ⟨?_, ?_⟩
        · rw [List.zipWith_append (by rw [hl, l1])]
          rfl
        · unfold pstep
          dsimp only
          rw [List.length_zipWith, hl, l1, Nat.min_self])
  refine okB g e ?_
  rw [rangeL_len] at hg
  obtain ⟨rfl, hl⟩ := hg (by omega)
  have tk : (rows.zip tops).take (((rows.length : Nat) : Int) - 0).toNat = rows.zip tops := List.take_of_length_le (by omega)
  rw [tk] at hl ⊢
  dsimp only
  have hl : (pv s bo aim rows tops).1.length = s := hl
  rw [mulX_bd (by decide), bind_ok', bind_ok', szX_1, bind_ok', catL_ok (by
    show ((pv s bo aim rows tops).1 ++ [(pv s bo aim rows tops).2]).length + _ ≤ _
    rw [List.length_append, hl]; simp only [List.length_cons, List.length_nil]; omega), List.append_assoc]
  rfl
end
end LW

/-! P21L: the plans for a value. -/
namespace LW
open PySem L2 FL
def wd (w s : Nat) (r : List Int) : List Int := r.take s ++ List.replicate (w - s) 0 ++ [con r, bot r]
theorem wd_app {w s : Nat} {l : List Int} {c b : Int} (h : l.length = s) : wd w s (l ++ [c, b]) = l ++ List.replicate (w - s) 0 ++ [c, b] := by
  unfold wd
  rw [con_app, bot_app, take_app (by omega), ← h, List.take_length]
theorem wd_gr {n m w s : Nat} {r : List Int} (h : GR n m s r) (hs : s ≤ w) : GR n m w (wd w s r) := by
  obtain ⟨l, c, b, rfl, el, bl, bc, bb, hb⟩ := h
  exact ⟨_, c, b, wd_app el, by rw [List.length_append, List.length_replicate]; omega, bdl_app bl ⟨fun a q => by rw [(List.mem_replicate.mp q).2]; exact ⟨by show 0 < _; exact Nat.two_pow_pos _⟩⟩, bc, bb, hb⟩
theorem placed_mk {n m w s : Nat} {r : List Int} (h : GR n m s r) (hm : m ≤ 10) (hs : s ≤ w) (hw : w ≤ 6) : m_Affine_placed (mk r, ((w : Int), ((0 : Int), ()))) = .ok (mk (wd w s r)) := by
  obtain ⟨l, c, b, xs, k, y, rfl, hb, e, na, ll, lx, cr, ck, hy, bx, bk, by2, bl, bc, bb⟩ := h.red
  have y1 := na.pos
  rw [e, placed_ok (b1 := by2.mono hm) (by decide) (by decide) (by omega) (by omega) na, wd_app ll, mk_app]
  congr 1
  have e1 : ((w : Int) - 0 - (xs.length : Int)).toNat = w - s := by omega
  rw [e1, show List.replicate (0 : Int).toNat (0 : Int) = [] from rfl, List.nil_append]
  have nz := na_zeros 0 (w - s) na
  rw [List.replicate_zero, List.nil_append] at nz
  rw [← (af_red nz).1]
  refine (af_eq (by omega) (by omega) ?_ ck).1
  rw [List.map_append, List.map_append, cr, List.map_replicate, List.map_replicate, Int.zero_mul, Int.zero_mul]
def lrow (w : Nat) (r1 r2 : List Int) : List Int := List.zipWith (fun x a => x * bot r2 - a * bot r1) (r1.take w) (r2.take w) ++ [con r1 * bot r2 - con r2 * bot r1, bot r1 * bot r2]
theorem la {x X u U y z b c : Int} (h1 : x * b = X * y) (h2 : u * c = U * z) : (x * z + (-1) * u * y) * (b * c) = (X * c - U * b) * (y * z) := by
  have : (x * z + (-1) * u * y) * (b * c) = (x * b) * z * c - (u * c) * y * b := by grind
  rw [this, h1, h2]
  grind
theorem sub_mk {n m n' m' w : Nat} {r1 r2 : List Int} (h1 : GR n m w r1) (h2 : GR n' m' w r2) (hn : n ≤ 200) (hn' : n' ≤ 200) (hm : m ≤ 10) (hm' : m' ≤ 10) : m_Affine___sub__ (mk r1, (mk r2, ())) = .ok (mk (lrow w r1 r2)) := by
  obtain ⟨l, c, b, xs, k, y, rfl, hb, e, na, ll, lx, cr, ck, hy, bx, bk, by2, bl, bc, bb⟩ := h1.red
  obtain ⟨l', c', b', us, m, z, rfl, hb', e', na', ll', lx', cr', ck', hy', bx', bk', by2', bl', bc', bb'⟩ := h2.red
  have y1 := na.pos
  have z1 := na'.pos
  rw [e, e', sub_ok (bx := bdl_mono bx hn) (bk := bk.mono hn) (by_ := by2.mono hm) (bu := bdl_mono bx' hn') (bm := bk'.mono hn') (bz := by2'.mono hm') y1 z1]
  congr 1
  unfold lrow
  rw [mk_app, bot_app, bot_app, con_app, con_app, take_app (by omega), take_app (by omega)]
  refine (af_eq (Int.mul_ne_zero (by omega) (by omega)) (Int.mul_ne_zero (by omega) (by omega)) ?_ (la ck ck')).1
  refine List.ext_getElem (by simp only [List.length_map, List.length_zipWith, List.length_take]; omega) fun i i1 i2 => ?_
  simp only [List.length_map, List.length_zipWith] at i1
  simp only [List.getElem_map, List.getElem_zipWith, List.getElem_take]
  exact la (map_at cr (by omega) (by omega)) (map_at cr' (by omega) (by omega))
theorem lrow_gr {w : Nat} {r1 r2 : List Int} (h1 : GR 140 10 w r1) (h2 : GR 120 2 w r2) : GR 160 20 w (lrow w r1 r2) := by
  obtain ⟨l, c, b, rfl, ll, bl, bc, bb, hb⟩ := h1
  obtain ⟨l', c', b', rfl, ll', bl', bc', bb', hb'⟩ := h2
  have key : ∀ x a : Int, Bd 140 x → Bd 120 a → Bd 160 (x * b' - a * b) := fun x a h1 h2 => by
    have q1 : Bd (140 + 2) (x * b') := bd_mul
    have q2 : Bd (120 + 10) (a * b) := bd_mul
    have : Bd (max (140 + 2) (120 + 10) + 1) (x * b' - a * b) := bd_sub
    exact this.mono (by decide)
  have q3 : Bd (10 + 2) (b * b') := bd_mul
  unfold lrow
  rw [bot_app, bot_app, con_app, con_app, take_app (by omega), take_app (by omega)]
  refine ⟨_, _, _, rfl, by rw [List.length_zipWith, List.length_take, List.length_take]; omega, ⟨fun a m => ?_⟩, key _ _ bc bc', q3.mono (by decide), Int.mul_pos (by omega) (by omega)⟩
  obtain ⟨i, hi, rfl⟩ := List.getElem_of_mem m
  rw [List.getElem_zipWith]
  exact key _ _ (bl.all _ (List.mem_of_mem_take (List.getElem_mem _))) (bl'.all _ (List.mem_of_mem_take (List.getElem_mem _)))
theorem wide_ok {n m w s : Nat} {r : List Int} (h : GR n m s r) (hs : s ≤ w) (hw : w ≤ 6) : ((((szX ((0 : Int) :: ([] : List Int))).bind fun t792 => repX t792 (((w + 2 : Nat) : Int) - ((HasLen.len r : Nat) : Int))).bind fun t793 => catL (cutL r none (some (-(2 : Int)))) t793).bind fun t794 => catL t794 (cutL r (some (-(2 : Int))) none)) = .ok (wd w s r) := by
  obtain ⟨l, c, b, rfl, ll, bl, bc, bb, hb⟩ := h
  rw [hlenL, List.length_append, rep0 (by simp only [List.length_cons, List.length_nil]; omega) (by simp only [List.length_cons, List.length_nil]; omega), bind_ok', cutL_i2, catL_ok (by rw [List.length_replicate]; simp only [List.length_cons, List.length_nil]; omega), bind_ok', cutL_m2, catL_ok (by rw [List.length_append, List.length_replicate]; simp only [List.length_cons, List.length_nil]; omega), wd_app ll]
  congr 4
  simp only [List.length_cons, List.length_nil]
  omega
section
variable {aim cost : List Int} {rows rules : List (List Int)} {w s p : Nat} (ha : GR 120 2 w aim) (hr : ∀ r ∈ rows, GR 120 2 w r) (hu : ∀ r ∈ rules, GR 120 2 w r) (hc : GR 120 2 w cost) (h4 : rows.length ≤ 4) (hr1 : 1 ≤ rows.length) (hu4 : rules.length ≤ 4) (hw : w ≤ 6) (hw1 : 1 ≤ w) (hp : s + p = w) {value : List Int} (hv : GR 140 10 s value)
include ha hw hp hv
theorem law_last_ok : m__law_last (mdl s w cost rules aim rows, (value, ())) = .ok (lrow w (wd w s value) aim) := by
  have g := wd_gr (w := w) hv (by omega)
  have e0 := wide_ok hv (w := w) (by omega) hw
  have la := ha.len
  have ba := ha.bot
  have bg := g.bot
  have b1 := ba.2.1
  have b2 := bg.2.1
  unfold m__law_last
  show ((((szX ((0 : Int) :: ([] : List Int))).bind fun t792 => repX t792 (((HasLen.len aim : Nat) : Int) - ((HasLen.len value : Nat) : Int))).bind fun t793 => catL (cutL value none (some (-(2 : Int)))) t793).bind fun t794 => catL t794 (cutL value (some (-(2 : Int))) none)).bind _ = _
  rw [show HasLen.len aim = w + 2 from la]
  refine okB _ e0 ?_
  dsimp only
  have lg := g.len
  generalize hV : wd w s value = V at *
  have eV : ∃ l c b, V = (l ++ [c]) ++ [b] ∧ l.length = w ∧ BdL 140 (l ++ [c]) ∧ b = bot V ∧ c = con V ∧ V.take w = l := by
    obtain ⟨l, c, b, rfl, ll, bl, bc, _⟩ := g
    exact ⟨l, c, b, by rw [List.append_assoc]; rfl, ll, bdl_app bl ⟨fun a q => by rw [List.mem_singleton.mp q]; exact bc⟩, (bot_app ..).symm, (con_app ..).symm, by rw [take_app (by omega), ← ll, List.take_length]⟩
  have eA : ∃ l c b, aim = (l ++ [c]) ++ [b] ∧ l.length = w ∧ BdL 120 (l ++ [c]) ∧ b = bot aim ∧ c = con aim ∧ aim.take w = l := by
    obtain ⟨l, c, b, rfl, ll, bl, bc, _⟩ := ha
    exact ⟨l, c, b, by rw [List.append_assoc]; rfl, ll, bdl_app bl ⟨fun a q => by rw [List.mem_singleton.mp q]; exact bc⟩, (bot_app ..).symm, (con_app ..).symm, by rw [take_app (by omega), ← ll, List.take_length]⟩
  obtain ⟨l, c, b, e1, ll, bl, q1, q2, q3⟩ := eV
  obtain ⟨l', c', b', e2, ll', bl', q1', q2', q3'⟩ := eA
  rw [hlenL, lg, rngX_b (by decide) (by omega) (by decide) (by omega), bind_ok']
  show ((compX (fun _ => Xc.ok true) (fun a796 => (Xc.bind (Xc.bind (getX V a796) fun t797 => (Xc.bind (getX aim (-(1 : Int))) fun t798 => (mulX t797 t798))) fun t801 => (Xc.bind (Xc.bind (getX aim a796) fun t799 => (Xc.bind (getX V (-(1 : Int))) fun t800 => (mulX t799 t800))) fun t802 => (Xc.ok (t801 - t802))))) (rangeL 0 (((w + 2 : Nat) : Int) - 1))).bind fun t808 => ((((getX V (-1)).bind fun t804 => (getX aim (-1)).bind fun t805 => mulX t804 t805).bind fun t806 => Xc.ok [t806]).bind fun t807 => szX t807).bind fun t809 => catL t808 t809) = _
  rw [comp_at2 (l := l ++ [c]) (l' := [b]) (m := l' ++ [c']) (m' := [b']) (h := fun x a => x * bot aim - a * bot V) (fun _ => rfl) (by rw [List.length_append, ll]; simp only [List.length_cons, List.length_nil]; omega) (by rw [List.length_append, List.length_append, ll, ll']; rfl) fun k x a mx ma ex ea => by
    rw [← e1] at ex
    rw [← e2] at ea
    have bx := bl.all x mx
    have by2 := bl'.all a ma
    rw [ex, bind_ok', ba.2.2, bind_ok', mulX_bd (by decide), bind_ok', ea, bind_ok', bg.2.2, bind_ok', mulX_bd (by decide), bind_ok'], bind_ok', bg.2.2, bind_ok', ba.2.2, bind_ok', mulX_bd (by decide), bind_ok', bind_ok', szX_1, bind_ok', catL_ok (by rw [List.length_zipWith, List.length_append, List.length_append, ll, ll']; simp only [List.length_cons, List.length_nil]; omega), List.zipWith_append (by rw [ll, ll'])]
  unfold lrow
  rw [q3, q3', q2, q2', List.append_assoc]
  rfl
end
end LW

/-! P21M: the plans for a value, ctd. -/
namespace LW
open PySem L2 FL
theorem comp_mk {l : List (List Int)} {f : Ty_Affine → Xc Ty_Affine} {h : List Int → Ty_Affine} (hf : ∀ r ∈ l, f (mk r) = .ok (h r)) : compX (fun _ => Xc.ok true) f (l.map mk) = .ok (l.map h) := by
  induction l with
  | nil => rfl
  | cons a l ih =>
    have := ih fun r m => hf r (by simp [m])
    rw [List.map_cons]
    unfold compX
    rw [hf a (by simp), this]
    rfl
section
variable {aim cost : List Int} {rows rules : List (List Int)} {w s p : Nat} (ha : GR 120 2 w aim) (hr : ∀ r ∈ rows, GR 120 2 w r) (hu : ∀ r ∈ rules, GR 120 2 w r) (hc : GR 120 2 w cost) (h4 : rows.length ≤ 4) (hr1 : 1 ≤ rows.length) (hu4 : rules.length ≤ 4) (hw : w ≤ 6) (hw1 : 1 ≤ w) (hp : s + p = w) {value : List Int} (hv : GR 140 10 s value) {rs : List (List Int)} (hrs : ∀ r ∈ rs, GR 140 10 s r) (hl : rs.length ≤ 4)
def aplan (w s : Nat) (cost : List Int) (rules : List (List Int)) (aim : List Int) (rows : List (List Int)) (value : List Int) (rs : List (List Int)) : Ty_Plan := mkPlan w (rules ++ rows ++ rs.map (wd w s) ++ [lrow w (wd w s value) aim]) cost
include ha hr hu hc h4 hr1 hu4 hw hw1 hp hv hrs hl
theorem aplan_rows : ∀ r ∈ rules ++ rows ++ rs.map (wd w s) ++ [lrow w (wd w s value) aim], GR 160 20 w r := fun r m => by
  rcases List.mem_append.mp m with m | m
  · rcases List.mem_append.mp m with m | m
    · rcases List.mem_append.mp m with m | m
      · exact (hu r m).mono (by decide) (by decide)
      · exact (hr r m).mono (by decide) (by decide)
    · obtain ⟨q, mq, rfl⟩ := List.mem_map.mp m
      exact (wd_gr (hrs q mq) (by omega)).mono (by decide) (by decide)
  · rw [List.mem_singleton.mp m]
    exact lrow_gr (wd_gr hv (by omega)) ha
theorem aplan_len : (rules ++ rows ++ rs.map (wd w s) ++ [lrow w (wd w s value) aim]).length ≤ 13 := by
  simp only [List.length_append, List.length_map, List.length_cons, List.length_nil]
  omega
theorem answer_core {X : Xc (List Ty_Affine)} (hX : X = .ok (rs.map fun r => mk (wd w s r))) : (Xc.bind (Xc.bind (catL (rules.map mk) (rows.map mk)) fun t236 => (Xc.bind X fun t237 => (catL t236 t237))) fun t238 => (Xc.bind (Xc.bind (Xc.bind (Xc.bind (Xc.bind (Xc.bind (Xc.bind (m_Affine_placed (mk value, (((s : Int) + (p : Int)), ((0 : Int), ())))) fun t239 => (m_Affine___sub__ (t239, (mk aim, ())))) fun t240 => (Xc.ok (t240 :: ([] : List Ty_Affine)))) fun t241 => (szX t241)) fun t242 => (catL t238 t242)) fun t243 => (Xc.ok (t243, (mk cost, ())))) fun t244 => (Xc.ok (((s : Int) + (p : Int)), t244))) fun t245 => (Xc.bind (m_Plan___init__ t245) fun t246 => (Xc.ok (⟨t246⟩ : Ty_Plan))))) = .ok (aplan w s cost rules aim rows value rs) := by
  have g := wd_gr (w := w) hv (by omega)
  have ar := aplan_rows ha hr hu hc h4 hr1 hu4 hw hw1 hp hv hrs hl
  have al := aplan_len ha hr hu hc h4 hr1 hu4 hw hw1 hp hv hrs hl
  have k1 := plan_ok (w := w) (rows := rules ++ rows ++ rs.map (wd w s) ++ [lrow w (wd w s value) aim]) (cost := cost) (fun r m => (ar r m).size) hc.size hw1 (by omega) (by omega)
  have z1 : szX [mk (lrow w (wd w s value) aim)] = .ok [mk (lrow w (wd w s value) aim)] := szX_b (by rw [List.length_cons, List.length_nil]; decide)
  have e2 : (rules.map mk ++ rows.map mk ++ rs.map (fun r => mk (wd w s r)) ++ [mk (lrow w (wd w s value) aim)]) = (rules ++ rows ++ rs.map (wd w s) ++ [lrow w (wd w s value) aim]).map mk := by
    simp only [List.map_append, List.map_map, List.map_cons, List.map_nil]
    rfl
  rw [hX, catL_ok (by rw [List.length_map, List.length_map]; omega), bind_ok', bind_ok', catL_ok (by rw [List.length_append, List.length_map, List.length_map, List.length_map]; omega), bind_ok', show (s : Int) + (p : Int) = (w : Int) by omega, placed_mk hv (by decide) (by omega) hw, bind_ok', sub_mk g ha (by decide) (by decide) (by decide) (by decide), bind_ok', bind_ok', z1, bind_ok', catL_ok (by simp only [List.length_append, List.length_map, List.length_cons, List.length_nil]; omega), bind_ok', bind_ok', bind_ok', e2]
  exact k1
theorem placed_all : compX (fun _ => Xc.ok true) (fun a => m_Affine_placed (a, (((s : Int) + (p : Int)), ((0 : Int), ())))) (rs.map mk) = .ok (rs.map fun r => mk (wd w s r)) := by
  rw [show (s : Int) + (p : Int) = (w : Int) by omega]
  refine comp_mk (l := rs) (fun r m => ?_)
  exact placed_mk (hrs r m) (by decide) (by omega) hw
theorem answer_l : m__answer_plan_l (mkTask s p cost rules aim rows, (mk value, (rs.map mk, ()))) = .ok (aplan w s cost rules aim rows value rs) :=
  answer_core ha hr hu hc h4 hr1 hu4 hw hw1 hp hv hrs hl (placed_all ha hr hu hc h4 hr1 hu4 hw hw1 hp hv hrs hl)
theorem answer_u : m__answer_plan_u (mkTask s p cost rules aim rows, (mk value, (tu (rs.map mk), ()))) = .ok (aplan w s cost rules aim rows value rs) :=
  answer_core ha hr hu hc h4 hr1 hu4 hw hw1 hp hv hrs hl (placed_all ha hr hu hc h4 hr1 hu4 hw hw1 hp hv hrs hl)
theorem aplanned : m__law_planned (aplan w s cost rules aim rows value rs, (rules ++ rows ++ rs.map (wd w s) ++ [lrow w (wd w s value) aim], (cost, ()))) = .ok true :=
  planned_ok (aplan_rows ha hr hu hc h4 hr1 hu4 hw hw1 hp hv hrs hl) (hc.mono (by decide) (by decide)) (by decide) (by decide) (by omega) (by have := aplan_len ha hr hu hc h4 hr1 hu4 hw hw1 hp hv hrs hl; omega)
end
end LW

/-! P21N: the law on kinds. -/
namespace LW
open PySem L2 FL
theorem comp_ex {α β : Type} {f : α → Xc β} (P : β → Prop) : ∀ {l : List α}, (∀ a ∈ l, ∃ b, f a = .ok b ∧ P b) → ∃ r, compX (fun _ => Xc.ok true) f l = .ok r ∧ r.length = l.length ∧ ∀ b ∈ r, P b
  | [], _ => ⟨[], rfl, rfl, fun b m => by cases m⟩
  | a :: l, h => by
    obtain ⟨b, e, pb⟩ := h a (by simp)
    obtain ⟨r, e2, l2, p2⟩ := comp_ex P (l := l) fun c m => h c (by simp [m])
    refine ⟨b :: r, ?_, by rw [List.length_cons, List.length_cons, l2], fun c m => ?_⟩
    · unfold compX
      rw [e, e2]
      rfl
    · rcases List.mem_cons.mp m with q | q
      · rw [q]; exact pb
      · exact p2 c q
theorem repU_ok {α : Type} {t : Tu α} {k : Int} (h : 1 ≤ k ∧ k ≤ 1000 ∧ t.l.length ≤ 1000 ∧ t.l ≠ []) : repU t k = .ok (tu (List.replicate k.toNat t.l).flatten) := by unfold repU; rw [if_pos h]
section
variable {aim cost : List Int} {rows rules : List (List Int)} {w s p : Nat} (ha : GR 120 2 w aim) (hr : ∀ r ∈ rows, GR 120 2 w r) (hu : ∀ r ∈ rules, GR 120 2 w r) (hc : GR 120 2 w cost) (h4 : rows.length ≤ 4) (hr1 : 1 ≤ rows.length) (hu4 : rules.length ≤ 4) (hw : w ≤ 6) (hw1 : 1 ≤ w) (hp : s + p = w) (hs1 : 1 ≤ s) {dr : List Int} (hd : Dr dr) (hdl : dr.length = 54)
include ha hr hu hc h4 hr1 hu4 hw hw1 hp hs1 hd hdl
theorem low_ok : ∃ tops bo, ((((rngX 0 ((HasLen.len rows : Nat) : Int)).bind fun t780 => compX (fun _ => Xc.ok true) (fun a778 => (getX dr a778).bind fun t779 => modX t779 (5 : Int)) t780).bind fun t785 => (((((getX dr (4 : Int)).bind fun t781 => modX t781 (3 : Int)).bind fun t782 => Xc.ok ((1 : Int) + t782)).bind fun t783 => Xc.ok (t783 :: ([] : List Int))).bind fun t784 => szX t784).bind fun t786 => catL t785 t786).bind fun t787 => Xc.ok (t787, ())).bind (fun t788 => m__law_lowest t788) = .ok (tops ++ [bo]) ∧ BdL 3 tops ∧ tops.length = rows.length ∧ 1 ≤ bo ∧ bo ≤ 3 := by
  have gd : ∀ i : Int, 0 ≤ i → i < 54 → getX dr i = .ok (dv dr i) := fun i h0 h1 => getX_dv h0 (by omega)
  have r4 := mod_range (a := dv dr 4) (m := 3) (by decide)
  rw [hlenL, rngX_b (by decide) (by omega) (by decide) (by omega), bind_ok', comp_list (h := fun a => (dv dr a).fmod 5) (fun _ => rfl) (fun a m => by
    have := rangeL_mem m
    rw [gd a this.1 (by omega), bind_ok', modX_b (by decide)]), bind_ok', gd 4 (by decide) (by decide), bind_ok', modX_b (by decide), bind_ok', bind_ok', bind_ok', szX_1, bind_ok', catL_ok (by rw [List.length_map, rangeL_len]; simp only [List.length_cons, List.length_nil]; omega), bind_ok', bind_ok']
  have B : BdL 3 ((rangeL 0 ((rows.length : Nat) : Int)).map fun a => (dv dr a).fmod 5) := ⟨fun a m => by
    obtain ⟨x, _, rfl⟩ := List.mem_map.mp m
    have := mod_range (a := dv dr x) (m := 5) (by decide)
    exact bd_le (M := 7) (by omega) (by omega) (by decide)⟩
  have ln : ((rangeL 0 ((rows.length : Nat) : Int)).map fun a => (dv dr a).fmod 5).length = rows.length := by rw [List.length_map, rangeL_len]; omega
  generalize (rangeL 0 ((rows.length : Nat) : Int)).map (fun a => (dv dr a).fmod 5) = L at *
  rcases List.eq_nil_or_concat L with q | ⟨l, c, q⟩
  · rw [q] at ln; simp at ln; omega
  rw [List.concat_eq_append] at q
  subst q
  have bl : BdL 3 l := ⟨fun a m => B.all a (List.mem_append_left _ m)⟩
  have bc : Bd 3 c := B.all c (by simp)
  have bb : Bd 3 (1 + (dv dr 4).fmod 3) := bd_le (M := 3) (by omega) (by omega) (by decide)
  obtain ⟨xs, k, y, _, e2, na, lx, _, _, ly, bx, bk⟩ := af_na l c (b := 1 + (dv dr 4).fmod 3) (by omega)
  have y1 := na.pos
  have lo := lowest_ok (n := 3) (hl := bl) (hc := bc) (hb := bb) (by decide) (by omega)
  refine ⟨xs ++ [k], y, ?_, bdl_app (bx 3 bl) ⟨fun a m => by rw [List.mem_singleton.mp m]; exact bk 3 bc⟩, by rw [List.length_append] at ln ⊢; rw [lx]; exact ln, y1, by omega⟩
  have e3 : l ++ [c] ++ [1 + (dv dr 4).fmod 3] = l ++ [c, 1 + (dv dr 4).fmod 3] := by rw [List.append_assoc]; rfl
  have e4 : xs ++ [k] ++ [y] = xs ++ [k, y] := by rw [List.append_assoc]; rfl
  rw [e3, e4, ← e2]
  exact lo
theorem kinds_ok : m__law_kinds (mkTask s p cost rules aim rows, (mdl s w cost rules aim rows, ((s : Int), (dr, ())))) = .ok true := by
  have gd : ∀ i : Int, 0 ≤ i → i < 54 → getX dr i = .ok (dv dr i) := fun i h0 h1 => getX_dv h0 (by omega)
  obtain ⟨tops, bo, e1, bt, lt, bo1, bo3⟩ := low_ok ha hr hu hc h4 hr1 hu4 hw hw1 hp hs1 hd hdl
  have hs : s ≤ w := by omega
  have pg := prow_gr ha hr h4 hw hs bt lt bo1 bo3
  have lp := law_priced_ok ha hr h4 hw hs bt lt bo1 bo3
  have vo := value_ok (cost := cost) (rules := rules) (p := p) ha hr h4 hw hs bt lt bo1 bo3
  have c1 : cutL (tops ++ [bo]) none (some (-1)) = tops := by rw [cutL_init, List.dropLast_concat]
  have n0 : ∀ r ∈ ([] : List (List Int)), GR 140 10 s r := fun r m => by cases m
  have a1 := answer_l ha hr hu hc h4 hr1 hu4 hw hw1 hp pg n0 (by decide)
  have a2 := aplanned ha hr hu hc h4 hr1 hu4 hw hw1 hp pg n0 (by decide)
  have l1 := law_last_ok (cost := cost) (rules := rules) (rows := rows) ha hw hp pg
  have z1 : ∀ r : List Int, szX [r] = .ok [r] := fun r => szX_b (by rw [List.length_cons, List.length_nil]; decide)
  have q0 : catL rules rows = .ok (rules ++ rows) := catL_ok (by omega)
  unfold m__law_kinds
  refine okB (tops ++ [bo]) e1 ?_
  try dsimp only
  rw [getX_last, bind_ok', bind_ok', bind_ok', bind_ok', bind_ok', c1, bind_ok']
  refine okB (prow s bo aim rows tops) lp ?_
  refine okB (rules ++ rows) q0 ?_
  rw [bind_ok', bind_ok', bind_ok']
  refine okB (aplan w s cost rules aim rows (prow s bo aim rows tops) []) (by
    rw [bind_ok']
    unfold m_kind_plan
    try dsimp only
    rw [vo, bind_ok', bind_ok', bind_ok']
    exact a1) ?_
  refine okB false (by
    rw [l1, bind_ok', bind_ok', z1, bind_ok', catL_ok (by simp only [List.length_append, List.length_cons, List.length_nil]; omega), bind_ok', bind_ok', bind_ok']
    have a2 : m__law_planned (aplan w s cost rules aim rows (prow s bo aim rows tops) [], (rules ++ rows ++ [] ++ [lrow w (wd w s (prow s bo aim rows tops)) aim], (cost, ()))) = .ok true := a2
    rw [List.append_nil] at a2
    show (m__law_planned (aplan w s cost rules aim rows (prow s bo aim rows tops) [], (rules ++ rows ++ [lrow w (wd w s (prow s bo aim rows tops)) aim], (cost, ())))).bind _ = _
    rw [a2, bind_ok', Bool.not_true]) ?_
  rw [if_neg (by decide)]
  obtain ⟨v, ev, gv⟩ := function_ok (w := s) (bf := ⟨by decide⟩) (far := 1) hd (at_ := 5) (by decide) (by omega) (by omega)
  have gv' : GR 140 10 s v := gv.mono (by decide) (by decide)
  refine okB v ev ?_
  have rk := mod_range (a := (dv dr 4).fdiv 3) (m := 4) (by decide)
  obtain ⟨mine, em, lm, gm⟩ := comp_ex (f := fun a815 => (Xc.bind (Xc.bind (Xc.bind (Xc.bind (mulX (8 : Int) a815) fun t816 => (Xc.ok ((13 : Int) + t816))) fun t817 => (Xc.ok (t817, ((s : Int), ((1 : Int), ()))))) fun t818 => (Xc.ok (dr, t818))) fun t819 => (m__law_function t819))) (GR 140 10 s) (l := rangeL 0 (((dv dr 4).fdiv 3).fmod 4)) (fun a m => by
    have ma := rangeL_mem m
    obtain ⟨r, er, gr⟩ := function_ok (w := s) (bf := ⟨by decide⟩) (far := 1) hd (at_ := 13 + 8 * a) (by omega) (by omega) (by omega)
    refine ⟨r, ?_, gr.mono (by decide) (by decide)⟩
    rw [mulX_l (by decide), bind_ok', bind_ok', bind_ok', bind_ok']
    exact er)
  rw [rangeL_len] at lm
  refine okB mine (by
    try dsimp only
    rw [gd 4 (by decide) (by decide), bind_ok', fdvX_b (b := 2) (by decide) (by decide) (by decide), bind_ok', modX_b (by decide), bind_ok', rngX_b (by decide) (by omega) (by decide) (by omega), bind_ok']
    exact em) ?_
  rw [comp_list (h := mk) (fun _ => rfl) (fun r m => made_ok (gm r m) (by decide)), bind_ok']
  have mv := made_ok gv (by decide)
  refine okB (⟨(mk v, (tu (mine.map mk), (tu [(tu tops, bo)], ((tu (List.replicate (s : Int).toNat (Tu.l (tu [(1 : Int)]))).flatten, (1 : Int)), ()))))⟩ : Ty_Piece) (by
    have ru : repU (tu [(1 : Int)]) (s : Int) = .ok (tu (List.replicate (s : Int).toNat (Tu.l (tu [(1 : Int)]))).flatten) := repU_ok ⟨by omega, by omega, by decide, by intro h; cases h⟩
    have z2 : szX [(tu tops, bo)] = .ok [(tu tops, bo)] := szX_b (by rw [List.length_cons, List.length_nil]; decide)
    try dsimp only
    rw [mv, bind_ok', bind_ok', bind_ok', z2, bind_ok', szX_1, bind_ok', bind_ok', ru, bind_ok', bind_ok', bind_ok', bind_ok', bind_ok', bind_ok']
    rfl) ?_
  refine okB (mk v) mv ?_
  refine okB (mine.map mk ++ [mk v]) (appX_b (by rw [List.length_map]; omega)) ?_
  refine okB (mine.map (wd w s)) (comp_list (fun _ => rfl) fun r m => by
    show ((((szX ((0 : Int) :: ([] : List Int))).bind fun t792 => repX t792 (((HasLen.len aim : Nat) : Int) - ((HasLen.len r : Nat) : Int))).bind fun t793 => catL (cutL r none (some (-(2 : Int)))) t793).bind fun t794 => catL t794 (cutL r (some (-(2 : Int))) none)) = _
    rw [show HasLen.len aim = w + 2 from ha.len]
    exact wide_ok (gm r m) hs hw) ?_
  have a3 := answer_u ha hr hu hc h4 hr1 hu4 hw hw1 hp gv' gm (by omega)
  have a4 := aplanned ha hr hu hc h4 hr1 hu4 hw hw1 hp gv' gm (by omega)
  have l3 := law_last_ok (cost := cost) (rules := rules) (rows := rows) ha hw hp gv'
  have p3 : m_piece_plan (mkTask s p cost rules aim rows, ((⟨(mk v, (tu (mine.map mk), (tu [(tu tops, bo)], ((tu (List.replicate (s : Int).toNat (Tu.l (tu [(1 : Int)]))).flatten, (1 : Int)), ()))))⟩ : Ty_Piece), ())) = .ok (aplan w s cost rules aim rows v mine) := a3
  try dsimp only
  rw [p3, bind_ok', catL_ok (by rw [List.length_append, List.length_map]; omega), bind_ok', l3, bind_ok', bind_ok', z1, bind_ok', catL_ok (by simp only [List.length_append, List.length_map, List.length_cons, List.length_nil]; omega), bind_ok', bind_ok', bind_ok']
  exact a4
end
end LW

/-! P21O: the model. -/
namespace LW
open PySem L2 FL
theorem zero_mid {n m s p w : Nat} {r : List Int} (h : GR n m w r) (hp : s + p = w) (hw : w ≤ 6) : ∃ r', ((((szX ((0 : Int) :: ([] : List Int))).bind fun t913 => repX t913 (p : Int)).bind fun t914 => catL (cutL r none (some (s : Int))) t914).bind fun t915 => catL t915 (cutL r (some (-(2 : Int))) none)) = .ok r' ∧ GR n m w r' := by
  have hl := h.len
  obtain ⟨l, c, b, rfl, ll, bl, bc, bb, hb⟩ := h
  refine ⟨l.take s ++ List.replicate p 0 ++ [c, b], ?_, l.take s ++ List.replicate p 0, c, b, rfl, by rw [List.length_append, List.length_take, List.length_replicate]; omega, bdl_app ⟨fun a q => bl.all a (List.mem_of_mem_take q)⟩ ⟨fun a q => by rw [(List.mem_replicate.mp q).2]; exact ⟨by show 0 < _; exact Nat.two_pow_pos _⟩⟩, bc, bb, hb⟩
  rw [rep0 (by omega) (by omega), bind_ok', cutL_take _ (by omega), Int.toNat_natCast, Int.toNat_natCast, take_app (by omega), catL_ok (by rw [List.length_take, List.length_replicate]; omega), bind_ok', cutL_m2, catL_ok (by rw [List.length_append, List.length_take, List.length_replicate]; simp only [List.length_cons, List.length_nil]; omega)]
theorem model_ok {dr : List Int} (hd : Dr dr) (hdl : dr.length = 160) {s p w : Nat} (hp : s + p = w) (hw : w ≤ 6) {far : Int} (bf : Bd 110 far) : ∃ cost rules aim rows, m__law_model (dr, ((s : Int), ((p : Int), (far, ())))) = .ok (mdl s w cost rules aim rows) ∧ GR 120 2 w aim ∧ (∀ r ∈ rows, GR 120 2 w r) ∧ (∀ r ∈ rules, GR 120 2 w r) ∧ GR 120 2 w cost ∧ rows.length ≤ 4 ∧ 1 ≤ rows.length ∧ rules.length ≤ 4 := by
  have gd : ∀ i : Int, 0 ≤ i → i < 160 → getX dr i = .ok (dv dr i) := fun i h0 h1 => getX_dv h0 (by omega)
  have r2 := mod_range (a := dv dr 2) (m := 4) (by decide)
  have r3 := mod_range (a := dv dr 3) (m := 5) (by decide)
  have fun_ : ∀ at_ : Int, 0 ≤ at_ → at_ + 7 < 160 → ∃ row, m__law_function (dr, (at_, ((s : Int) + (p : Int), (far, ())))) = .ok row ∧ GR 120 2 w row := fun at_ h0 h1 => by
    rw [show (s : Int) + (p : Int) = (w : Int) by omega]
    exact function_ok (bf := bf) hd h0 hw (by omega)
  obtain ⟨rows, e1, l1, g1⟩ := comp_ex (f := fun a890 => (Xc.bind (Xc.bind (Xc.bind (Xc.bind (mulX (8 : Int) a890) fun t891 => (Xc.ok ((10 : Int) + t891))) fun t892 => (Xc.ok (t892, (((s : Int) + (p : Int)), (far, ()))))) fun t893 => (Xc.ok (dr, t893))) fun t894 => (m__law_function t894))) (GR 120 2 w) (l := rangeL 0 (1 + (dv dr 2).fmod 4)) (fun a m => by
    have ma := rangeL_mem m
    obtain ⟨r, er, gr⟩ := fun_ (10 + 8 * a) (by omega) (by omega)
    exact ⟨r, by rw [mulX_l (by decide), bind_ok', bind_ok', bind_ok', bind_ok']; exact er, gr⟩)
  obtain ⟨rules, e2, l2, g2⟩ := comp_ex (f := fun a899 => (Xc.bind (Xc.bind (Xc.bind (Xc.bind (mulX (8 : Int) a899) fun t900 => (Xc.ok ((42 : Int) + t900))) fun t901 => (Xc.ok (t901, (((s : Int) + (p : Int)), (far, ()))))) fun t902 => (Xc.ok (dr, t902))) fun t903 => (m__law_function t903))) (GR 120 2 w) (l := rangeL 0 ((dv dr 3).fmod 5)) (fun a m => by
    have ma := rangeL_mem m
    obtain ⟨r, er, gr⟩ := fun_ (42 + 8 * a) (by omega) (by omega)
    exact ⟨r, by rw [mulX_l (by decide), bind_ok', bind_ok', bind_ok', bind_ok']; exact er, gr⟩)
  rw [rangeL_len] at l1 l2
  obtain ⟨aim0, e3, g3⟩ := fun_ 74 (by decide) (by decide)
  obtain ⟨cost, e4, g4⟩ := function_ok (bf := ⟨by decide⟩) (far := 1) (w := w) hd (at_ := 82) (by decide) hw (by omega)
  obtain ⟨aim1, e5, g5⟩ := zero_mid g3 hp hw
  have fin : ∀ aim, GR 120 2 w aim → (Xc.bind (m__law_prices ((s : Int), (aim, (rows, ())))) fun t => (Xc.bind (Xc.bind (m__law_variables ((w : Int), ((s : Int), ()))) fun u => catL rows u) fun u => (Xc.bind (Xc.bind (m__law_variables (((rows.length : Nat) : Int), ((0 : Int), ()))) fun v => catL v t) fun v => Xc.ok ((⟨(rows, (rules, (aim, (cost, (t, (u, (v, ())))))))⟩ : MDT))))) = .ok (mdl s w cost rules aim rows) := fun aim ga => by
    have pl := prices_len (aim := aim) (rows := rows) (s := s) hw (by omega)
    rw [law_prices_ok ga g1 (by omega) hw (by omega), bind_ok', variables_ok (by omega) (by omega) (by omega), bind_ok', catL_ok (by rw [vars_len]; omega), bind_ok', variables_ok (s := 0) (by omega) (by decide) (by decide), bind_ok', catL_ok (by rw [vars_len, pl]; omega), bind_ok']
    rfl
  by_cases q : (dv dr 4).fmod 5 = 0
  · refine ⟨cost, rules, aim1, rows, ?_, g5, g1, g2, g4, by omega, by omega, by omega⟩
    unfold m__law_model
    refine okB rows (by
      dsimp only
      rw [gd 2 (by decide) (by decide), bind_ok', modX_b (by decide), bind_ok', bind_ok', rngX_b (by decide) (by omega) (by decide) (by omega), bind_ok']; exact e1) ?_
    refine okB rules (by
      dsimp only
      rw [gd 3 (by decide) (by decide), bind_ok', modX_b (by decide), bind_ok', rngX_b (by decide) (by omega) (by decide) (by omega), bind_ok']; exact e2) ?_
    refine okB aim0 e3 ?_
    refine okB (dr, ((s : Int), ((p : Int), (far, ((s : Int) + (p : Int), (rows, (rules, (aim1, ())))))))) (by
      dsimp only
      rw [gd 4 (by decide) (by decide), bind_ok', modX_b (by decide), bind_ok', bind_ok', if_pos (decide_eq_true q), e5, bind_ok']) ?_
    have f := fin aim1 g5
    dsimp only
    rw [show (s : Int) + (p : Int) = (w : Int) by omega, e4]
    rw [law_prices_ok g5 g1 (by omega) hw (by omega), bind_ok'] at f ⊢
    rw [variables_ok (by omega) (by omega) (by omega), bind_ok'] at f ⊢
    have pl := prices_len (aim := aim1) (rows := rows) (s := s) hw (by omega)
    have c1 : catL rows (vars w s) = .ok (rows ++ vars w s) := catL_ok (by rw [vars_len]; omega)
    have c2 : catL (vars rows.length 0) (prices s w aim1 rows) = .ok (vars rows.length 0 ++ prices s w aim1 rows) := catL_ok (by rw [vars_len, pl]; omega)
    rw [hlenL, variables_ok (s := 0) (by omega) (by decide) (by decide)]
    simp only [bind_ok', c1, c2]
    rfl
  · refine ⟨cost, rules, aim0, rows, ?_, g3, g1, g2, g4, by omega, by omega, by omega⟩
    unfold m__law_model
    refine okB rows (by
      dsimp only
      rw [gd 2 (by decide) (by decide), bind_ok', modX_b (by decide), bind_ok', bind_ok', rngX_b (by decide) (by omega) (by decide) (by omega), bind_ok']; exact e1) ?_
    refine okB rules (by
      dsimp only
      rw [gd 3 (by decide) (by decide), bind_ok', modX_b (by decide), bind_ok', rngX_b (by decide) (by omega) (by decide) (by omega), bind_ok']; exact e2) ?_
    refine okB aim0 e3 ?_
    refine okB (dr, ((s : Int), ((p : Int), (far, ((s : Int) + (p : Int), (rows, (rules, (aim0, ())))))))) (by
      dsimp only
      rw [gd 4 (by decide) (by decide), bind_ok', modX_b (by decide), bind_ok', bind_ok', if_neg (by simpa using q)]) ?_
    dsimp only
    rw [show (s : Int) + (p : Int) = (w : Int) by omega, e4]
    rw [law_prices_ok g3 g1 (by omega) hw (by omega), bind_ok']
    rw [variables_ok (by omega) (by omega) (by omega), bind_ok']
    have pl := prices_len (aim := aim0) (rows := rows) (s := s) hw (by omega)
    have c1 : catL rows (vars w s) = .ok (rows ++ vars w s) := catL_ok (by rw [vars_len]; omega)
    have c2 : catL (vars rows.length 0) (prices s w aim0 rows) = .ok (vars rows.length 0 ++ prices s w aim0 rows) := catL_ok (by rw [vars_len, pl]; omega)
    rw [hlenL, variables_ok (s := 0) (by omega) (by decide) (by decide)]
    simp only [bind_ok', c1, c2]
    rfl
end LW

/-! P21P: the law. -/
namespace LW
open PySem L2 FL
theorem isi_ll {α : Type} [Rp α] (t : List α) : isiX (HasTy.ty t) "list" = .ok true := by
  show isiX "list" "list" = _
  unfold isiX
  rfl
theorem repS_ok (x : Option Str) {n : Nat} (h : n ≤ 1000) : ((szX [x]).bind fun t => repX t (n : Int)) = .ok (List.replicate n x) := by
  have := size_ge
  rw [szX_b (show [x].length ≤ 1000000 by rw [List.length_cons, List.length_nil]; decide), bind_ok']
  unfold repX
  rw [if_pos ⟨by omega, by omega, by rw [List.length_cons, List.length_nil]; omega⟩]
  congr 1
  unfold repL
  rw [Int.toNat_natCast]
  clear h this
  induction n with
  | zero => rfl
  | succ m ih => rw [List.replicate_succ, List.flatten_cons, ih, List.replicate_succ]; rfl
theorem sd_pick {L : List (Option Str)} (hL : ∀ x ∈ L, Sd x) {dr : List Int} {n : Nat} {at_ m : Int} (hm : (L.length : Int) = m) (h1 : 1 ≤ m) (h : ∀ a : Int, 0 ≤ a → a < (n : Int) → getX dr (at_ + a) = .ok (dv dr (at_ + a))) (hn : n ≤ 1000) (hl : L.length ≤ 1000) :
    ∃ r, ((rngX 0 (n : Int)).bind fun t993 => compX (fun _ => Xc.ok true) (fun a989 => (Xc.bind (szX L) fun t991 => (Xc.bind (Xc.bind (getX dr (at_ + a989)) fun t990 => (modX t990 m)) fun t992 => (getX t991 t992)))) t993) = .ok r ∧ r.length = n ∧ ∀ x ∈ r, Sd x := by
  rw [rngX_b (by decide) (by omega) (by decide) (by omega), bind_ok']
  obtain ⟨r, e, l, p⟩ := comp_ex (f := fun a989 => (Xc.bind (szX L) fun t991 => (Xc.bind (Xc.bind (getX dr (at_ + a989)) fun t990 => (modX t990 m)) fun t992 => (getX t991 t992)))) Sd (l := rangeL 0 (n : Int)) (fun a q => by
    have ma := rangeL_mem q
    have rr := mod_range (a := dv dr (at_ + a)) (m := m) (by omega)
    obtain ⟨v, ev, mv, _⟩ := getX_ex (l := L) (i := (dv dr (at_ + a)).fmod m) rr.1 (by omega)
    exact ⟨v, by rw [szX_b (by omega), bind_ok', h a ma.1 ma.2, bind_ok', modX_b (by omega), bind_ok', ev], hL v mv⟩)
  rw [rangeL_len] at l
  exact ⟨r, e, by omega, p⟩
theorem law_true : ∀ ns : List Int, ns.length ≤ 63 → m_law (ns, ()) = .ok true := by
  intro ns hn
  obtain ⟨dr, e, hl, hd⟩ := draws_ok (c := 160) hn (by decide) (by decide)
  have hdl : dr.length = 160 := by omega
  have gd : ∀ i : Int, 0 ≤ i → i < 160 → getX dr i = .ok (dv dr i) := fun i h0 h1 => getX_dv h0 (by omega)
  have md : ∀ x m : Int, m ≠ 0 → modX x m = .ok (x.fmod m) := fun x m h => modX_b h
  have s0 := mod_range (a := dv dr 0) (m := 3) (by decide)
  have s1 := mod_range (a := dv dr 1) (m := 3) (by decide)
  have d6 := dv_range hd 6
  obtain ⟨s, hs⟩ : ∃ s : Nat, 1 + (dv dr 0).fmod 3 = (s : Int) := ⟨(1 + (dv dr 0).fmod 3).toNat, by omega⟩
  obtain ⟨p, hp⟩ : ∃ p : Nat, 1 + (dv dr 1).fmod 3 = (p : Int) := ⟨(1 + (dv dr 1).fmod 3).toNat, by omega⟩
  have p30 : powX 10 30 = .ok (10 ^ 30) := by rw [powX_b (by decide)]; rfl
  unfold m_law
  refine okB _ e ?_
  refine okB (s : Int) (by rw [← hs]; simp (discharger := decide) only [gd, md, bind_ok']) ?_
  refine okB (p : Int) (by rw [← hp]; simp (discharger := decide) only [gd, md, bind_ok']) ?_
  obtain ⟨far, ef, bf⟩ : ∃ far : Int, (Xc.bind (Xc.bind (Xc.bind (getX dr (5 : Int)) fun t908 => (modX t908 (8 : Int))) fun t909 => (Xc.ok (decide (t909 = (3 : Int))))) fun t917 => (if t917 = true then (Xc.bind (Xc.bind (powX (10 : Int) (30 : Int)) fun t913 => (Xc.bind (getX dr (6 : Int)) fun t914 => (Xc.ok (t913 + t914)))) fun t915 => (Xc.ok (ns, (dr, ((s : Int), ((p : Int), (t915, ()))))))) else (Xc.ok (ns, (dr, ((s : Int), ((p : Int), ((1 : Int), ())))))))) = .ok (ns, (dr, ((s : Int), ((p : Int), (far, ()))))) ∧ Bd 110 far := by
    by_cases q : (dv dr 5).fmod 8 = 3
    · refine ⟨10 ^ 30 + dv dr 6, ?_, ?_⟩
      · rw [gd 5 (by decide) (by decide), bind_ok', md _ _ (by decide), bind_ok', bind_ok', if_pos (decide_eq_true q), p30, bind_ok', gd 6 (by decide) (by decide), bind_ok', bind_ok']
      · exact bd_le (M := 10 ^ 30 + 1000) (by omega) (by omega) (by decide)
    · refine ⟨1, ?_, ⟨by decide⟩⟩
      rw [gd 5 (by decide) (by decide), bind_ok', md _ _ (by decide), bind_ok', bind_ok', if_neg (by simpa using q)]
  refine okB _ ef ?_
  have hw : s + p ≤ 6 := by omega
  obtain ⟨cost, rules, aim, rows, em, ga, gr, gu, gc, h4, h1, hu4⟩ := model_ok hd hdl (w := s + p) rfl hw bf
  refine okB _ em ?_
  have z2 : szX [cost, aim] = .ok [cost, aim] := szX_b (by rw [List.length_cons, List.length_cons, List.length_nil]; decide)
  refine okB (([cost, aim] ++ rules ++ rows).map mk) (by
    show ((((szX [cost, aim]).bind fun t920 => catL t920 rules).bind fun t921 => catL t921 rows).bind _) = _
    rw [z2, bind_ok', catL_ok (by rw [List.length_cons, List.length_cons, List.length_nil]; omega), bind_ok', catL_ok (by rw [List.length_append, List.length_cons, List.length_cons, List.length_nil]; omega), bind_ok']
    refine comp_list (fun _ => rfl) fun r m => ?_
    have : GR 120 2 (s + p) r := by
      rcases List.mem_append.mp m with m | m
      · rcases List.mem_append.mp m with m | m
        · simp only [List.mem_cons, List.not_mem_nil, or_false] at m
          rcases m with q | q <;> rw [q]
          · exact gc
          · exact ga
        · exact gu r m
      · exact gr r m
    exact made_ok this (by decide)) ?_
  have hmade : ([cost, aim] ++ rules ++ rows).map mk = mk cost :: mk aim :: (rules.map mk ++ rows.map mk) := by
    simp only [List.map_append, List.map_cons, List.map_nil, List.cons_append, List.nil_append]
  rw [hmade]
  dsimp only
  have last : (2 : Int) + ((HasLen.len (mdl s (s + p) cost rules aim rows).v.2.1 : Nat) : Int) = ((2 + rules.length : Nat) : Int) := by
    show (2 : Int) + ((rules.length : Nat) : Int) = _
    omega
  rw [last]
  have cu1 : cutL (mk cost :: mk aim :: (rules.map mk ++ rows.map mk)) (some ((2 + rules.length : Nat) : Int)) none = rows.map mk := by
    rw [cutL_drop _ (by omega), Int.toNat_natCast, show mk cost :: mk aim :: (rules.map mk ++ rows.map mk) = (mk cost :: mk aim :: rules.map mk) ++ rows.map mk from rfl, List.drop_left' (by rw [List.length_cons, List.length_cons, List.length_map]; omega)]
  have cu2 : cutL (mk cost :: mk aim :: (rules.map mk ++ rows.map mk)) (some (2 : Int)) (some ((2 + rules.length : Nat) : Int)) = rules.map mk := by
    rw [cutL_mid _ (by decide) (by omega), Int.toNat_natCast, show mk cost :: mk aim :: (rules.map mk ++ rows.map mk) = (mk cost :: mk aim :: rules.map mk) ++ rows.map mk from rfl, List.take_left' (by rw [List.length_cons, List.length_cons, List.length_map]; omega)]
    rfl
  have tk := task_ok (aim := aim) (cost := cost) (rows := rows) (rules := rules) (w := s + p) (s := s) (p := p) ga.size gc.size (fun r m => (gr r m).size) (fun r m => (gu r m).size) h1 h4 hu4 (by omega) (by omega) (by omega) (by omega) rfl
  refine okB (mkTask s p cost rules aim rows) (by
    rw [show getX (mk cost :: mk aim :: (rules.map mk ++ rows.map mk)) (0 : Int) = .ok (mk cost) from getX_b (by decide) rfl, show getX (mk cost :: mk aim :: (rules.map mk ++ rows.map mk)) (1 : Int) = .ok (mk aim) from getX_b (by decide) rfl, cu1, cu2]
    simp only [bind_ok']
    exact tk) ?_
  have pf := pair_functions_ok (cost := cost) (rules := rules) (p := p) ga gr h4 hw (s := s) (by omega) rfl
  refine okB _ pf ?_
  have fl : (firsts s (s + p) rows).length = rows.length + p := by unfold firsts; rw [List.length_append, vars_len]; omega
  have sl : (seconds s (s + p) aim rows).length = rows.length + p := by unfold seconds; rw [List.length_append, vars_len, prices_len hw (by omega)]; omega
  have fg : ∀ r ∈ firsts s (s + p) rows, GR 140 10 (s + p) r := fun r m => by
    rcases List.mem_append.mp m with m | m
    · exact (gr r m).mono (by decide) (by decide)
    · exact (vars_gr r m).mono (by decide) (by decide)
  have sg : ∀ r ∈ seconds s (s + p) aim rows, GR 140 10 rows.length r := fun r m => by
    rcases List.mem_append.mp m with m | m
    · exact (vars_gr r m).mono (by decide) (by decide)
    · exact prices_gr ga gr h4 hw (by omega) r m
  have vc : ((HasLen.len (mdl s (s + p) cost rules aim rows).v.2.2.2.2.2.1 : Nat) : Int) = ((rows.length + p : Nat) : Int) := by
    show (((firsts s (s + p) rows).length : Nat) : Int) = _
    rw [fl]
  skip
  rw [vc]
  have lz : (((firsts s (s + p) rows).map mk).zip ((seconds s (s + p) aim rows).map mk)).length = rows.length + p := by rw [List.length_zip, List.length_map, List.length_map, fl, sl, Nat.min_self]
  refine okB false (by rw [isi_ll, bind_ok', bind_ok', Bool.not_true, if_neg (by decide), hlenL, lz, decide_eq_true rfl, Bool.not_true]) ?_
  rw [if_neg (by decide), rngX_b (by decide) (by omega) (by decide) (by omega), bind_ok']
  refine forK_id (fun a m => ?_) ?_
  · have ma := rangeL_mem m
    have f1 := getD_mem (l := firsts s (s + p) rows) (i := a.toNat) (d := []) (by omega)
    have f2 := getD_mem (l := seconds s (s + p) aim rows) (i := a.toNat) (d := []) (by omega)
    have gz : getX (((firsts s (s + p) rows).map mk).zip ((seconds s (s + p) aim rows).map mk)) a = .ok (mk ((firsts s (s + p) rows).getD a.toNat []), mk ((seconds s (s + p) aim rows).getD a.toNat [])) := by
      refine getX_b ma.1 (List.getElem?_zip_eq_some.mpr ⟨?_, ?_⟩)
      · rw [List.getElem?_map, f1.2]; rfl
      · rw [List.getElem?_map, f2.2]; rfl
    have g1 : getX (mdl s (s + p) cost rules aim rows).v.2.2.2.2.2.1 a = .ok ((firsts s (s + p) rows).getD a.toNat []) := getX_b ma.1 f1.2
    have g2 : getX (mdl s (s + p) cost rules aim rows).v.2.2.2.2.2.2.1 a = .ok ((seconds s (s + p) aim rows).getD a.toNat []) := getX_b ma.1 f2.2
    have e22 : decide ((((2 : Nat) : Int)) = 2) = true := by decide
    have m1 := same_mk (fg _ f1.1) (by decide) (by decide) (by omega)
    have m2 := same_mk (sg _ f2.1) (by decide) (by decide) (by omega)
    simp only [gz, g1, g2, bind_ok', isi_pt, hlenP, Bool.not_true, Bool.false_eq_true, if_false, m1, m2, e22]
  dsimp only
  obtain ⟨sides, es, ls, ps⟩ := sd_pick (L := [none, some ("task" : Str), some ("price" : Str)]) (by intro x m; simp only [List.mem_cons, List.not_mem_nil, or_false] at m; exact m) (dr := dr) (n := rows.length + p) (at_ := 90) (m := 3) rfl (by decide) (fun a h0 h1 => gd _ (by omega) (by omega)) (by omega) (by rw [List.length_cons, List.length_cons, List.length_cons, List.length_nil]; decide)
  refine okB sides es ?_
  obtain ⟨more, eo, lo, po⟩ := sd_pick (L := [none, some ("task" : Str), some ("price" : Str), some ("price" : Str), some ("task" : Str)]) (by intro x m; simp only [List.mem_cons, List.not_mem_nil, or_false] at m; rcases m with q | q | q | q | q <;> rw [q]; exact .inl rfl; exact .inr (.inl rfl); exact .inr (.inr rfl); exact .inr (.inr rfl); exact .inr (.inl rfl)) (dr := dr) (n := rows.length + p) (at_ := 98) (m := 5) rfl (by decide) (fun a h0 h1 => gd _ (by omega) (by omega)) (by omega) (by simp only [List.length_cons, List.length_nil]; decide)
  refine okB more eo ?_
  have rn := repS_ok (none : Option Str) (n := rows.length + p) (by omega)
  have rt := repS_ok (some ("task" : Str)) (n := rows.length + p) (by omega)
  have rp := repS_ok (some ("price" : Str)) (n := rows.length + p) (by omega)
  have z5 : ∀ a b c d e : List (Option Str), szX [a, b, c, d, e] = .ok [a, b, c, d, e] := fun a b c d e => szX_b (by simp only [List.length_cons, List.length_nil]; decide)
  rw [rn, bind_ok', rt, bind_ok', rp, bind_ok', bind_ok', bind_ok', bind_ok', bind_ok', bind_ok', z5, bind_ok']
  have all5 : ∀ y ∈ [List.replicate (rows.length + p) (none : Option Str), sides, more, List.replicate (rows.length + p) (some ("task" : Str)), List.replicate (rows.length + p) (some ("price" : Str))], (∀ x ∈ y, Sd x) ∧ y.length = rows.length + p := fun y m => by
    simp only [List.mem_cons, List.not_mem_nil, or_false] at m
    rcases m with q | q | q | q | q <;> rw [q]
    · exact ⟨fun x z => .inl (List.mem_replicate.mp z).2, List.length_replicate⟩
    · exact ⟨ps, ls⟩
    · exact ⟨po, lo⟩
    · exact ⟨fun x z => .inr (.inl (List.mem_replicate.mp z).2), List.length_replicate⟩
    · exact ⟨fun x z => .inr (.inr (List.mem_replicate.mp z).2), List.length_replicate⟩
  refine forK_id (fun y m => ?_) ?_
  · obtain ⟨y1, y2⟩ := all5 y m
    have nk := nodes_ok ga gr gu gc h4 h1 hu4 hw (by omega) rfl y1 y2
    dsimp only
    rw [nk, bind_ok', bind_ok', Bool.not_true, if_neg (by decide)]
  dsimp only
  have cl : cutL dr (some 106) (some 160) = (dr.take 160).drop 106 := cutL_mid _ (by decide) (by decide)
  have cll : ((dr.take 160).drop 106).length = 54 := by rw [List.length_drop, List.length_take]; omega
  have cd : Dr ((dr.take 160).drop 106) := fun x q => hd x (List.mem_of_mem_take (List.mem_of_mem_drop q))
  rw [cl]
  exact kinds_ok ga gr gu gc h4 h1 hu4 hw (by omega) rfl (by omega) cd cll
end LW

namespace LW
open PySem L2 FL
def dA (x : Str) (i : Nat) : He5.DefA := ⟨fun K => He.ga K x, x, x, defArgs (top i), defBody (top i), defScope (top i), [], []⟩
def dM (C m qn : Str) (st : Stmt) (dv : List He.Dv) : He5.DefA := ⟨fun K => He.ma K (He.ga K C) m, m, qn, defArgs st, defBody st, defScope st, dv, []⟩
def dS (C m qn : Str) (st : Stmt) : He5.DefA := ⟨fun K => He5.wf K (He.ga K C) "staticmethod" m, m, qn, defArgs st, defBody st, defScope st, [], []⟩
def fnL : List He5.DefA := [dA "ratio" 7, dA "common_divisor" 9, dA "point" 10, dA "point_of" 11, dM "Affine" "__init__" "Affine.__init__" mt_Affine___init__ [.int 1], dS "Affine" "variable" "Affine.variable" mt_Affine_variable, dS "Affine" "from_numbers" "Affine.from_numbers" mt_Affine_from_numbers, dM "Affine" "__sub__" "Affine.__sub__" mt_Affine___sub__ [], dM "Affine" "__neg__" "Affine.__neg__" mt_Affine___neg__ [], dM "Affine" "scaled" "Affine.scaled" mt_Affine_scaled [], dM "Affine" "placed" "Affine.placed" mt_Affine_placed [], dM "Affine" "head" "Affine.head" mt_Affine_head [], dA "weight_rows" 15, dA "value_of" 16, dM "Plan" "__init__" "Plan.__init__" mt_Plan___init__ [], dM "Pairs" "__init__" "Pairs.__init__" mt_Pairs___init__ [], dM "Pairs" "plans_at" "Pairs.plans_at" mt_Pairs_plans_at [], dA "pair_functions" 21, dA "node_plans" 22, dM "Piece" "__init__" "Piece.__init__" mt_Piece___init__ [], dA "_answer_plan" 26, dA "kind_plan" 27, dA "piece_plan" 28, dA "_check" 30, dA "_all_fit" 31, dM "Task" "__init__" "Task.__init__" mt_Task___init__ [], dA "_law_draws" 34, dA "_law_gcd" 35, dA "_law_lowest" 36, dA "_law_is_integer" 37, dA "_law_same" 38, dA "_law_tuple_same" 39, dA "_law_prices" 40, dA "_law_function" 41, dA "_law_made" 42, dA "_law_variables" 43, dA "_law_turned" 44, dA "_law_planned" 45, dA "_law_nodes" 46, dA "_law_priced" 47, dA "_law_last" 48, dA "_law_kinds" 49, dA "_law_model" 50, dA "law" 51]
def faL : List He.Fa := [.glo "ratio", .glo "common_divisor", .glo "point", .glo "point_of", .glo "weight_rows", .glo "value_of", .glo "pair_functions", .glo "node_plans", .glo "_answer_plan", .glo "kind_plan", .glo "piece_plan", .glo "_check", .glo "_all_fit", .glo "_law_draws", .glo "_law_gcd", .glo "_law_lowest", .glo "_law_is_integer", .glo "_law_same", .glo "_law_tuple_same", .glo "_law_prices", .glo "_law_function", .glo "_law_made", .glo "_law_variables", .glo "_law_turned", .glo "_law_planned", .glo "_law_nodes", .glo "_law_priced", .glo "_law_last", .glo "_law_kinds", .glo "_law_model", .glo "law", .glo "Affine", .cls "Affine", .mkr "Affine", .glo "Pairs", .cls "Pairs", .mkr "Pairs", .glo "Piece", .cls "Piece", .mkr "Piece", .glo "Plan", .cls "Plan", .mkr "Plan", .glo "Task", .cls "Task", .mkr "Task", .noat "Affine" "bottom", .noat "Affine" "coefs", .noat "Affine" "constant", .noat "Affine" "size", .noat "Pairs" "firsts", .noat "Pairs" "prices", .noat "Pairs" "seconds", .noat "Pairs" "task", .noat "Piece" "inside", .noat "Piece" "rows", .noat "Piece" "value", .noat "Piece" "weights", .noat "Plan" "cost", .noat "Plan" "rows", .noat "Plan" "size", .noat "Task" "aim", .noat "Task" "cost", .noat "Task" "replies", .noat "Task" "rows", .noat "Task" "rules", .noat "Task" "size", .meth "Affine" "__neg__", .meth "Affine" "__sub__", .meth "Affine" "head", .meth "Affine" "placed", .meth "Affine" "scaled", .meth "Pairs" "plans_at", .free "abs", .free "all", .free "any", .free "bool", .free "int", .free "isinstance", .free "len", .free "list", .free "range", .free "tuple", .free "zip", .glo "BadNumber", .exc "BadNumber"]
def exL (K : PySem.W.Frag) : Bool := (He.eqO (PySem.W.nsIn K mainGlobals "gcd") (some (some (.builtin "math.gcd")))) && ((He.eqO (PySem.W.nsIn K mainGlobals "lcm") (some (some (.builtin "math.lcm")))) && ((isiB K "Affine") && ((isiB K "Plan") && ((PySem.W.selfFirst K (He.ga K "Affine")) && ((decide (PySem.W.kitOne K (.ref (He.ga K "Affine")) (.ref (He.ga K "Affine")) = some true)) && ((decide (PySem.W.kitOne K (.ref (He.ga K "Plan")) (.ref (He.ga K "Plan")) = some true)) && ((readB K "Affine") && ((readB K "Plan") && ((readB K "Task") && ((conB K "Plan" "ROWS" 60) && ((conB K "Plan" "SIZE" 20) && ((conB K "Task" "REPLIES" 3) && ((conB K "Task" "ROWS" 4) && ((conB K "Task" "RULES" 4) && ((conB K "Task" "SIZE" 3) && ((He5.wrapB K (He.ga K "Affine") "staticmethod" "staticmethod.__get__" "from_numbers") && ((He5.wrapB K (He.ga K "Affine") "staticmethod" "staticmethod.__get__" "variable") && (true))))))))))))))))))
abbrev RR : PySem.W.OpenRow := PySem.W.OpenLaw.row PySem.Challenge.rw_leadersets_k21_node_plans_told
abbrev hkL : PySem.W.Hook := hookK 5 faL fnL exL
def obL (s : PySem.W.SharedT) : He.AlD × Bool := obsK 5 faL fnL exL (HandSHeadRun.getT s)
theorem obL_eq (s : PySem.W.SharedT) : obL s = hkL.obs s.abs := obsK_eq (HandSHeadRun.getT_eq s)
def looseL : List PySem.Str := ((["_wall", "__name__", "LeaderError", "BadNumber", "BadShape", "ratio", "common_divisor", "point", "point_of", "Affine", "weight_rows", "value_of", "Plan", "Pairs", "pair_functions", "node_plans", "Piece", "_answer_plan", "kind_plan", "piece_plan", "_check", "_all_fit", "Task", "_law_draws", "_law_gcd", "_law_lowest", "_law_is_integer", "_law_same", "_law_tuple_same", "_law_prices", "_law_function", "_law_made", "_law_variables", "_law_turned", "_law_planned", "_law_nodes", "_law_priced", "_law_last", "_law_kinds", "_law_model"] : List String).map PySem.Str.ofString)
theorem runL (w : World) : HandSHeadRun.RunEqI RR (PySem.W.view RR.prog [0, 51]) hkL obL 6000 looseL w := by
  unfold HandSHeadRun.RunEqI
  kernel_rfl
theorem t0L {K : PySem.W.Frag} {h : Heap} {mg : Str → Option Value} (X : K.In h) (G : h.Ns mainGlobals mg) (c : He5.SaysA faL fnL K) (ce : exL K = true) : T0 K mg where
  f_abs := He.free_ok X G (c.fact 73 (f := .free "abs") rfl)
  f_all := He.free_ok X G (c.fact 74 (f := .free "all") rfl)
  f_any := He.free_ok X G (c.fact 75 (f := .free "any") rfl)
  f_bool := He.free_ok X G (c.fact 76 (f := .free "bool") rfl)
  f_int := He.free_ok X G (c.fact 77 (f := .free "int") rfl)
  f_isinstance := He.free_ok X G (c.fact 78 (f := .free "isinstance") rfl)
  f_len := He.free_ok X G (c.fact 79 (f := .free "len") rfl)
  f_list := He.free_ok X G (c.fact 80 (f := .free "list") rfl)
  f_range := He.free_ok X G (c.fact 81 (f := .free "range") rfl)
  f_tuple := He.free_ok X G (c.fact 82 (f := .free "tuple") rfl)
  f_zip := He.free_ok X G (c.fact 83 (f := .free "zip") rfl)
  g_Affine := He.glo_ok X G (c.fact 31 (f := .glo "Affine") rfl)
  g_Plan := He.glo_ok X G (c.fact 40 (f := .glo "Plan") rfl)
  g_Task := He.glo_ok X G (c.fact 43 (f := .glo "Task") rfl)
  x_BadNumber := ⟨(He.exc_ok (c.fact 85 (f := .exc "BadNumber") rfl)).1, (He.exc_ok (c.fact 85 (f := .exc "BadNumber") rfl)).2.1, (He.exc_ok (c.fact 85 (f := .exc "BadNumber") rfl)).2.2.1, (He.exc_ok (c.fact 85 (f := .exc "BadNumber") rfl)).2.2.2, He.glo_ok X G (c.fact 84 (f := .glo "BadNumber") rfl)⟩
  cl_Affine := He.cls_ok (c.fact 32 (f := .cls "Affine") rfl)
  cl_Pairs := He.cls_ok (c.fact 35 (f := .cls "Pairs") rfl)
  cl_Piece := He.cls_ok (c.fact 38 (f := .cls "Piece") rfl)
  cl_Plan := He.cls_ok (c.fact 41 (f := .cls "Plan") rfl)
  cl_Task := He.cls_ok (c.fact 44 (f := .cls "Task") rfl)
  na_Affine_bottom := He.noat_ok (c.fact 46 (f := .noat "Affine" "bottom") rfl)
  na_Affine_coefs := He.noat_ok (c.fact 47 (f := .noat "Affine" "coefs") rfl)
  na_Affine_constant := He.noat_ok (c.fact 48 (f := .noat "Affine" "constant") rfl)
  na_Affine_size := He.noat_ok (c.fact 49 (f := .noat "Affine" "size") rfl)
  na_Pairs_firsts := He.noat_ok (c.fact 50 (f := .noat "Pairs" "firsts") rfl)
  na_Pairs_prices := He.noat_ok (c.fact 51 (f := .noat "Pairs" "prices") rfl)
  na_Pairs_seconds := He.noat_ok (c.fact 52 (f := .noat "Pairs" "seconds") rfl)
  na_Pairs_task := He.noat_ok (c.fact 53 (f := .noat "Pairs" "task") rfl)
  na_Piece_inside := He.noat_ok (c.fact 54 (f := .noat "Piece" "inside") rfl)
  na_Piece_rows := He.noat_ok (c.fact 55 (f := .noat "Piece" "rows") rfl)
  na_Piece_value := He.noat_ok (c.fact 56 (f := .noat "Piece" "value") rfl)
  na_Piece_weights := He.noat_ok (c.fact 57 (f := .noat "Piece" "weights") rfl)
  na_Plan_cost := He.noat_ok (c.fact 58 (f := .noat "Plan" "cost") rfl)
  na_Plan_rows := He.noat_ok (c.fact 59 (f := .noat "Plan" "rows") rfl)
  na_Plan_size := He.noat_ok (c.fact 60 (f := .noat "Plan" "size") rfl)
  na_Task_aim := He.noat_ok (c.fact 61 (f := .noat "Task" "aim") rfl)
  na_Task_cost := He.noat_ok (c.fact 62 (f := .noat "Task" "cost") rfl)
  na_Task_replies := He.noat_ok (c.fact 63 (f := .noat "Task" "replies") rfl)
  na_Task_rows := He.noat_ok (c.fact 64 (f := .noat "Task" "rows") rfl)
  na_Task_rules := He.noat_ok (c.fact 65 (f := .noat "Task" "rules") rfl)
  na_Task_size := He.noat_ok (c.fact 66 (f := .noat "Task" "size") rfl)
  me_Affine___neg__ := He.meth_ok (c.fact 67 (f := .meth "Affine" "__neg__") rfl)
  me_Affine___sub__ := He.meth_ok (c.fact 68 (f := .meth "Affine" "__sub__") rfl)
  me_Affine_head := He.meth_ok (c.fact 69 (f := .meth "Affine" "head") rfl)
  me_Affine_placed := He.meth_ok (c.fact 70 (f := .meth "Affine" "placed") rfl)
  me_Affine_scaled := He.meth_ok (c.fact 71 (f := .meth "Affine" "scaled") rfl)
  me_Pairs_plans_at := He.meth_ok (c.fact 72 (f := .meth "Pairs" "plans_at") rfl)
  gcd := mg_fact X G (He.ba ce).1
  lcm := mg_fact X G (He.ba (He.ba ce).2).1
  isi_Affine := isiB_ok (He.cls_ok (c.fact 32 (f := .cls "Affine") rfl)) (He.ba (He.ba (He.ba ce).2).2).1
  isi_Plan := isiB_ok (He.cls_ok (c.fact 41 (f := .cls "Plan") rfl)) (He.ba (He.ba (He.ba (He.ba ce).2).2).2).1
  sf_Affine := (He.ba (He.ba (He.ba (He.ba (He.ba ce).2).2).2).2).1
  ki_Affine_Affine := of_decide_eq_true (He.ba (He.ba (He.ba (He.ba (He.ba (He.ba ce).2).2).2).2).2).1
  ki_Plan_Plan := of_decide_eq_true (He.ba (He.ba (He.ba (He.ba (He.ba (He.ba (He.ba ce).2).2).2).2).2).2).1
  rd_Affine := readB_ok (He.ba (He.ba (He.ba (He.ba (He.ba (He.ba (He.ba (He.ba ce).2).2).2).2).2).2).2).1
  rd_Plan := readB_ok (He.ba (He.ba (He.ba (He.ba (He.ba (He.ba (He.ba (He.ba (He.ba ce).2).2).2).2).2).2).2).2).1
  rd_Task := readB_ok (He.ba (He.ba (He.ba (He.ba (He.ba (He.ba (He.ba (He.ba (He.ba (He.ba ce).2).2).2).2).2).2).2).2).2).1
  cc_Plan_ROWS := conB_ok (He.ba (He.ba (He.ba (He.ba (He.ba (He.ba (He.ba (He.ba (He.ba (He.ba (He.ba ce).2).2).2).2).2).2).2).2).2).2).1
  cc_Plan_SIZE := conB_ok (He.ba (He.ba (He.ba (He.ba (He.ba (He.ba (He.ba (He.ba (He.ba (He.ba (He.ba (He.ba ce).2).2).2).2).2).2).2).2).2).2).2).1
  cc_Task_REPLIES := conB_ok (He.ba (He.ba (He.ba (He.ba (He.ba (He.ba (He.ba (He.ba (He.ba (He.ba (He.ba (He.ba (He.ba ce).2).2).2).2).2).2).2).2).2).2).2).2).1
  cc_Task_ROWS := conB_ok (He.ba (He.ba (He.ba (He.ba (He.ba (He.ba (He.ba (He.ba (He.ba (He.ba (He.ba (He.ba (He.ba (He.ba ce).2).2).2).2).2).2).2).2).2).2).2).2).2).1
  cc_Task_RULES := conB_ok (He.ba (He.ba (He.ba (He.ba (He.ba (He.ba (He.ba (He.ba (He.ba (He.ba (He.ba (He.ba (He.ba (He.ba (He.ba ce).2).2).2).2).2).2).2).2).2).2).2).2).2).2).1
  cc_Task_SIZE := conB_ok (He.ba (He.ba (He.ba (He.ba (He.ba (He.ba (He.ba (He.ba (He.ba (He.ba (He.ba (He.ba (He.ba (He.ba (He.ba (He.ba ce).2).2).2).2).2).2).2).2).2).2).2).2).2).2).2).1
  wr_Affine_from_numbers := (He.ba (He.ba (He.ba (He.ba (He.ba (He.ba (He.ba (He.ba (He.ba (He.ba (He.ba (He.ba (He.ba (He.ba (He.ba (He.ba (He.ba ce).2).2).2).2).2).2).2).2).2).2).2).2).2).2).2).2).1
  wr_Affine_variable := (He.ba (He.ba (He.ba (He.ba (He.ba (He.ba (He.ba (He.ba (He.ba (He.ba (He.ba (He.ba (He.ba (He.ba (He.ba (He.ba (He.ba (He.ba ce).2).2).2).2).2).2).2).2).2).2).2).2).2).2).2).2).2).1
theorem factsL {P : Program} {w : World} {K : PySem.W.Frag} {h : Heap} {mg : Str → Option Value} {f : Addr} (X : K.In h) (G : h.Ns mainGlobals mg) (hfa : mg ("law" : Str) = some (.ref f)) (c : He5.SaysA faL fnL K) (ce : exL K = true) :
    ∃ fd : FuncData, (∀ (s : Shared) (v : Value), BindsTo s fd ⟨[v], []⟩ [(("script" : Str), v)]) ∧ ∀ base : Heap, K.In base → base.Ns mainGlobals mg → FnOk P w K mg base (L2.CX P w) 10 f fd ["script"] (spF K (rtF Bool) m_law) := by
  have T := t0L X G c ce
  obtain ⟨fd, F⟩ := c.def_ 43 (d := dA "law" 51) rfl
  have e := hfa.symm.trans (He.glo_ok X G (c.fact 30 (f := .glo "law") rfl))
  cases e
  have b := FunD.bindsA (ps := ["script"]) F fun _ _ _ _ _ _ us hl => match us, hl with | [_], _ => rfl
  refine ⟨fd, fun s v => b s [v] rfl, fun base _ _ => ?_⟩
  obtain ⟨fd_ratio, F_ratio⟩ := c.def_ 0 (d := dA "ratio" 7) rfl
  have D_ratio := dk_of F_ratio (He.glo_ok X G (c.fact 0 (f := .glo "ratio") rfl)) (F_ratio.bindsN fun _ _ _ _ _ _ us hl => match us, hl with | [_, _], _ => rfl) (d_ratio (P := P) (w := w) (base := base) F_ratio T)
  obtain ⟨fd_common_divisor_l, F_common_divisor_l⟩ := c.def_ 1 (d := dA "common_divisor" 9) rfl
  have D_common_divisor_l := dk_of F_common_divisor_l (He.glo_ok X G (c.fact 1 (f := .glo "common_divisor") rfl)) (F_common_divisor_l.bindsN fun _ _ _ _ _ _ us hl => match us, hl with | [_, _], _ => rfl) (d_common_divisor_l (P := P) (w := w) (base := base) F_common_divisor_l T)
  obtain ⟨fd_common_divisor_u, F_common_divisor_u⟩ := c.def_ 1 (d := dA "common_divisor" 9) rfl
  have D_common_divisor_u := dk_of F_common_divisor_u (He.glo_ok X G (c.fact 1 (f := .glo "common_divisor") rfl)) (F_common_divisor_u.bindsN fun _ _ _ _ _ _ us hl => match us, hl with | [_, _], _ => rfl) (d_common_divisor_u (P := P) (w := w) (base := base) F_common_divisor_u T)
  obtain ⟨fd_point_l, F_point_l⟩ := c.def_ 2 (d := dA "point" 10) rfl
  have D_point_l := dk_of F_point_l (He.glo_ok X G (c.fact 2 (f := .glo "point") rfl)) (F_point_l.bindsN fun _ _ _ _ _ _ us hl => match us, hl with | [_, _], _ => rfl) (d_point_l (P := P) (w := w) (base := base) F_point_l T D_common_divisor_l)
  obtain ⟨fd_point_u, F_point_u⟩ := c.def_ 2 (d := dA "point" 10) rfl
  have D_point_u := dk_of F_point_u (He.glo_ok X G (c.fact 2 (f := .glo "point") rfl)) (F_point_u.bindsN fun _ _ _ _ _ _ us hl => match us, hl with | [_, _], _ => rfl) (d_point_u (P := P) (w := w) (base := base) F_point_u T D_common_divisor_u)
  obtain ⟨fd_point_of, F_point_of⟩ := c.def_ 3 (d := dA "point_of" 11) rfl
  have D_point_of := dk_of F_point_of (He.glo_ok X G (c.fact 3 (f := .glo "point_of") rfl)) (F_point_of.bindsN fun _ _ _ _ _ _ us hl => match us, hl with | [_], _ => rfl) (d_point_of (P := P) (w := w) (base := base) F_point_of T D_point_l)
  obtain ⟨fd_Affine___init___l, F_Affine___init___l⟩ := c.def_ 4 (d := dM "Affine" "__init__" "Affine.__init__" mt_Affine___init__ [.int 1]) rfl
  have D_Affine___init___l := di_of (C := "Affine") (dvs := []) (He.mkr_ok (c.fact 33 (f := .mkr "Affine") rfl)) (He.glo_ok X G (c.fact 31 (f := .glo "Affine") rfl)) (F_Affine___init___l.binds1 4 1 (List.cons_ne_nil _ _) rfl fun _ _ _ _ _ _ _ us its hu hi => match us, hu, its, hi with | [_, _, _, _], _, [_], _ => ⟨_, rfl, rfl⟩) (d_Affine___init___l (P := P) (w := w) (base := base) F_Affine___init___l T D_common_divisor_l)
  have D_Affine___init___l_D1 := di_of (C := "Affine") (dvs := [.int 1]) (He.mkr_ok (c.fact 33 (f := .mkr "Affine") rfl)) (He.glo_ok X G (c.fact 31 (f := .glo "Affine") rfl)) (F_Affine___init___l.binds1 3 0 (List.cons_ne_nil _ _) rfl fun _ _ _ _ _ _ _ us its hu hi => match us, hu, its, hi with | [_, _, _], _, [_], _ => ⟨_, rfl, rfl⟩) (d_Affine___init___l (P := P) (w := w) (base := base) F_Affine___init___l T D_common_divisor_l)
  obtain ⟨fd_Affine___init___u, F_Affine___init___u⟩ := c.def_ 4 (d := dM "Affine" "__init__" "Affine.__init__" mt_Affine___init__ [.int 1]) rfl
  have D_Affine___init___u := di_of (C := "Affine") (dvs := []) (He.mkr_ok (c.fact 33 (f := .mkr "Affine") rfl)) (He.glo_ok X G (c.fact 31 (f := .glo "Affine") rfl)) (F_Affine___init___u.binds1 4 1 (List.cons_ne_nil _ _) rfl fun _ _ _ _ _ _ _ us its hu hi => match us, hu, its, hi with | [_, _, _, _], _, [_], _ => ⟨_, rfl, rfl⟩) (d_Affine___init___u (P := P) (w := w) (base := base) F_Affine___init___u T D_common_divisor_u)
  have D_Affine___init___u_D1 := di_of (C := "Affine") (dvs := [.int 1]) (He.mkr_ok (c.fact 33 (f := .mkr "Affine") rfl)) (He.glo_ok X G (c.fact 31 (f := .glo "Affine") rfl)) (F_Affine___init___u.binds1 3 0 (List.cons_ne_nil _ _) rfl fun _ _ _ _ _ _ _ us its hu hi => match us, hu, its, hi with | [_, _, _], _, [_], _ => ⟨_, rfl, rfl⟩) (d_Affine___init___u (P := P) (w := w) (base := base) F_Affine___init___u T D_common_divisor_u)
  obtain ⟨fd_Affine_variable, F_Affine_variable⟩ := c.def_ 5 (d := dS "Affine" "variable" "Affine.variable" mt_Affine_variable) rfl
  have D_Affine_variable := ds_of (C := "Affine") (m := "variable") F_Affine_variable T.rd_Affine T.wr_Affine_variable (He.glo_ok X G (c.fact 31 (f := .glo "Affine") rfl)) (F_Affine_variable.bindsN fun _ _ _ _ _ _ us hl => match us, hl with | [_, _], _ => rfl) (d_Affine_variable (P := P) (w := w) (base := base) F_Affine_variable T D_Affine___init___l_D1)
  obtain ⟨fd_Affine_from_numbers, F_Affine_from_numbers⟩ := c.def_ 6 (d := dS "Affine" "from_numbers" "Affine.from_numbers" mt_Affine_from_numbers) rfl
  have D_Affine_from_numbers := ds_of (C := "Affine") (m := "from_numbers") F_Affine_from_numbers T.rd_Affine T.wr_Affine_from_numbers (He.glo_ok X G (c.fact 31 (f := .glo "Affine") rfl)) (F_Affine_from_numbers.bindsN fun _ _ _ _ _ _ us hl => match us, hl with | [_, _], _ => rfl) (d_Affine_from_numbers (P := P) (w := w) (base := base) F_Affine_from_numbers T D_point_of D_Affine___init___u)
  obtain ⟨fd_Affine___sub__, F_Affine___sub__⟩ := c.def_ 7 (d := dM "Affine" "__sub__" "Affine.__sub__" mt_Affine___sub__ []) rfl
  have D_Affine___sub__ := dm_of (C := "Affine") (m := "__sub__") T.me_Affine___sub__ (F_Affine___sub__.bindsN fun _ _ _ _ _ _ us hl => match us, hl with | [_, _], _ => rfl) (d_Affine___sub__ (P := P) (w := w) (base := base) F_Affine___sub__ T D_Affine___init___l)
  obtain ⟨fd_Affine___neg__, F_Affine___neg__⟩ := c.def_ 8 (d := dM "Affine" "__neg__" "Affine.__neg__" mt_Affine___neg__ []) rfl
  have D_Affine___neg__ := dm_of (C := "Affine") (m := "__neg__") T.me_Affine___neg__ (F_Affine___neg__.bindsN fun _ _ _ _ _ _ us hl => match us, hl with | [_], _ => rfl) (d_Affine___neg__ (P := P) (w := w) (base := base) F_Affine___neg__ T D_Affine___init___l)
  obtain ⟨fd_Affine_scaled, F_Affine_scaled⟩ := c.def_ 9 (d := dM "Affine" "scaled" "Affine.scaled" mt_Affine_scaled []) rfl
  have D_Affine_scaled := dm_of (C := "Affine") (m := "scaled") T.me_Affine_scaled (F_Affine_scaled.bindsN fun _ _ _ _ _ _ us hl => match us, hl with | [_, _], _ => rfl) (d_Affine_scaled (P := P) (w := w) (base := base) F_Affine_scaled T D_Affine___init___l)
  obtain ⟨fd_Affine_placed, F_Affine_placed⟩ := c.def_ 10 (d := dM "Affine" "placed" "Affine.placed" mt_Affine_placed []) rfl
  have D_Affine_placed := dm_of (C := "Affine") (m := "placed") T.me_Affine_placed (F_Affine_placed.bindsN fun _ _ _ _ _ _ us hl => match us, hl with | [_, _, _], _ => rfl) (d_Affine_placed (P := P) (w := w) (base := base) F_Affine_placed T D_Affine___init___l)
  obtain ⟨fd_Affine_head, F_Affine_head⟩ := c.def_ 11 (d := dM "Affine" "head" "Affine.head" mt_Affine_head []) rfl
  have D_Affine_head := dm_of (C := "Affine") (m := "head") T.me_Affine_head (F_Affine_head.bindsN fun _ _ _ _ _ _ us hl => match us, hl with | [_, _], _ => rfl) (d_Affine_head (P := P) (w := w) (base := base) F_Affine_head T D_Affine___init___u)
  obtain ⟨fd_weight_rows, F_weight_rows⟩ := c.def_ 12 (d := dA "weight_rows" 15) rfl
  have D_weight_rows := dk_of F_weight_rows (He.glo_ok X G (c.fact 4 (f := .glo "weight_rows") rfl)) (F_weight_rows.bindsN fun _ _ _ _ _ _ us hl => match us, hl with | [_], _ => rfl) (d_weight_rows (P := P) (w := w) (base := base) F_weight_rows T D_Affine_from_numbers)
  obtain ⟨fd_value_of, F_value_of⟩ := c.def_ 13 (d := dA "value_of" 16) rfl
  have D_value_of := dk_of F_value_of (He.glo_ok X G (c.fact 5 (f := .glo "value_of") rfl)) (F_value_of.bindsN fun _ _ _ _ _ _ us hl => match us, hl with | [_, _], _ => rfl) (d_value_of (P := P) (w := w) (base := base) F_value_of T D_Affine_head D_Affine_scaled D_Affine___sub__)
  obtain ⟨fd_Plan___init__, F_Plan___init__⟩ := c.def_ 14 (d := dM "Plan" "__init__" "Plan.__init__" mt_Plan___init__ []) rfl
  have D_Plan___init__ := di_of (C := "Plan") (dvs := []) (He.mkr_ok (c.fact 42 (f := .mkr "Plan") rfl)) (He.glo_ok X G (c.fact 40 (f := .glo "Plan") rfl)) ⟨[], .nil, F_Plan___init__.bindsN fun _ _ _ _ _ _ us hl => match us, hl with | [_, _, _, _], _ => rfl⟩ (d_Plan___init__ (P := P) (w := w) (base := base) F_Plan___init__ T)
  obtain ⟨fd_Pairs___init__, F_Pairs___init__⟩ := c.def_ 15 (d := dM "Pairs" "__init__" "Pairs.__init__" mt_Pairs___init__ []) rfl
  have D_Pairs___init__ := di_of (C := "Pairs") (dvs := []) (He.mkr_ok (c.fact 36 (f := .mkr "Pairs") rfl)) (He.glo_ok X G (c.fact 34 (f := .glo "Pairs") rfl)) ⟨[], .nil, F_Pairs___init__.bindsN fun _ _ _ _ _ _ us hl => match us, hl with | [_, _], _ => rfl⟩ (d_Pairs___init__ (P := P) (w := w) (base := base) F_Pairs___init__ T D_weight_rows D_Affine_variable)
  obtain ⟨fd_Pairs_plans_at, F_Pairs_plans_at⟩ := c.def_ 16 (d := dM "Pairs" "plans_at" "Pairs.plans_at" mt_Pairs_plans_at []) rfl
  have D_Pairs_plans_at := dm_of (C := "Pairs") (m := "plans_at") T.me_Pairs_plans_at (F_Pairs_plans_at.bindsN fun _ _ _ _ _ _ us hl => match us, hl with | [_, _], _ => rfl) (d_Pairs_plans_at (P := P) (w := w) (base := base) F_Pairs_plans_at T D_Affine___neg__ D_Plan___init__ D_Affine___init___l_D1)
  obtain ⟨fd_pair_functions, F_pair_functions⟩ := c.def_ 17 (d := dA "pair_functions" 21) rfl
  have D_pair_functions := dk_of F_pair_functions (He.glo_ok X G (c.fact 6 (f := .glo "pair_functions") rfl)) (F_pair_functions.bindsN fun _ _ _ _ _ _ us hl => match us, hl with | [_], _ => rfl) (d_pair_functions (P := P) (w := w) (base := base) F_pair_functions T D_Pairs___init__)
  obtain ⟨fd_node_plans, F_node_plans⟩ := c.def_ 18 (d := dA "node_plans" 22) rfl
  have D_node_plans := dk_of F_node_plans (He.glo_ok X G (c.fact 7 (f := .glo "node_plans") rfl)) (F_node_plans.bindsN fun _ _ _ _ _ _ us hl => match us, hl with | [_, _], _ => rfl) (d_node_plans (P := P) (w := w) (base := base) F_node_plans T D_Pairs___init__ D_Pairs_plans_at)
  obtain ⟨fd_Piece___init__, F_Piece___init__⟩ := c.def_ 19 (d := dM "Piece" "__init__" "Piece.__init__" mt_Piece___init__ []) rfl
  have D_Piece___init__ := di_of (C := "Piece") (dvs := []) (He.mkr_ok (c.fact 39 (f := .mkr "Piece") rfl)) (He.glo_ok X G (c.fact 37 (f := .glo "Piece") rfl)) ⟨[], .nil, F_Piece___init__.bindsN fun _ _ _ _ _ _ us hl => match us, hl with | [_, _, _, _, _], _ => rfl⟩ (d_Piece___init__ (P := P) (w := w) (base := base) F_Piece___init__ T)
  obtain ⟨fd__answer_plan_l, F__answer_plan_l⟩ := c.def_ 20 (d := dA "_answer_plan" 26) rfl
  have D__answer_plan_l := dk_of F__answer_plan_l (He.glo_ok X G (c.fact 8 (f := .glo "_answer_plan") rfl)) (F__answer_plan_l.bindsN fun _ _ _ _ _ _ us hl => match us, hl with | [_, _, _], _ => rfl) (d__answer_plan_l (P := P) (w := w) (base := base) F__answer_plan_l T D_Affine_placed D_Affine___sub__ D_Plan___init__)
  obtain ⟨fd__answer_plan_u, F__answer_plan_u⟩ := c.def_ 20 (d := dA "_answer_plan" 26) rfl
  have D__answer_plan_u := dk_of F__answer_plan_u (He.glo_ok X G (c.fact 8 (f := .glo "_answer_plan") rfl)) (F__answer_plan_u.bindsN fun _ _ _ _ _ _ us hl => match us, hl with | [_, _, _], _ => rfl) (d__answer_plan_u (P := P) (w := w) (base := base) F__answer_plan_u T D_Affine_placed D_Affine___sub__ D_Plan___init__)
  obtain ⟨fd_kind_plan, F_kind_plan⟩ := c.def_ 21 (d := dA "kind_plan" 27) rfl
  have D_kind_plan := dk_of F_kind_plan (He.glo_ok X G (c.fact 9 (f := .glo "kind_plan") rfl)) (F_kind_plan.bindsN fun _ _ _ _ _ _ us hl => match us, hl with | [_, _], _ => rfl) (d_kind_plan (P := P) (w := w) (base := base) F_kind_plan T D_value_of D__answer_plan_l)
  obtain ⟨fd_piece_plan, F_piece_plan⟩ := c.def_ 22 (d := dA "piece_plan" 28) rfl
  have D_piece_plan := dk_of F_piece_plan (He.glo_ok X G (c.fact 10 (f := .glo "piece_plan") rfl)) (F_piece_plan.bindsN fun _ _ _ _ _ _ us hl => match us, hl with | [_, _], _ => rfl) (d_piece_plan (P := P) (w := w) (base := base) F_piece_plan T D__answer_plan_u)
  obtain ⟨fd__check, F__check⟩ := c.def_ 23 (d := dA "_check" 30) rfl
  have D__check := dk_of F__check (He.glo_ok X G (c.fact 11 (f := .glo "_check") rfl)) (F__check.bindsN fun _ _ _ _ _ _ us hl => match us, hl with | [_, _], _ => rfl) (d__check (P := P) (w := w) (base := base) F__check T)
  obtain ⟨fd__all_fit, F__all_fit⟩ := c.def_ 24 (d := dA "_all_fit" 31) rfl
  have D__all_fit := dk_of F__all_fit (He.glo_ok X G (c.fact 12 (f := .glo "_all_fit") rfl)) (F__all_fit.bindsN fun _ _ _ _ _ _ us hl => match us, hl with | [_, _], _ => rfl) (d__all_fit (P := P) (w := w) (base := base) F__all_fit T)
  obtain ⟨fd_Task___init__, F_Task___init__⟩ := c.def_ 25 (d := dM "Task" "__init__" "Task.__init__" mt_Task___init__ []) rfl
  have D_Task___init__ := di_of (C := "Task") (dvs := []) (He.mkr_ok (c.fact 45 (f := .mkr "Task") rfl)) (He.glo_ok X G (c.fact 43 (f := .glo "Task") rfl)) ⟨[], .nil, F_Task___init__.bindsN fun _ _ _ _ _ _ us hl => match us, hl with | [_, _, _, _, _, _, _], _ => rfl⟩ (d_Task___init__ (P := P) (w := w) (base := base) F_Task___init__ T D__check D__all_fit)
  obtain ⟨fd__law_draws, F__law_draws⟩ := c.def_ 26 (d := dA "_law_draws" 34) rfl
  have D__law_draws := dk_of F__law_draws (He.glo_ok X G (c.fact 13 (f := .glo "_law_draws") rfl)) (F__law_draws.bindsN fun _ _ _ _ _ _ us hl => match us, hl with | [_, _], _ => rfl) (d__law_draws (P := P) (w := w) (base := base) F__law_draws T)
  obtain ⟨fd__law_gcd, F__law_gcd⟩ := c.def_ 27 (d := dA "_law_gcd" 35) rfl
  have D__law_gcd := dk_of F__law_gcd (He.glo_ok X G (c.fact 14 (f := .glo "_law_gcd") rfl)) (F__law_gcd.bindsN fun _ _ _ _ _ _ us hl => match us, hl with | [_, _], _ => rfl) (d__law_gcd (P := P) (w := w) (base := base) F__law_gcd T)
  obtain ⟨fd__law_lowest, F__law_lowest⟩ := c.def_ 28 (d := dA "_law_lowest" 36) rfl
  have D__law_lowest := dk_of F__law_lowest (He.glo_ok X G (c.fact 15 (f := .glo "_law_lowest") rfl)) (F__law_lowest.bindsN fun _ _ _ _ _ _ us hl => match us, hl with | [_], _ => rfl) (d__law_lowest (P := P) (w := w) (base := base) F__law_lowest T D__law_gcd)
  obtain ⟨fd__law_is_integer, F__law_is_integer⟩ := c.def_ 29 (d := dA "_law_is_integer" 37) rfl
  have D__law_is_integer := dk_of F__law_is_integer (He.glo_ok X G (c.fact 16 (f := .glo "_law_is_integer") rfl)) (F__law_is_integer.bindsN fun _ _ _ _ _ _ us hl => match us, hl with | [_], _ => rfl) (d__law_is_integer (P := P) (w := w) (base := base) F__law_is_integer T)
  obtain ⟨fd__law_same, F__law_same⟩ := c.def_ 30 (d := dA "_law_same" 38) rfl
  have D__law_same := dk_of F__law_same (He.glo_ok X G (c.fact 17 (f := .glo "_law_same") rfl)) (F__law_same.bindsN fun _ _ _ _ _ _ us hl => match us, hl with | [_, _], _ => rfl) (d__law_same (P := P) (w := w) (base := base) F__law_same T D__law_lowest D__law_is_integer)
  obtain ⟨fd__law_tuple_same, F__law_tuple_same⟩ := c.def_ 31 (d := dA "_law_tuple_same" 39) rfl
  have D__law_tuple_same := dk_of F__law_tuple_same (He.glo_ok X G (c.fact 18 (f := .glo "_law_tuple_same") rfl)) (F__law_tuple_same.bindsN fun _ _ _ _ _ _ us hl => match us, hl with | [_, _], _ => rfl) (d__law_tuple_same (P := P) (w := w) (base := base) F__law_tuple_same T D__law_same)
  obtain ⟨fd__law_prices, F__law_prices⟩ := c.def_ 32 (d := dA "_law_prices" 40) rfl
  have D__law_prices := dk_of F__law_prices (He.glo_ok X G (c.fact 19 (f := .glo "_law_prices") rfl)) (F__law_prices.bindsN fun _ _ _ _ _ _ us hl => match us, hl with | [_, _, _], _ => rfl) (d__law_prices (P := P) (w := w) (base := base) F__law_prices T)
  obtain ⟨fd__law_function, F__law_function⟩ := c.def_ 33 (d := dA "_law_function" 41) rfl
  have D__law_function := dk_of F__law_function (He.glo_ok X G (c.fact 20 (f := .glo "_law_function") rfl)) (F__law_function.bindsN fun _ _ _ _ _ _ us hl => match us, hl with | [_, _, _, _], _ => rfl) (d__law_function (P := P) (w := w) (base := base) F__law_function T)
  obtain ⟨fd__law_made, F__law_made⟩ := c.def_ 34 (d := dA "_law_made" 42) rfl
  have D__law_made := dk_of F__law_made (He.glo_ok X G (c.fact 21 (f := .glo "_law_made") rfl)) (F__law_made.bindsN fun _ _ _ _ _ _ us hl => match us, hl with | [_], _ => rfl) (d__law_made (P := P) (w := w) (base := base) F__law_made T D_Affine___init___l)
  obtain ⟨fd__law_variables, F__law_variables⟩ := c.def_ 35 (d := dA "_law_variables" 43) rfl
  have D__law_variables := dk_of F__law_variables (He.glo_ok X G (c.fact 22 (f := .glo "_law_variables") rfl)) (F__law_variables.bindsN fun _ _ _ _ _ _ us hl => match us, hl with | [_, _], _ => rfl) (d__law_variables (P := P) (w := w) (base := base) F__law_variables T)
  obtain ⟨fd__law_turned, F__law_turned⟩ := c.def_ 36 (d := dA "_law_turned" 44) rfl
  have D__law_turned := dk_of F__law_turned (He.glo_ok X G (c.fact 23 (f := .glo "_law_turned") rfl)) (F__law_turned.bindsN fun _ _ _ _ _ _ us hl => match us, hl with | [_], _ => rfl) (d__law_turned (P := P) (w := w) (base := base) F__law_turned T)
  obtain ⟨fd__law_planned, F__law_planned⟩ := c.def_ 37 (d := dA "_law_planned" 45) rfl
  have D__law_planned := dk_of F__law_planned (He.glo_ok X G (c.fact 24 (f := .glo "_law_planned") rfl)) (F__law_planned.bindsN fun _ _ _ _ _ _ us hl => match us, hl with | [_, _, _], _ => rfl) (d__law_planned (P := P) (w := w) (base := base) F__law_planned T D__law_is_integer D__law_tuple_same D__law_same)
  obtain ⟨fd__law_nodes, F__law_nodes⟩ := c.def_ 38 (d := dA "_law_nodes" 46) rfl
  have D__law_nodes := dk_of F__law_nodes (He.glo_ok X G (c.fact 25 (f := .glo "_law_nodes") rfl)) (F__law_nodes.bindsN fun _ _ _ _ _ _ us hl => match us, hl with | [_, _, _], _ => rfl) (d__law_nodes (P := P) (w := w) (base := base) F__law_nodes T D__law_turned D_node_plans D__law_planned)
  obtain ⟨fd__law_priced, F__law_priced⟩ := c.def_ 39 (d := dA "_law_priced" 47) rfl
  have D__law_priced := dk_of F__law_priced (He.glo_ok X G (c.fact 26 (f := .glo "_law_priced") rfl)) (F__law_priced.bindsN fun _ _ _ _ _ _ us hl => match us, hl with | [_, _, _, _, _], _ => rfl) (d__law_priced (P := P) (w := w) (base := base) F__law_priced T)
  obtain ⟨fd__law_last, F__law_last⟩ := c.def_ 40 (d := dA "_law_last" 48) rfl
  have D__law_last := dk_of F__law_last (He.glo_ok X G (c.fact 27 (f := .glo "_law_last") rfl)) (F__law_last.bindsN fun _ _ _ _ _ _ us hl => match us, hl with | [_, _], _ => rfl) (d__law_last (P := P) (w := w) (base := base) F__law_last T)
  obtain ⟨fd__law_kinds, F__law_kinds⟩ := c.def_ 41 (d := dA "_law_kinds" 49) rfl
  have D__law_kinds := dk_of F__law_kinds (He.glo_ok X G (c.fact 28 (f := .glo "_law_kinds") rfl)) (F__law_kinds.bindsN fun _ _ _ _ _ _ us hl => match us, hl with | [_, _, _, _], _ => rfl) (d__law_kinds (P := P) (w := w) (base := base) F__law_kinds T D__law_lowest D__law_priced D_kind_plan D__law_last D__law_planned D__law_function D__law_made D_Piece___init__ D_piece_plan)
  obtain ⟨fd__law_model, F__law_model⟩ := c.def_ 42 (d := dA "_law_model" 50) rfl
  have D__law_model := dk_of F__law_model (He.glo_ok X G (c.fact 29 (f := .glo "_law_model") rfl)) (F__law_model.bindsN fun _ _ _ _ _ _ us hl => match us, hl with | [_, _, _, _], _ => rfl) (d__law_model (P := P) (w := w) (base := base) F__law_model T D__law_function D__law_prices D__law_variables)
  exact d_law F T D__law_draws D__law_model D__law_made D_Task___init__ D_pair_functions D__law_same D__law_nodes D__law_kinds
end LW
open PySem PySem.W PySem.Calls PyProof.Rows
theorem PySem.Challenge.cw_leadersets_k21_node_plans_told_holds : PySem.Challenge.rw_leadersets_k21_node_plans_told.Holds := by
  w_on; o_law
  refine HandSHeadRun.head_imp (r := OpenLaw.row PySem.Challenge.rw_leadersets_k21_node_plans_told) (q := view (OpenLaw.row PySem.Challenge.rw_leadersets_k21_node_plans_told).prog [0, 51]) (H := LW.hkL) (ob := LW.obL) (M := 6000) (loose := LW.looseL) (d := HandSHeadRun.topDef (OpenLaw.row PySem.Challenge.rw_leadersets_k21_node_plans_told).prog 51) (kwd := []) LW.obL_eq LW.runL (by kernel_rfl) (by kernel_rfl) (by kernel_rfl) (by rfl) (by first | assumption | decide +kernel) (by decide +kernel) ⟨rfl, rfl, rfl, rfl, rfl, by decide +kernel⟩ ?hw ?hc
  case hw => w_witness2
  case hc =>
    refine FL.walk_w (l := PySem.Challenge.rw_leadersets_k21_node_plans_told) (n := 63) (k := 10) (x := "script") (m := LW.m_law) rfl (by decide) (by kernel_rfl) ⟨rfl, by decide, by decide⟩ LW.law_true ?F
    intro w mg fa h Y G hmg0
    obtain ⟨K, KX, c⟩ := Y
    have hmg : mg ("law" : PySem.Str) = some (.ref fa) := by
      have e : (HandSHeadRun.topDef (OpenLaw.row PySem.Challenge.rw_leadersets_k21_node_plans_told).prog 51).name = ("law" : PySem.Str) := by kernel_rfl
      rw [← e]
      exact hmg0
    obtain ⟨fd, hb, hF⟩ := LW.factsL (P := (PySem.Challenge.rw_leadersets_k21_node_plans_told).prog) (w := w) KX G hmg c.a c.more
    exact ⟨K, fd, KX, hb, hF⟩
