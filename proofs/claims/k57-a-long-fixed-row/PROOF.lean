import PyProof.Rows.All
import Wide.All
import OpenK.AllK
import Wide.FinOn
import HandS.ForMost
import HandS.ForExc
import HandS.CallSlots
import HandS.Wide
import HandS.More
import HandS.WordsDict
import HandS.Finally
import HandS.ExcOwn
import HandS.IsInst
import HandS.Style
import HandS.TryOnly
import HandS.Defaults
import HandS.HeadHook2
import HandS.HeadEnd
import PySem.Challenge.RW_layerdraw_k57_a_long_fixed_row
import KE.KStateDown
import Lean
import HandS.Ends
import HandS.Words
import HandS.Head0
import HandS.Head1
import HandS.Head2
import HandS.HeadHook1
set_option Elab.async false
set_option linter.all false
set_option maxRecDepth 100000
set_option maxHeartbeats 0
/-! Y: a mirror monad, states with frozen, readable and owned parts. -/
namespace Y
open PySem PySem.Spec PyProof.Rows L2

/-! ### the mirror's monad -/
inductive Pl where
  | no | str (x : Str) | int (i : Int) | ints (xs : List Int)
structure Er where
  k : Nat
  pl : Pl
inductive R (α : Type) where
  | no | ex (e : Er) | ok (a : α)
namespace R
variable {α β γ : Type}
def bind (m : R α) (f : α → R β) : R β := match m with
  | .no => .no
  | .ex e => .ex e
  | .ok a => f a
def post (m : R α) (q : α → Prop) (x : Er → Prop) : Prop := match m with
  | .no => False
  | .ex e => x e
  | .ok a => q a
@[simp] theorem bind_ok (a : α) (f : α → R β) : (R.ok a).bind f = f a := Eq.trans rfl rfl
@[simp] theorem bind_no (f : α → R β) : (R.no : R α).bind f = .no := Eq.trans rfl rfl
@[simp] theorem bind_ex (e : Er) (f : α → R β) : (R.ex e : R α).bind f = .ex e := Eq.trans rfl rfl
theorem bind_assoc (m : R α) (f : α → R β) (g : β → R γ) : (m.bind f).bind g = m.bind fun a => (f a).bind g := by cases m <;> rfl
theorem bind_id (m : R α) : (m.bind fun a => .ok a) = m := by cases m <;> rfl
theorem post_bind {m : R α} {f : α → R β} {q : β → Prop} {x : Er → Prop} : (m.bind f).post q x ↔ m.post (fun a => (f a).post q x) x := by cases m <;> exact Iff.rfl
theorem post_mono {m : R α} {q q' : α → Prop} {x x' : Er → Prop} (h : m.post q x) (hq : ∀ a, q a → q' a) (hx : ∀ e, x e → x' e) : m.post q' x' := by
  cases m with
  | no => exact h
  | ex e => exact hx e h
  | ok a => exact hq a h
theorem post_ok {m : R α} {a : α} {q : α → Prop} {x : Er → Prop} (e : m = .ok a) (h : q a) : m.post q x := by subst e; exact h
/-- an exception is none here -/
def calm (m : R α) : R α := match m with
  | .ok a => .ok a
  | _ => .no
@[simp] theorem calm_ok (a : α) : (R.ok a).calm = .ok a := Eq.trans rfl rfl
theorem calm_post {m : R α} {q : α → Prop} {x : Er → Prop} (h : m.calm.post q x) (x' : Er → Prop) : m.post q x' := by
  cases m with
  | no => exact h
  | ex e => exact h.elim
  | ok a => exact h
def guard (c : Prop) [Decidable c] : R Unit := if c then .ok () else .no
theorem guard_post {c : Prop} [Decidable c] {q : Unit → Prop} {x : Er → Prop} : (guard c).post q x ↔ c ∧ q () := by
  unfold guard
  by_cases h : c
  · rw [if_pos h]; exact ⟨fun q => ⟨h, q⟩, fun q => q.2⟩
  · rw [if_neg h]; exact ⟨fun q => q.elim, fun q => h q.1⟩
@[simp] theorem guard_true {c : Prop} [Decidable c] (h : c) : guard c = .ok () := if_pos h
def ofO (o : Option α) : R α := match o with
  | some a => .ok a
  | none => .no
@[simp] theorem ofO_some (a : α) : ofO (some a) = .ok a := Eq.trans rfl rfl
theorem ofO_post {o : Option α} {q : α → Prop} {x : Er → Prop} : (ofO o).post q x ↔ ∃ a, o = some a ∧ q a := by
  cases o with
  | none => exact ⟨fun h => h.elim, fun ⟨_, h, _⟩ => by cases h⟩
  | some a => exact ⟨fun h => ⟨a, rfl, h⟩, fun ⟨b, h, q⟩ => by cases h; exact q⟩
end R
/-- with a state -/
abbrev SM (ς α : Type) := ς → R (α × ς)
namespace SM
variable {ς α β γ δ : Type}
def ret (a : α) : SM ς α := fun s => .ok (a, s)
def rd (f : ς → R α) : SM ς α := fun s => (f s).bind fun a => .ok (a, s)
def ofR (m : R α) : SM ς α := fun s => m.bind fun a => .ok (a, s)
def map1 (f : α → β) (m : SM ς α) : SM ς β := fun s => (m s).bind fun z => .ok (f z.1, z.2)
def bnd1 (f : α → R β) (m : SM ς α) : SM ς β := fun s => (m s).bind fun z => (f z.1).bind fun b => .ok (b, z.2)
def map2 (f : α → β → γ) (m : SM ς α) (n : SM ς β) : SM ς γ := fun s => (m s).bind fun z => (n z.2).bind fun w => .ok (f z.1 w.1, w.2)
def bnd2 (f : α → β → R γ) (m : SM ς α) (n : SM ς β) : SM ς γ := fun s => (m s).bind fun z => (n z.2).bind fun w => (f z.1 w.1).bind fun c => .ok (c, w.2)
end SM

/-! ### heaps -/
def Ex (H H' : Hp) : Prop := ∀ a o, H a = some o → H' a = some o
theorem Ex.refl (H : Hp) : Ex H H := fun _ _ h => h
theorem Ex.trans {H H1 H2 : Hp} (a : Ex H H1) (b : Ex H1 H2) : Ex H H2 := fun x o h => b x o (a x o h)
theorem Ex.new {H : Hp} {p : Addr} {o : HO} (h : H p = none) : Ex H (upd H p o) := fun a u e => by
  rw [upd_ne (ne_of_none e h)]
  exact e
theorem Ex.mut {H H' : Hp} {p : Addr} {o : HO} (e : Ex H H') (h : H p = none) : Ex H (upd H' p o) := fun a u ha => by
  rw [upd_ne (ne_of_none ha h)]
  exact e a u ha
theorem Ex.add {H H' : Hp} {p : Addr} {o : HO} (e : Ex H H') (h : H' p = none) : Ex (upd H p o) (upd H' p o) := fun a u ha => by
  by_cases q : a = p
  · subst q
    rw [upd_same] at ha ⊢
    exact ha
  · rw [upd_ne q] at ha ⊢
    exact e a u ha
theorem Ex.upd {H H' : Hp} {p : Addr} {o : HO} (e : Ex H H') (h : H' p = some o) : Ex (L2.upd H p o) H' := fun a u ha => by
  by_cases q : a = p
  · subst q
    rw [upd_same] at ha
    rw [h]; exact ha
  · rw [upd_ne q] at ha
    exact e a u ha
theorem Ex.none {H H' : Hp} (e : Ex H H') {p : Addr} (h : H' p = none) : H p = none := by
  cases q : H p with
  | none => rfl
  | some o => rw [e p o q] at h; cases h
theorem Ex.rd {H H' : Hp} {a : Addr} {u : HO} (e : Ex H H') (h : Rd H a u) : Rd H' a u := by
  rcases h with h | ⟨o, h⟩
  · exact Or.inl (e a _ h)
  · exact Or.inr ⟨o, e a _ h⟩
theorem Ex.seq {K : PySem.W.Frag} {H H' : Hp} {a : Addr} {xs : List V} (e : Ex H H') (h : SqL K H a xs) : SqL K H' a xs := by
  rcases h with h | h
  · exact Or.inl (e.rd h)
  · exact Or.inr h
theorem Ex.tup {K : PySem.W.Frag} {H H' : Hp} {a : Addr} {xs : List V} (e : Ex H H') (h : SqT K H a xs) : SqT K H' a xs := by
  rcases h with h | h
  · exact Or.inl (e.rd h)
  · exact Or.inr h

/-! ### a state's two views: what is frozen, what may be read -/
structure Sv where
  g : Hp
  y : Hp
structure Sv.le (S S' : Sv) : Prop where
  g : Ex S.g S'.g
  y : Ex S.y S'.y
theorem Sv.le.refl (S : Sv) : S.le S := ⟨Ex.refl _, Ex.refl _⟩
theorem Sv.le.trans {S T U : Sv} (a : S.le T) (b : T.le U) : S.le U := ⟨a.g.trans b.g, a.y.trans b.y⟩
def Sv.at (S : Sv) (w : Bool) : Hp := match w with
  | true => S.g
  | false => S.y
theorem Sv.le.at {S S' : Sv} (h : S.le S') (w : Bool) : Ex (S.at w) (S'.at w) := by
  cases w
  · exact h.y
  · exact h.g

/-- a representation of plain data -/
structure Rp (α : Type) where
  rep : α → V → Hp → Prop
  mono : ∀ {a v H H'}, Ex H H' → rep a v H → rep a v H'
/-- what is known of a value -/
structure VP where
  p : V → Sv → Prop
  mono : ∀ {v S S'}, Sv.le S S' → p v S → p v S'
/-- what is known of an owned object -/
structure Ct where
  c : HO → Hp → Prop
  mono : ∀ {o H H'}, Ex H H' → c o H → c o H'
def VP.at {α : Type} (w : Bool) (r : Rp α) (x : α) : VP := ⟨fun v S => r.rep x v (S.at w), fun h q => r.mono (h.at w) q⟩
def VP.ptr (p : Addr) : VP := ⟨fun v _ => v = .ref p, fun _ q => q⟩
def VP.is (x : V) : VP := ⟨fun v _ => v = x, fun _ q => q⟩
structure OE where
  p : Addr
  c : Ct
  f : Bool
abbrev OS := List OE
abbrev SA := List (Option VP)

section
variable {α β : Type} {K : PySem.W.Frag}
def rInt : Rp Int := ⟨fun a v _ => v = .int a, fun _ h => h⟩
def rStr : Rp Str := ⟨fun a v _ => v = .str a, fun _ h => h⟩
def rBl : Rp Bool := ⟨fun a v _ => v = .bl a, fun _ h => h⟩
def rNon : Rp Unit := ⟨fun _ v _ => v = .non, fun _ h => h⟩
/-- item by item -/
def A2 (r : Rp α) (H : Hp) : List α → List V → Prop
  | [], [] => True
  | a :: as, v :: vs => r.rep a v H ∧ A2 r H as vs
  | _, _ => False
theorem A2.mono {r : Rp α} {H H' : Hp} (e : Ex H H') : ∀ {xs : List α} {vs : List V}, A2 r H xs vs → A2 r H' xs vs
  | [], [], _ => trivial
  | _ :: _, _ :: _, h => ⟨r.mono e h.1, A2.mono e h.2⟩
  | [], _ :: _, h => h.elim
  | _ :: _, [], h => h.elim
theorem A2.length {r : Rp α} {H : Hp} : ∀ {xs : List α} {vs : List V}, A2 r H xs vs → xs.length = vs.length
  | [], [], _ => rfl
  | _ :: _, _ :: _, h => congrArg (· + 1) (A2.length h.2)
  | [], _ :: _, h => h.elim
  | _ :: _, [], h => h.elim
theorem A2.get {r : Rp α} {H : Hp} : ∀ {xs : List α} {vs : List V} {i : Nat} {a : α}, A2 r H xs vs → xs[i]? = some a → ∃ v, vs[i]? = some v ∧ r.rep a v H
  | [], [], _, _, _, e => by simp at e
  | a :: _, v :: _, 0, b, h, e => by
    have e' : a = b := Option.some.inj e
    subst e'
    exact ⟨v, rfl, h.1⟩
  | _ :: xs, _ :: vs, i + 1, b, h, e => A2.get (i := i) h.2 e
  | [], _ :: _, _, _, h, _ => h.elim
  | _ :: _, [], _, _, h, _ => h.elim
theorem A2.get' {r : Rp α} {H : Hp} : ∀ {xs : List α} {vs : List V} {i : Nat} {v : V}, A2 r H xs vs → vs[i]? = some v → ∃ a, xs[i]? = some a ∧ r.rep a v H
  | [], [], _, _, _, e => by simp at e
  | a :: _, v :: _, 0, b, h, e => by
    have e' : v = b := Option.some.inj e
    subst e'
    exact ⟨a, rfl, h.1⟩
  | _ :: xs, _ :: vs, i + 1, b, h, e => A2.get' (i := i) h.2 e
  | [], _ :: _, _, _, h, _ => h.elim
  | _ :: _, [], _, _, h, _ => h.elim
theorem A2.append {r : Rp α} {H : Hp} : ∀ {xs ys : List α} {vs ws : List V}, A2 r H xs vs → A2 r H ys ws → A2 r H (xs ++ ys) (vs ++ ws)
  | [], _, [], _, _, h => h
  | _ :: _, _, _ :: _, _, h, k => ⟨h.1, A2.append h.2 k⟩
  | [], _, _ :: _, _, h, _ => h.elim
  | _ :: _, _, [], _, h, _ => h.elim
theorem A2.snoc {r : Rp α} {H : Hp} {xs : List α} {vs : List V} {a : α} {v : V} (h : A2 r H xs vs) (k : r.rep a v H) : A2 r H (xs ++ [a]) (vs ++ [v]) := h.append ⟨k, trivial⟩
theorem A2.set {r : Rp α} {H : Hp} {a : α} {v : V} (k : r.rep a v H) : ∀ {xs : List α} {vs : List V} (i : Nat), A2 r H xs vs → A2 r H (xs.set i a) (vs.set i v)
  | [], [], _, _ => trivial
  | _ :: _, _ :: _, 0, h => ⟨k, h.2⟩
  | _ :: _, _ :: _, i + 1, h => ⟨h.1, A2.set k i h.2⟩
  | [], _ :: _, _, h => h.elim
  | _ :: _, [], _, h => h.elim
theorem A2.take {r : Rp α} {H : Hp} : ∀ (n : Nat) {xs : List α} {vs : List V}, A2 r H xs vs → A2 r H (xs.take n) (vs.take n)
  | 0, _, _, _ => trivial
  | _ + 1, [], [], _ => trivial
  | n + 1, _ :: _, _ :: _, h => ⟨h.1, A2.take n h.2⟩
  | _ + 1, [], _ :: _, h => h.elim
  | _ + 1, _ :: _, [], h => h.elim
theorem A2.drop {r : Rp α} {H : Hp} : ∀ (n : Nat) {xs : List α} {vs : List V}, A2 r H xs vs → A2 r H (xs.drop n) (vs.drop n)
  | 0, _, _, h => h
  | _ + 1, [], [], _ => trivial
  | n + 1, _ :: _, _ :: _, h => A2.drop n h.2
  | _ + 1, [], _ :: _, h => h.elim
  | _ + 1, _ :: _, [], h => h.elim
theorem A2.eraseIdx {r : Rp α} {H : Hp} : ∀ (n : Nat) {xs : List α} {vs : List V}, A2 r H xs vs → A2 r H (xs.eraseIdx n) (vs.eraseIdx n)
  | _, [], [], _ => trivial
  | 0, _ :: _, _ :: _, h => h.2
  | n + 1, _ :: _, _ :: _, h => ⟨h.1, A2.eraseIdx n h.2⟩
  | _, [], _ :: _, h => h.elim
  | _, _ :: _, [], h => h.elim
theorem A2.reverse {r : Rp α} {H : Hp} : ∀ {xs : List α} {vs : List V}, A2 r H xs vs → A2 r H xs.reverse vs.reverse
  | [], [], _ => trivial
  | _ :: _, _ :: _, h => by
    rw [List.reverse_cons, List.reverse_cons]
    exact (A2.reverse h.2).snoc h.1
  | [], _ :: _, h => h.elim
  | _ :: _, [], h => h.elim
theorem A2.insertIdx {r : Rp α} {H : Hp} {a : α} {v : V} (k : r.rep a v H) : ∀ (i : Nat) {xs : List α} {vs : List V}, A2 r H xs vs → A2 r H (xs.take i ++ a :: xs.drop i) (vs.take i ++ v :: vs.drop i) := fun i _ _ h => (A2.take i h).append ⟨k, A2.drop i h⟩
theorem A2.int {H : Hp} : ∀ {xs : List Int} {vs : List V}, A2 rInt H xs vs → vs = xs.map V.int
  | [], [], _ => rfl
  | x :: xs, v :: vs, h => by
    have e : v = .int x := h.1
    rw [e, A2.int h.2]; rfl
  | [], _ :: _, h => h.elim
  | _ :: _, [], h => h.elim
theorem A2.str {H : Hp} : ∀ {xs : List Str} {vs : List V}, A2 rStr H xs vs → vs = xs.map V.str
  | [], [], _ => rfl
  | x :: xs, v :: vs, h => by
    have e : v = .str x := h.1
    rw [e, A2.str h.2]; rfl
  | [], _ :: _, h => h.elim
  | _ :: _, [], h => h.elim
theorem A2.bl {H : Hp} : ∀ {xs : List Bool} {vs : List V}, A2 rBl H xs vs → vs = xs.map V.bl
  | [], [], _ => rfl
  | x :: xs, v :: vs, h => by
    have e : v = .bl x := h.1
    rw [e, A2.bl h.2]; rfl
  | [], _ :: _, h => h.elim
  | _ :: _, [], h => h.elim
theorem A2.ofInt {H : Hp} : ∀ (xs : List Int), A2 rInt H xs (xs.map V.int)
  | [] => trivial
  | _ :: xs => ⟨rfl, A2.ofInt xs⟩
theorem A2.ofStr {H : Hp} : ∀ (xs : List Str), A2 rStr H xs (xs.map V.str)
  | [] => trivial
  | _ :: xs => ⟨rfl, A2.ofStr xs⟩

def rLst (K : PySem.W.Frag) (r : Rp α) : Rp (List α) := ⟨fun xs v H => ∃ p vs, v = .ref p ∧ SqL K H p vs ∧ A2 r H xs vs, fun e ⟨p, vs, h1, h2, h3⟩ => ⟨p, vs, h1, e.seq h2, h3.mono e⟩⟩
/-- values in a row -/
def AV (S : Sv) : List V → List VP → Prop
  | [], [] => True
  | v :: vs, P :: Ps => P.p v S ∧ AV S vs Ps
  | _, _ => False
/-- a tuple's parts -/
structure RT (τ : Type) where
  n : Nat
  rep : τ → List V → Hp → Prop
  vps : Bool → τ → List VP
  mono : ∀ {a vs H H'}, Ex H H' → rep a vs H → rep a vs H'
  len : ∀ {a vs H}, rep a vs H → vs.length = n
  law : ∀ {w a vs S}, AV S vs (vps w a) → rep a vs (S.at w)
  wal : ∀ {w a vs S}, rep a vs (S.at w) → AV S vs (vps w a)
def RT.one (r : Rp α) : RT α := ⟨1, fun x vs H => ∃ v, vs = [v] ∧ r.rep x v H, fun w x => [VP.at w r x], fun e ⟨v, h1, h2⟩ => ⟨v, h1, r.mono e h2⟩, fun ⟨v, h1, _⟩ => by rw [h1]; rfl,
  fun {w a vs S} h => match vs, h with
    | [v], h => ⟨v, rfl, h.1⟩,
  fun {w a vs S} ⟨v, e, h⟩ => by subst e; exact ⟨h, trivial⟩⟩
def RT.cons (r : Rp α) (t : RT β) : RT (α × β) := ⟨t.n + 1, fun x vs H => ∃ v ws, vs = v :: ws ∧ r.rep x.1 v H ∧ t.rep x.2 ws H, fun w x => VP.at w r x.1 :: t.vps w x.2, fun e ⟨v, ws, h1, h2, h3⟩ => ⟨v, ws, h1, r.mono e h2, t.mono e h3⟩, fun ⟨v, ws, h1, _, h3⟩ => by rw [h1, List.length_cons, t.len h3],
  fun {w a vs S} h => match vs, h with
    | v :: ws, h => ⟨v, ws, rfl, h.1, t.law h.2⟩,
  fun {w a vs S} ⟨v, ws, e, h1, h2⟩ => by subst e; exact ⟨h1, t.wal h2⟩⟩
def rTup (K : PySem.W.Frag) (t : RT α) : Rp α := ⟨fun x v H => ∃ p vs, v = .ref p ∧ SqT K H p vs ∧ t.rep x vs H, fun e ⟨p, vs, h1, h2, h3⟩ => ⟨p, vs, h1, e.tup h2, t.mono e h3⟩⟩
def rOpt (r : Rp α) : Rp (Option α) := ⟨fun x v H => match x with
  | none => v = .non
  | some a => v ≠ .non ∧ r.rep a v H, fun {x v H H'} e h => by
    cases x with
    | none => exact h
    | some a => exact ⟨h.1, r.mono e h.2⟩⟩
/-- keys of dicts -/
structure KK (κ : Type) where
  k : κ → Key
  inj : ∀ {a b}, k a = k b → a = b
  rp : Rp κ
  law : ∀ {a v H}, rp.rep a v H → v = kV (k a)
  wal : ∀ {a v H}, v = kV (k a) → rp.rep a v H
def kInt : KK Int := ⟨Sum.inl, fun h => Sum.inl.inj h, rInt, fun h => h, fun h => h⟩
def kStr : KK Str := ⟨Sum.inr, fun h => Sum.inr.inj h, rStr, fun h => h, fun h => h⟩
def AD {κ δ : Type} (f : κ → δ) (r : Rp α) (H : Hp) : List (κ × α) → List (δ × V) → Prop
  | [], [] => True
  | a :: as, v :: vs => v.1 = f a.1 ∧ r.rep a.2 v.2 H ∧ AD f r H as vs
  | _, _ => False
theorem AD.mono {κ δ : Type} {f : κ → δ} {r : Rp α} {H H' : Hp} (e : Ex H H') : ∀ {xs : List (κ × α)} {vs : List (δ × V)}, AD f r H xs vs → AD f r H' xs vs
  | [], [], _ => trivial
  | _ :: _, _ :: _, h => ⟨h.1, r.mono e h.2.1, AD.mono e h.2.2⟩
  | [], _ :: _, h => h.elim
  | _ :: _, [], h => h.elim
theorem AD.length {κ δ : Type} {f : κ → δ} {r : Rp α} {H : Hp} : ∀ {xs : List (κ × α)} {vs : List (δ × V)}, AD f r H xs vs → xs.length = vs.length
  | [], [], _ => rfl
  | _ :: _, _ :: _, h => congrArg (· + 1) (AD.length h.2.2)
  | [], _ :: _, h => h.elim
  | _ :: _, [], h => h.elim
def rDic {κ : Type} (k : KK κ) (r : Rp α) : Rp (List (κ × α)) := ⟨fun xs v H => ∃ p kvs, v = .ref p ∧ H p = some (.dK kvs) ∧ AD k.k r H xs kvs, fun e ⟨p, vs, h1, h2, h3⟩ => ⟨p, vs, h1, e _ _ h2, h3.mono e⟩⟩
def cLst (r : Rp α) (xs : List α) : Ct := ⟨fun o G => ∃ vs, o = .lst vs ∧ A2 r G xs vs, fun h ⟨vs, e, q⟩ => ⟨vs, e, q.mono h⟩⟩
def cDic {κ : Type} (k : KK κ) (r : Rp α) (xs : List (κ × α)) : Ct := ⟨fun o G => ∃ kvs, o = .dK kvs ∧ AD k.k r G xs kvs, fun h ⟨vs, e, q⟩ => ⟨vs, e, q.mono h⟩⟩
end
end Y

/-! Y: states, judgements. -/
namespace Y
open PySem PySem.Spec PyProof.Rows L2

/-- where a body began: what was frozen, the heap, what it may change of that -/
structure Bs where
  g : Hp
  h : Hp
  own : List Addr
  /-- what is kept as it is, and not read -/
  kp : Hp := fun _ => none
structure StOk (B : Bs) (S : Sv) (H : Hp) : Prop where
  gy : Ex S.g S.y
  yh : Ex S.y H
  g0 : Ex B.g S.g
  b0 : ∀ a o, B.h a = some o → a ∉ B.own → S.y a = some o
  fr : ∀ a, B.g a = none → B.h a ≠ none → S.g a = none
  tr : ∀ a, B.h a ≠ none → H a ≠ none
  kp : ∀ a o, B.kp a = some o → H a = some o ∧ S.y a = none

def OwL (B : Bs) (S : Sv) (H : Hp) : OS → Prop
  | [] => True
  | e :: r => S.y e.p = none ∧ (∃ o, H e.p = some o ∧ e.c.c o S.g) ∧ ((e.f = true → B.h e.p = none) ∧ B.kp e.p = none) ∧ (∀ q ∈ r, q.p ≠ e.p) ∧ OwL B S H r
theorem OwL.get {B : Bs} {S : Sv} {H : Hp} : ∀ {os : OS} {i : Nat} {e : OE}, OwL B S H os → os[i]? = some e → S.y e.p = none ∧ (∃ o, H e.p = some o ∧ e.c.c o S.g) ∧ ((e.f = true → B.h e.p = none) ∧ B.kp e.p = none)
  | [], _, _, _, h => by simp at h
  | a :: r, 0, e, h, q => by
    have q' : a = e := Option.some.inj q
    subst q'
    exact ⟨h.1, h.2.1, h.2.2.1⟩
  | a :: r, i + 1, e, h, q => OwL.get (i := i) h.2.2.2.2 q
theorem OwL.mem {B : Bs} {S : Sv} {H : Hp} : ∀ {os : OS} {e : OE}, OwL B S H os → e ∈ os → S.y e.p = none ∧ (∃ o, H e.p = some o ∧ e.c.c o S.g) ∧ ((e.f = true → B.h e.p = none) ∧ B.kp e.p = none) := fun {os e} h q => by
  obtain ⟨i, hi, rfl⟩ := List.mem_iff_getElem.mp q
  exact h.get (List.getElem?_eq_getElem hi)
/-- another state in which the same things are owned -/
theorem OwL.move {B B' : Bs} {S S' : Sv} {H H' : Hp} : ∀ {os : OS}, OwL B S H os → S.le S' → (∀ e ∈ os, S'.y e.p = none) → (∀ e ∈ os, ∀ o, H e.p = some o → H' e.p = some o) → (∀ e ∈ os, e.f = true → B.h e.p = none → B'.h e.p = none) → (∀ e ∈ os, B.kp e.p = none → B'.kp e.p = none) → OwL B' S' H' os
  | [], _, _, _, _, _, _ => trivial
  | a :: r, h, l, hy, hh, hb, hk => by
    obtain ⟨h1, ⟨o, h2, h3⟩, h4, h5, h6⟩ := h
    exact ⟨hy a List.mem_cons_self, ⟨o, hh a List.mem_cons_self o h2, a.c.mono l.g h3⟩, ⟨fun q => hb a List.mem_cons_self q (h4.1 q), hk a List.mem_cons_self h4.2⟩, h5, OwL.move h6 l (fun e m => hy e (List.mem_cons_of_mem _ m)) (fun e m => hh e (List.mem_cons_of_mem _ m)) (fun e m => hb e (List.mem_cons_of_mem _ m)) fun e m => hk e (List.mem_cons_of_mem _ m)⟩
theorem OwL.apart {B : Bs} {S : Sv} {H : Hp} : ∀ {os : OS} {i j : Nat} {e u : OE}, OwL B S H os → os[i]? = some e → os[j]? = some u → i ≠ j → e.p ≠ u.p
  | [], _, _, _, _, _, h, _, _ => by simp at h
  | a :: r, 0, 0, _, _, _, _, _, n => (n rfl).elim
  | a :: r, 0, j + 1, e, u, h, q, k, _ => by
    have q' : a = e := Option.some.inj q
    subst q'
    exact (h.2.2.2.1 u (List.mem_of_getElem? (show r[j]? = some u from k))).symm
  | a :: r, i + 1, 0, e, u, h, q, k, _ => by
    have k' : a = u := Option.some.inj k
    subst k'
    exact h.2.2.2.1 e (List.mem_of_getElem? (show r[i]? = some e from q))
  | a :: r, i + 1, j + 1, e, u, h, q, k, n => OwL.apart (i := i) (j := j) h.2.2.2.2 q k fun z => n (congrArg (· + 1) z)
/-- an owned object is written -/
theorem OwL.put {B : Bs} {S : Sv} {H : Hp} {c : Ct} {o : HO} : ∀ {os : OS} {i : Nat} {e : OE}, OwL B S H os → os[i]? = some e → c.c o S.g → OwL B S (upd H e.p o) (os.set i ⟨e.p, c, e.f⟩)
  | [], _, _, _, h, _ => by simp at h
  | a :: r, 0, e, h, q, k => by
    have q' : a = e := Option.some.inj q
    subst q'
    exact ⟨h.1, ⟨o, upd_same, k⟩, h.2.2.1, h.2.2.2.1, h.2.2.2.2.move (.refl S) (fun e m => (h.2.2.2.2.mem m).1) (fun e m o' z => by rw [upd_ne (h.2.2.2.1 e m)]; exact z) (fun _ _ _ z => z) fun _ _ z => z⟩
  | a :: r, i + 1, e, h, q, k => by
    have q' : r[i]? = some e := q
    have ne : a.p ≠ e.p := (h.2.2.2.1 e (List.mem_of_getElem? q')).symm
    obtain ⟨h1, ⟨o', h2, h3⟩, h4, h5, h6⟩ := h
    refine ⟨h1, ⟨o', by rw [upd_ne ne]; exact h2, h3⟩, h4, fun u m => ?_, OwL.put (i := i) h6 q' k⟩
    rcases List.mem_or_eq_of_mem_set m with m | m
    · exact h5 u m
    · subst m; exact ne.symm
theorem OwL.erase {B : Bs} {S : Sv} {H : Hp} : ∀ {os : OS} (i : Nat), OwL B S H os → OwL B S H (os.eraseIdx i)
  | [], _, _ => trivial
  | a :: r, 0, h => h.2.2.2.2
  | a :: r, i + 1, h => ⟨h.1, h.2.1, h.2.2.1, fun u m => h.2.2.2.1 u (List.mem_of_mem_eraseIdx m), OwL.erase (os := r) i h.2.2.2.2⟩
theorem OwL.take {B : Bs} {S : Sv} {H : Hp} : ∀ {os : OS} (n : Nat), OwL B S H os → OwL B S H (os.take n)
  | _, 0, _ => trivial
  | [], _ + 1, _ => trivial
  | a :: r, n + 1, h => ⟨h.1, h.2.1, h.2.2.1, fun u m => h.2.2.2.1 u (List.mem_of_mem_take m), OwL.take n h.2.2.2.2⟩
theorem OwL.drop {B : Bs} {S : Sv} {H : Hp} : ∀ {os : OS} (n : Nat), OwL B S H os → OwL B S H (os.drop n)
  | _, 0, h => h
  | [], _ + 1, _ => trivial
  | a :: r, n + 1, h => OwL.drop (os := r) n h.2.2.2.2
theorem OwL.left {B : Bs} {S : Sv} {H : Hp} : ∀ {os us : OS}, OwL B S H (os ++ us) → OwL B S H os
  | [], _, _ => trivial
  | a :: r, us, h => ⟨h.1, h.2.1, h.2.2.1, fun u m => h.2.2.2.1 u (List.mem_append_left _ m), OwL.left (os := r) h.2.2.2.2⟩
theorem OwL.right {B : Bs} {S : Sv} {H : Hp} : ∀ {os us : OS}, OwL B S H (os ++ us) → OwL B S H us
  | [], _, h => h
  | a :: r, us, h => OwL.right (os := r) h.2.2.2.2
theorem OwL.app {B : Bs} {S : Sv} {H : Hp} : ∀ {os us : OS}, OwL B S H os → OwL B S H us → (∀ e ∈ os, ∀ u ∈ us, u.p ≠ e.p) → OwL B S H (os ++ us)
  | [], _, _, h, _ => h
  | a :: r, us, h, k, n => ⟨h.1, h.2.1, h.2.2.1, fun u m => by
      rcases List.mem_append.mp m with m | m
      · exact h.2.2.2.1 u m
      · exact n a List.mem_cons_self u m, OwL.app h.2.2.2.2 k fun e m u z => n e (List.mem_cons_of_mem _ m) u z⟩
theorem OwL.sep {B : Bs} {S : Sv} {H : Hp} : ∀ {os us : OS}, OwL B S H (os ++ us) → ∀ e ∈ os, ∀ u ∈ us, u.p ≠ e.p
  | [], _, _, _, m, _, _ => by simp at m
  | a :: r, us, h, e, m, u, z => by
    rcases List.mem_cons.mp m with q | q
    · subst q; exact h.2.2.2.1 u (List.mem_append_right _ z)
    · exact OwL.sep (os := r) h.2.2.2.2 e q u z

/-! ### slots -/
def Sl (S : Sv) (σ : L2.St) (as : SA) : Prop := as.length ≤ σ.length ∧ ∀ (i : Nat) (P : VP), as[i]? = some (some P) → ∃ v, σ[i]? = some (some v) ∧ P.p v S
theorem Sl.mono {S S' : Sv} {σ : L2.St} {as : SA} (h : Sl S σ as) (l : S.le S') : Sl S' σ as := ⟨h.1, fun i P e => by
  obtain ⟨v, h1, h2⟩ := h.2 i P e
  exact ⟨v, h1, P.mono l h2⟩⟩
theorem Sl.set {S : Sv} {σ : L2.St} {as : SA} {i : Nat} {v : V} {P : VP} (h : Sl S σ as) (q : P.p v S) : Sl S (σ.set i (some v)) (as.set i (some P)) := by
  refine ⟨by rw [List.length_set, List.length_set]; exact h.1, fun j Q e => ?_⟩
  by_cases hj : i = j
  · subst hj
    have hi : i < as.length := by
      have z := (List.getElem?_eq_some_iff.mp e).1
      rw [List.length_set] at z
      exact z
    rw [List.getElem?_set_self hi] at e
    have e' : P = Q := by injection e with e; injection e
    subst e'
    exact ⟨v, List.getElem?_set_self (Nat.lt_of_lt_of_le hi h.1), q⟩
  · rw [List.getElem?_set_ne hj] at e ⊢
    exact h.2 j Q e
theorem Sl.un {S : Sv} {σ : L2.St} {as : SA} {i : Nat} {x : Option V} (h : Sl S σ as) : Sl S (σ.set i x) (as.set i none) := by
  refine ⟨by rw [List.length_set, List.length_set]; exact h.1, fun j Q e => ?_⟩
  by_cases hj : i = j
  · subst hj
    have hi : i < as.length := by
      have z := (List.getElem?_eq_some_iff.mp e).1
      rw [List.length_set] at z
      exact z
    rw [List.getElem?_set_self hi] at e
    injection e with e
    cases e
  · rw [List.getElem?_set_ne hj] at e ⊢
    exact h.2 j Q e
/-- forgetting, weakening -/
def Wk : SA → SA → Prop
  | _, [] => True
  | a :: as, b :: bs => (b = none ∨ b = a) ∧ Wk as bs
  | [], _ :: _ => False
theorem Wk.len : ∀ {as bs : SA}, Wk as bs → bs.length ≤ as.length
  | _, [], _ => Nat.zero_le _
  | _ :: _, _ :: _, h => Nat.succ_le_succ (Wk.len h.2)
  | [], _ :: _, h => h.elim
theorem Wk.at : ∀ {as bs : SA} {i : Nat} {P : VP}, Wk as bs → bs[i]? = some (some P) → as[i]? = some (some P)
  | _, [], _, _, _, h => by simp at h
  | a :: _, b :: _, 0, P, h, e => by
    have e' : b = some P := Option.some.inj e
    rcases h.1 with q | q
    · rw [q] at e'; cases e'
    · rw [← q, e']; rfl
  | _ :: as, _ :: bs, i + 1, P, h, e => Wk.at (i := i) h.2 e
  | [], _ :: _, _, _, h, _ => h.elim
theorem Sl.wk {S : Sv} {σ : L2.St} {as bs : SA} (h : Sl S σ as) (w : Wk as bs) : Sl S σ bs := ⟨Nat.le_trans w.len h.1, fun i P e => h.2 i P (w.at e)⟩
theorem Wk.refl : ∀ as : SA, Wk as as
  | [] => trivial
  | _ :: as => ⟨.inr rfl, Wk.refl as⟩
theorem Wk.trans : ∀ {as bs cs : SA}, Wk as bs → Wk bs cs → Wk as cs
  | _, _, [], _, _ => by unfold Wk; trivial
  | a :: as, b :: bs, c :: cs, h, k => ⟨by
      rcases k.1 with q | q
      · exact .inl q
      · rcases h.1 with z | z
        · exact .inl (q.trans z)
        · exact .inr (q.trans z), Wk.trans h.2 k.2⟩
  | _, [], _ :: _, _, k => k.elim
  | [], _ :: _, _ :: _, h, _ => h.elim
theorem AV.mono {S S' : Sv} (l : S.le S') : ∀ {vs : List V} {Ps : List VP}, AV S vs Ps → AV S' vs Ps
  | [], [], _ => trivial
  | _ :: _, P :: _, h => ⟨P.mono l h.1, AV.mono l h.2⟩
  | [], _ :: _, h => h.elim
  | _ :: _, [], h => h.elim
theorem AV.length {S : Sv} : ∀ {vs : List V} {Ps : List VP}, AV S vs Ps → vs.length = Ps.length
  | [], [], _ => rfl
  | _ :: _, P :: _, h => congrArg (· + 1) (AV.length h.2)
  | [], _ :: _, h => h.elim
  | _ :: _, [], h => h.elim
theorem AV.a2 {α : Type} {S : Sv} {w : Bool} {r : Rp α} : ∀ {xs : List α} {vs : List V}, AV S vs (xs.map (VP.at w r)) → A2 r (S.at w) xs vs
  | [], [], _ => trivial
  | _ :: _, _ :: _, h => ⟨h.1, AV.a2 h.2⟩
  | _ :: _, [], h => h.elim
  | [], _ :: _, h => h.elim

/-! ### the judgement of an expression -/
structure Cf where
  B : Bs
  W : WX
  ax : SA
  ox : OS
  xr : Er → Value → Option Addr → Hp → Hp → Prop
def Cf.xq (C : Cf) (L : Sv) (e : Er) : Prop := ∀ cls d S H σ, L.le S → StOk C.B S H → Sl S σ C.ax → OwL C.B S H C.ox → C.xr e cls d S.g H → C.W cls d σ H
theorem xq_le {C : Cf} {L L' : Sv} {e : Er} (z : C.xq L e) (h : L.le L' := by first | exact Sv.le.refl _ | assumption | exact Sv.le.trans (by assumption) (by assumption)) : C.xq L' e := fun cls d S H σ l => z cls d S H σ (h.trans l)
structure Ok (X : Cx) (C : Cf) (k : Nat) : Prop where
  calm : X.calm = true
  nd : X.N.Nodup
  room : Room k X.A
  tk : Takes X C.W
  po : PassesOwn (model X.prog X.w) X.A X.env X.xe
theorem Ok.hu {X : Cx} {C : Cf} {k : Nat} (o : Ok X C k) : X.A.units + 1 < cLine := hu_of o.room

section
variable {ς α π : Type}
def tG (C : Cf) (as : SA) (O : ς → OS) (m : SM ς α) (P : α → π → VP) (nw : α → π → OS) : TE := fun σ H Q =>
  ∃ (s : ς) (S : Sv), StOk C.B S H ∧ Sl S σ as ∧ OwL C.B S H (O s) ∧
    (m s).post (fun z => ∀ (q : π) (v : V) (S' : Sv) (H' : Hp), S.le S' → StOk C.B S' H' → OwL C.B S' H' (nw z.1 q ++ O z.2) → (P z.1 q).p v S' → Q v H') (C.xq S)
structure HG (X : Cx) (C : Cf) (e : Expr) (as : SA) (O : ς → OS) (m : SM ς α) (P : α → π → VP) (nw : α → π → OS) : Prop where
  pe : PE X e (tG C as O m P nw)
/-- nothing new is owned -/
abbrev HX (X : Cx) (C : Cf) (e : Expr) (as : SA) (O : ς → OS) (m : SM ς α) (P : α → VP) : Prop := HG (π := Unit) X C e as O m (fun a _ => P a) (fun _ _ => [])
/-- a new object -/
abbrev HN (X : Cx) (C : Cf) (e : Expr) (as : SA) (O : ς → OS) (m : SM ς α) (c : α → Ct) : Prop := HG (π := Addr) X C e as O m (fun _ p => VP.ptr p) (fun a p => [⟨p, c a, true⟩])
/-- a test -/
def tT (C : Cf) (as : SA) (O : ς → OS) (m : SM ς Bool) : TT := fun σ H Q =>
  ∃ (s : ς) (S : Sv), StOk C.B S H ∧ Sl S σ as ∧ OwL C.B S H (O s) ∧
    (m s).post (fun z => ∀ (S' : Sv) (H' : Hp), S.le S' → StOk C.B S' H' → OwL C.B S' H' (O z.2) → Q z.1 H') (C.xq S)
structure HT (X : Cx) (C : Cf) (e : Expr) (as : SA) (O : ς → OS) (m : SM ς Bool) : Prop where
  pt : PT X e (tT C as O m)
structure HW (X : Cx) (C : Cf) (e : Expr) (as : SA) (O : ς → OS) (m : SM ς Bool) : Prop where
  pw : PW X e (tT C as O m)
/-- arguments -/
def tA (C : Cf) (as : SA) (O : ς → OS) (m : SM ς α) (P : α → List VP) : TA := fun σ H Q =>
  ∃ (s : ς) (S : Sv), StOk C.B S H ∧ Sl S σ as ∧ OwL C.B S H (O s) ∧
    (m s).post (fun z => ∀ (vs : List V) (S' : Sv) (H' : Hp), S.le S' → StOk C.B S' H' → OwL C.B S' H' (O z.2) → AV S' vs (P z.1) → Q vs H') (C.xq S)
structure HA (X : Cx) (C : Cf) (es : List Expr) (as : SA) (O : ς → OS) (m : SM ς α) (P : α → List VP) : Prop where
  pa : PA X es (tA C as O m P)
end
theorem pe_weak {X : Cx} {e : Expr} {t t' : TE} (h : PE X e t) (w : ∀ σ H Q, t' σ H Q → t σ H Q) : PE X e t' := ⟨fun pins s σ H Q I q => h.run pins s σ H Q I (w σ H Q q)⟩
theorem pt_weak {X : Cx} {e : Expr} {t t' : TT} (h : PT X e t) (w : ∀ σ H Q, t' σ H Q → t σ H Q) : PT X e t' := ⟨fun pins s σ H Q I q => h.run pins s σ H Q I (w σ H Q q)⟩
theorem pw_weak {X : Cx} {e : Expr} {t t' : TT} (h : PW X e t) (w : ∀ σ H Q, t' σ H Q → t σ H Q) : PW X e t' := ⟨fun wh pins s σ H Q I q => h.run wh pins s σ H Q I (w σ H Q q)⟩
theorem pa_weak {X : Cx} {e : List Expr} {t t' : TA} (h : PA X e t) (w : ∀ σ H Q, t' σ H Q → t σ H Q) : PA X e t' := ⟨fun pos pins s σ H Q I q => h.run pos pins s σ H Q I (w σ H Q q)⟩

/-! ### growing states -/
section
variable {B : Bs} {S : Sv} {H : Hp} {p : Addr} {o : HO}
theorem StOk.ynone (k : StOk B S H) (h : H p = none) : S.y p = none := k.yh.none h
theorem StOk.gnone (k : StOk B S H) (h : S.y p = none) : S.g p = none := k.gy.none h
/-- a new object, not owned: frozen at once -/
def Sv.add (S : Sv) (p : Addr) (o : HO) : Sv := ⟨upd S.g p o, upd S.y p o⟩
theorem Sv.le_add (hy : S.y p = none) (hg : S.g p = none) : S.le (S.add p o) := ⟨Ex.new hg, Ex.new hy⟩
theorem StOk.frz (k : StOk B S H) (hy : S.y p = none) (hb : B.h p = none) (hk : B.kp p = none) (hp : H p = some o) : StOk B (S.add p o) H where
  gy := k.gy.add hy
  yh := k.yh.upd hp
  g0 := k.g0.trans (Ex.new (k.gnone hy))
  b0 := fun a u h n => by
    have z := k.b0 a u h n
    show upd S.y p o a = some u
    rw [upd_ne (ne_of_none z hy)]
    exact z
  fr := fun a h n => by
    show upd S.g p o a = none
    have ne : a ≠ p := fun z => n (by rw [z]; exact hb)
    rw [upd_ne ne]
    exact k.fr a h n
  tr := k.tr
  kp := fun a u h => by
    obtain ⟨h1, h2⟩ := k.kp a u h
    refine ⟨h1, ?_⟩
    show upd S.y p o a = none
    rw [upd_ne fun z => by rw [z, hk] at h; cases h]
    exact h2
theorem StOk.bnone (k : StOk B S H) (h : H p = none) : B.h p = none := by
  cases q : B.h p with
  | none => rfl
  | some u => exact (k.tr p (by rw [q]; intro z; cases z) h).elim
theorem StOk.knone (k : StOk B S H) (h : H p = none) : B.kp p = none := by
  cases q : B.kp p with
  | none => rfl
  | some u => rw [(k.kp p u q).1] at h; cases h
/-- an object that is not readable is written -/
theorem StOk.put (k : StOk B S H) (h : S.y p = none) (hk : B.kp p = none) : StOk B S (upd H p o) := ⟨k.gy, k.yh.mut h, k.g0, k.b0, k.fr, (fun a n => by
  by_cases z : a = p
  · subst z; rw [upd_same]; intro q; cases q
  · rw [upd_ne z]; exact k.tr a n), fun a u q => by
  obtain ⟨h1, h2⟩ := k.kp a u q
  rw [upd_ne fun z => by rw [z, hk] at q; cases q]
  exact ⟨h1, h2⟩⟩
/-- the heap grows by a new object -/
theorem StOk.grow (k : StOk B S H) (h : H p = none) : StOk B S (upd H p o) := k.put (k.yh.none h) (k.knone h)
theorem OwL.grow {os : OS} (k : OwL B S H os) (h : H p = none) : OwL B S (upd H p o) os := k.move (.refl S) (fun e m => (k.mem m).1) (fun e m u z => by rw [upd_ne (ne_of_none z h)]; exact z) (fun _ _ _ z => z) fun _ _ z => z
theorem OwL.add {os : OS} (k : OwL B S H os) (hy : S.y p = none) (hg : S.g p = none) (n : ∀ e ∈ os, e.p ≠ p) : OwL B (S.add p o) H os := k.move (Sv.le_add hy hg) (fun e m => by
    show upd S.y p o e.p = none
    rw [upd_ne (n e m)]; exact (k.mem m).1) (fun _ _ _ z => z) (fun _ _ _ z => z) fun _ _ z => z
/-- a new object goes to the owned ones -/
theorem OwL.new {os : OS} {c : Ct} (k : OwL B S H os) (st : StOk B S H) (h : H p = none) (q : c.c o S.g) : OwL B S (upd H p o) (⟨p, c, true⟩ :: os) :=
  ⟨st.ynone h, ⟨o, upd_same, q⟩, ⟨fun _ => st.bnone h, st.knone h⟩, (fun e m z => by
    obtain ⟨_, ⟨u, e1, _⟩, _⟩ := k.mem m
    have z' : e.p = p := z
    rw [z', h] at e1; cases e1), k.grow h⟩
/-- .. or is frozen at once -/
theorem StOk.newF (k : StOk B S H) (h : H p = none) : StOk B (S.add p o) (upd H p o) := (k.grow h).frz (k.ynone h) (k.bnone h) (k.knone h) upd_same
theorem OwL.newF {os : OS} (k : OwL B S H os) (st : StOk B S H) (h : H p = none) : OwL B (S.add p o) (upd H p o) os := (k.grow h).add (st.ynone h) (st.gnone (st.ynone h)) fun e m z => by
    obtain ⟨_, ⟨u, e1, _⟩, _⟩ := k.mem m
    rw [z, h] at e1; cases e1
theorem StOk.leF (k : StOk B S H) (h : H p = none) : S.le (S.add p o) := Sv.le_add (k.ynone h) (k.gnone (k.ynone h))
theorem Sv.add_at (w : Bool) : (S.add p o).at w p = some o := by cases w <;> exact upd_same
theorem StOk.atH (k : StOk B S H) (w : Bool) : Ex (S.at w) H := by
  cases w
  · exact k.yh
  · exact k.gy.trans k.yh
end

/-! ### a new object that stays frozen -/
section
variable {ς α : Type} {X : Cx} {C : Cf} {e : Expr} {as : SA} {O : ς → OS} {m : SM ς α}
theorem HG.frz {c : α → Ct} {P : α → VP} (h : HN X C e as O m c) (hc : ∀ a p o S, (c a).c o S.g → S.g p = some o → (P a).p (.ref p) S) : HX X C e as O m P := ⟨pe_weak h.pe fun σ H Q ⟨s, S, st, sl, ow, q⟩ => by
  refine ⟨s, S, st, sl, ow, R.post_mono q (fun z k p v S' H' l st' ow' hv => ?_) fun _ z => xq_le z⟩
  have hv' : v = .ref p := hv
  subst hv'
  obtain ⟨h1, ⟨o, h2, h3⟩, h4, h5, h6⟩ := ow'
  have l2 : S'.le (S'.add p o) := Sv.le_add h1 (st'.gnone h1)
  exact k () (.ref p) (S'.add p o) H' (l.trans l2) (st'.frz h1 (h4.1 rfl) h4.2 h2) (h6.add h1 (st'.gnone h1) fun e m => h5 e m) (hc z.1 p o _ ((c z.1).mono l2.g h3) upd_same)⟩
theorem HG.frzL {β : Type} {r : Rp β} {f : α → List β} (h : HN X C e as O m fun a => cLst r (f a)) : HX X C e as O m fun a => VP.at true (rLst X.K r) (f a) :=
  h.frz fun a p o S hc hg => by
    obtain ⟨vs, e1, h1⟩ := hc
    subst e1
    exact ⟨p, vs, rfl, SqL.of hg, h1⟩
theorem HG.frzD {κ β : Type} {k : KK κ} {r : Rp β} {f : α → List (κ × β)} (h : HN X C e as O m fun a => cDic k r (f a)) : HX X C e as O m fun a => VP.at true (rDic k r) (f a) :=
  h.frz fun a p o S hc hg => by
    obtain ⟨vs, e1, h1⟩ := hc
    subst e1
    exact ⟨p, vs, rfl, hg, h1⟩
end
end Y

/-! Y: names, constants, operators, comparisons, tests, tuples and lists as displays. -/
namespace Y
open PySem PySem.Spec PyProof.Rows L2

section
variable {ς α β γ δ π : Type} {X : Cx} {C : Cf} {as : SA} {O : ς → OS} {a b c e : Expr} {es : List Expr} {pos : Pos}

def Res (C : Cf) (S : Sv) (H : Hp) (os : OS) (m : R γ) (P : γ → π → VP) (nw : γ → π → OS) (Q : VK) : Prop :=
  m.post (fun z => ∀ (q : π) (v : V) (S' : Sv) (H' : Hp), S.le S' → StOk C.B S' H' → OwL C.B S' H' (nw z q ++ os) → (P z q).p v S' → Q v H') (C.xq S)
def OV2 (C : Cf) (r : R2) (P1 : α → VP) (P2 : β → VP) (f : α → β → R γ) (P : γ → π → VP) (nw : γ → π → OS) : Prop :=
  ∀ (x : α) (y : β) (v u : V) (S : Sv) (H : Hp) (os : OS) (Q : VK), StOk C.B S H → OwL C.B S H os → (P1 x).p v S → (P2 y).p u S → Res C S H os (f x y) P nw Q → r v u H Q
def OV1 (C : Cf) (r : V → Hp → VK → Prop) (P1 : α → VP) (f : α → R γ) (P : γ → π → VP) (nw : γ → π → OS) : Prop :=
  ∀ (x : α) (v : V) (S : Sv) (H : Hp) (os : OS) (Q : VK), StOk C.B S H → OwL C.B S H os → (P1 x).p v S → Res C S H os (f x) P nw Q → r v H Q
def OVA (C : Cf) (r : List V → Hp → VK → Prop) (Ps : α → List VP) (f : α → R γ) (P : γ → π → VP) (nw : γ → π → OS) : Prop :=
  ∀ (x : α) (vs : List V) (S : Sv) (H : Hp) (os : OS) (Q : VK), StOk C.B S H → OwL C.B S H os → AV S vs (Ps x) → Res C S H os (f x) P nw Q → r vs H Q
/-- .. a method: the receiver, the arguments -/
def OVM (C : Cf) (r : V → List V → Hp → VK → Prop) (P1 : α → VP) (Ps : β → List VP) (f : α → β → R γ) (P : γ → π → VP) (nw : γ → π → OS) : Prop :=
  ∀ (x : α) (y : β) (v : V) (vs : List V) (S : Sv) (H : Hp) (os : OS) (Q : VK), StOk C.B S H → OwL C.B S H os → (P1 x).p v S → AV S vs (Ps y) → Res C S H os (f x y) P nw Q → r v vs H Q
/-- a result that is there at once -/
theorem Res.imm {S : Sv} {H : Hp} {os : OS} {z : γ} {P : γ → VP} {Q : VK} {v : V} (h : Res (π := Unit) C S H os (.ok z) (fun z _ => P z) (fun _ _ => []) Q) (st : StOk C.B S H) (ow : OwL C.B S H os) (hp : (P z).p v S) : Q v H := h () v S H (.refl S) st ow hp
/-- a result that is a new frozen object -/
theorem Res.newF {S : Sv} {H : Hp} {os : OS} {z : γ} {P : γ → VP} {Q : VK} {p : Addr} {o : HO} (h : Res (π := Unit) C S H os (.ok z) (fun z _ => P z) (fun _ _ => []) Q) (st : StOk C.B S H) (ow : OwL C.B S H os) (n : H p = none) (hp : (P z).p (.ref p) (S.add p o)) : Q (.ref p) (upd H p o) :=
  h () (.ref p) (S.add p o) (upd H p o) (st.leF n) (st.newF n) (ow.newF st n) hp
/-- a result that is a new owned object -/
theorem Res.newO {S : Sv} {H : Hp} {os : OS} {z : γ} {c : γ → Ct} {Q : VK} {p : Addr} {o : HO} (h : Res (π := Addr) C S H os (.ok z) (fun _ p => VP.ptr p) (fun z p => [⟨p, c z, true⟩]) Q) (st : StOk C.B S H) (ow : OwL C.B S H os) (n : H p = none) (hp : (c z).c o S.g) : Q (.ref p) (upd H p o) :=
  h p (.ref p) S (upd H p o) (.refl S) (st.grow n) (ow.new st n hp) rfl
theorem Res.guard {c : Prop} [Decidable c] {S : Sv} {H : Hp} {os : OS} {m : R γ} {P : γ → π → VP} {nw : γ → π → OS} {Q : VK} (h : Res C S H os ((R.guard c).bind fun _ => m) P nw Q) : c ∧ Res C S H os m P nw Q := R.guard_post.mp (R.post_bind.mp h)
theorem Res.ofO {S : Sv} {H : Hp} {os : OS} {m : Option δ} {k : δ → R γ} {P : γ → π → VP} {nw : γ → π → OS} {Q : VK} (h : Res C S H os ((R.ofO m).bind k) P nw Q) : ∃ a, m = some a ∧ Res C S H os (k a) P nw Q := R.ofO_post.mp (R.post_bind.mp h)
theorem Res.ofO1 {S : Sv} {H : Hp} {os : OS} {m : Option γ} {P : γ → π → VP} {nw : γ → π → OS} {Q : VK} (h : Res C S H os (R.ofO m) P nw Q) : ∃ a, m = some a ∧ Res C S H os (.ok a) P nw Q := R.ofO_post.mp h

/-! ### names, constants -/
theorem hx_at {i : Nat} {x : Str} {P : VP} {z : α} {P' : α → VP} (h : as[i]? = some (some P)) (hN : X.N[i]? = some x) (hv : Vis X.env.scope x) (hp : P = P' z) (hd : (x == ("__debug__" : Str)) = false := by decide) (hcd : (x == ("__classdict__" : Str)) = false := by decide) :
    HX X C (.Name x pos) as O (SM.ret z) P' := ⟨pe_weak (pe_var hN hv hd hcd) fun σ H Q ⟨s, S, st, sl, ow, q⟩ => by
  obtain ⟨v, h1, h2⟩ := sl.2 i P h
  refine ⟨v, h1, q () v S H (.refl S) st ow ?_⟩
  show (P' z).p v S
  rw [← hp]
  exact h2⟩
theorem hx_var {w : Bool} {r : Rp α} {z : α} (i : Nat) {x : Str} (h : as[i]? = some (some (VP.at w r z)) := by rfl) (hN : X.N[i]? = some x := by rfl) (hv : Vis X.env.scope x := by first | exact Or.inl rfl | exact Or.inr (Or.inl rfl) | exact Or.inr (Or.inr rfl))
    (hd : (x == ("__debug__" : Str)) = false := by decide) (hcd : (x == ("__classdict__" : Str)) = false := by decide) : HX X C (.Name x pos) as O (SM.ret z) (VP.at w r) := hx_at h hN hv rfl hd hcd
theorem hx_ptr {p : Addr} (i : Nat) {x : Str} (h : as[i]? = some (some (VP.ptr p)) := by rfl) (hN : X.N[i]? = some x := by rfl) (hv : Vis X.env.scope x := by first | exact Or.inl rfl | exact Or.inr (Or.inl rfl) | exact Or.inr (Or.inr rfl))
    (hd : (x == ("__debug__" : Str)) = false := by decide) (hcd : (x == ("__classdict__" : Str)) = false := by decide) : HX X C (.Name x pos) as O (SM.ret ()) (fun _ => VP.ptr p) := hx_at h hN hv rfl hd hcd
theorem hx_tc {v : V} {z : α} {P : α → VP} (h : PE X e (tC v)) (hp : ∀ S, (P z).p v S) : HX X C e as O (SM.ret z) P := ⟨pe_weak h fun σ H Q ⟨s, S, st, sl, ow, q⟩ => q () v S H (.refl S) st ow (hp S)⟩
theorem hx_int {i : Int} {j : Nat} : HX X C (.Constant (.int i) j pos) as O (SM.ret i) (VP.at true rInt) := hx_tc pe_int fun _ => rfl
theorem hx_bl {i : Bool} {j : Nat} : HX X C (.Constant (.bool i) j pos) as O (SM.ret i) (VP.at true rBl) := hx_tc pe_bl fun _ => rfl
theorem hx_str {i : Str} {j : Nat} : HX X C (.Constant (.str i) j pos) as O (SM.ret i) (VP.at true rStr) := hx_tc pe_str fun _ => rfl
theorem hx_non {j : Nat} : HX X C (.Constant .none j pos) as O (SM.ret ()) (VP.at true rNon) := hx_tc pe_non fun _ => rfl
theorem hx_none {r : Rp α} {j : Nat} : HX X C (.Constant .none j pos) as O (SM.ret (none : Option α)) (VP.at true (rOpt r)) := hx_tc pe_non fun _ => rfl
theorem hx_glob {x : Str} {i : Int} (hm : ∃ t, X.mg x = some (.int i t)) (hg : Gl X x := by rfl) (hd : (x == ("__debug__" : Str)) = false := by decide) : HX X C (.Name x pos) as O (SM.ret i) (VP.at true rInt) := by
  obtain ⟨t, ht⟩ := hm
  exact hx_tc (pe_glob hg ht (show RelV (.int i) _ from ⟨t, rfl⟩) hd) fun _ => rfl
theorem hx_globS {x : Str} {i : Str} (hm : ∃ t, X.mg x = some (.str i t)) (hg : Gl X x := by rfl) (hd : (x == ("__debug__" : Str)) = false := by decide) : HX X C (.Name x pos) as O (SM.ret i) (VP.at true rStr) := by
  obtain ⟨t, ht⟩ := hm
  exact hx_tc (pe_glob hg ht (show RelV (.str i) _ from ⟨t, rfl⟩) hd) fun _ => rfl

/-! ### two values, one after another -/
/-- the state behind two operands -/
theorem hg_two {m1 : SM ς α} {m2 : SM ς β} {P1 : α → VP} {P2 : β → VP} {f : α → β → R γ} {P : γ → π → VP} {nw : γ → π → OS} (ha : HX X C a as O m1 P1) (hb : HX X C b as O m2 P2) {σ : L2.St} {H : Hp} {Q : VK}
    (h : tG C as O (SM.bnd2 f m1 m2) P nw σ H Q) : (tG (π := Unit) C as O m1 (fun x _ => P1 x) fun _ _ => []) σ H fun v H1 => (tG (π := Unit) C as O m2 (fun x _ => P2 x) fun _ _ => []) σ H1 fun u H2 =>
      ∃ x y S os, StOk C.B S H2 ∧ OwL C.B S H2 os ∧ (P1 x).p v S ∧ (P2 y).p u S ∧ Res C S H2 os (f x y) P nw Q := by
  obtain ⟨s, S, st, sl, ow, q⟩ := h
  have q1 := R.post_bind.mp q
  refine ⟨s, S, st, sl, ow, R.post_mono q1 (fun z k _ v S1 H1 l1 st1 ow1 p1 => ?_) fun _ z => xq_le z⟩
  have k1 := R.post_bind.mp k
  refine ⟨z.2, S1, st1, sl.mono l1, ow1, R.post_mono k1 (fun w k2 _ u S2 H2 l2 st2 ow2 p2 => ?_) fun _ z => xq_le z⟩
  refine ⟨z.1, w.1, S2, O w.2, st2, ow2, (P1 z.1).mono l2 p1, p2, ?_⟩
  exact R.post_mono (R.post_bind.mp k2) (fun c k3 q v S3 H3 l3 st3 ow3 p3 => k3 q v S3 H3 ((l1.trans l2).trans l3) st3 ow3 p3) fun _ z => xq_le z
theorem hg_op {op : Operator} {r : R2} {m1 : SM ς α} {m2 : SM ς β} {P1 : α → VP} {P2 : β → VP} {f : α → β → R γ} {P : γ → π → VP} {nw : γ → π → OS} (ho : OpR X (binaryOp op) r) (hv : OV2 C r P1 P2 f P nw) (ha : HX X C a as O m1 P1) (hb : HX X C b as O m2 P2) :
    HG X C (.BinOp a op b pos) as O (SM.bnd2 f m1 m2) P nw := ⟨pe_weak (pe_op ho ha.pe hb.pe) fun σ H Q h => by
  obtain ⟨s, S, st, sl, ow, q⟩ := hg_two ha hb h
  refine ⟨s, S, st, sl, ow, R.post_mono q (fun z k w v S1 H1 l1 st1 ow1 p1 => ?_) fun _ z => xq_le z⟩
  obtain ⟨s', S', st', sl', ow', q'⟩ := k w v S1 H1 l1 st1 ow1 p1
  refine ⟨s', S', st', sl', ow', R.post_mono q' (fun z k w v S1 H1 l1 st1 ow1 p1 => ?_) fun _ z => xq_le z⟩
  obtain ⟨x, y, S2, os, st2, ow2, p1, p2, q2⟩ := k w v S1 H1 l1 st1 ow1 p1
  exact hv x y _ _ S2 _ os Q st2 ow2 p1 p2 q2⟩
theorem hg_ix {r : R2} {m1 : SM ς α} {m2 : SM ς β} {P1 : α → VP} {P2 : β → VP} {f : α → β → R γ} {P : γ → π → VP} {nw : γ → π → OS} (ho : IxR X r) (hv : OV2 C r P1 P2 f P nw) (ha : HX X C a as O m1 P1) (hb : HX X C b as O m2 P2) (hs : PlainIx b := by exact fun _ _ => rfl) :
    HG X C (.Subscript a b pos) as O (SM.bnd2 f m1 m2) P nw := ⟨pe_weak (pe_ix ho ha.pe hb.pe hs) fun σ H Q h => by
  obtain ⟨s, S, st, sl, ow, q⟩ := hg_two ha hb h
  refine ⟨s, S, st, sl, ow, R.post_mono q (fun z k w v S1 H1 l1 st1 ow1 p1 => ?_) fun _ z => xq_le z⟩
  obtain ⟨s', S', st', sl', ow', q'⟩ := k w v S1 H1 l1 st1 ow1 p1
  refine ⟨s', S', st', sl', ow', R.post_mono q' (fun z k w v S1 H1 l1 st1 ow1 p1 => ?_) fun _ z => xq_le z⟩
  obtain ⟨x, y, S2, os, st2, ow2, p1, p2, q2⟩ := k w v S1 H1 l1 st1 ow1 p1
  exact hv x y _ _ S2 _ os Q st2 ow2 p1 p2 q2⟩
theorem hg_cmp {op : CmpOp} {r : R2} {m1 : SM ς α} {m2 : SM ς β} {P1 : α → VP} {P2 : β → VP} {f : α → β → R γ} {P : γ → π → VP} {nw : γ → π → OS} (ho : OpR X (compareOp op) r) (hv : OV2 C r P1 P2 f P nw) (ha : HX X C a as O m1 P1) (hb : HX X C b as O m2 P2) (hm : behindInMarks op b = false) :
    HG X C (.Compare a [op] [b] pos) as O (SM.bnd2 f m1 m2) P nw := ⟨pe_weak (pe_cmpR ho ha.pe hb.pe hm) fun σ H Q h => by
  obtain ⟨s, S, st, sl, ow, q⟩ := hg_two ha hb h
  refine ⟨s, S, st, sl, ow, R.post_mono q (fun z k w v S1 H1 l1 st1 ow1 p1 => ?_) fun _ z => xq_le z⟩
  obtain ⟨s', S', st', sl', ow', q'⟩ := k w v S1 H1 l1 st1 ow1 p1
  refine ⟨s', S', st', sl', ow', R.post_mono q' (fun z k w v S1 H1 l1 st1 ow1 p1 => ?_) fun _ z => xq_le z⟩
  obtain ⟨x, y, S2, os, st2, ow2, p1, p2, q2⟩ := k w v S1 H1 l1 st1 ow1 p1
  exact hv x y _ _ S2 _ os Q st2 ow2 p1 p2 q2⟩
theorem hx_cmp {op : CmpOp} {r : R2} {m1 : SM ς α} {m2 : SM ς β} {P1 : α → VP} {P2 : β → VP} {f : α → β → R Bool} (ho : OpR X (compareOp op) r) (hv : OV2 (π := Unit) C r P1 P2 f (fun b _ => VP.at true rBl b) fun _ _ => []) (ha : HX X C a as O m1 P1) (hb : HX X C b as O m2 P2) (hm : behindInMarks op b = false) :
    HX X C (.Compare a [op] [b] pos) as O (SM.bnd2 f m1 m2) (VP.at true rBl) := hg_cmp ho hv ha hb hm
theorem ht_cmp {op : CmpOp} {r : R2} {m1 : SM ς α} {m2 : SM ς β} {P1 : α → VP} {P2 : β → VP} {f : α → β → R Bool} (ho : OpR X (compareOp op) r) (hv : OV2 (π := Unit) C r P1 P2 f (fun b _ => VP.at true rBl b) fun _ _ => []) (ha : HX X C a as O m1 P1) (hb : HX X C b as O m2 P2) (hm : behindInMarks op b = false) :
    HT X C (.Compare a [op] [b] pos) as O (SM.bnd2 f m1 m2) := ⟨pt_weak (pt_cmpR ho ha.pe hb.pe hm) fun σ H Q ⟨s, S, st, sl, ow, q⟩ => by
  have h : tG (π := Unit) C as O (SM.bnd2 f m1 m2) (fun b _ => VP.at true rBl b) (fun _ _ => []) σ H (fun x H' => ∃ k, x = .bl k ∧ Q k H') := ⟨s, S, st, sl, ow, R.post_mono q (fun z k _ v S' H' l' st' ow' pv => ⟨z.1, pv, k S' H' l' st' ow'⟩) fun _ z => xq_le z⟩
  obtain ⟨s, S, st, sl, ow, q⟩ := hg_two ha hb h
  refine ⟨s, S, st, sl, ow, R.post_mono q (fun z k w v S1 H1 l1 st1 ow1 p1 => ?_) fun _ z => xq_le z⟩
  obtain ⟨s', S', st', sl', ow', q'⟩ := k w v S1 H1 l1 st1 ow1 p1
  refine ⟨s', S', st', sl', ow', R.post_mono q' (fun z k w v S1 H1 l1 st1 ow1 p1 => ?_) fun _ z => xq_le z⟩
  obtain ⟨x, y, S2, os, st2, ow2, p1, p2, q2⟩ := k w v S1 H1 l1 st1 ow1 p1
  exact hv x y _ _ S2 _ os _ st2 ow2 p1 p2 q2⟩

/-! ### whole numbers -/
theorem ov_i {C' : Int → Int → Prop} [∀ i j, Decidable (C' i j)] {g : Int → Int → Int} {w1 w2 : Bool} : OV2 (π := Unit) C (rI C' fun i j => .int (g i j)) (VP.at w1 rInt) (VP.at w2 rInt) (fun i j => (R.guard (C' i j)).bind fun _ => .ok (g i j)) (fun z _ => VP.at true rInt z) (fun _ _ => []) := fun x y v u S H os Q st ow h1 h2 q => by
  obtain ⟨hc, q⟩ := q.guard
  exact ⟨x, y, h1, h2, hc, q.imm st ow rfl⟩
theorem ov_i0 {g : Int → Int → Int} {w1 w2 : Bool} : OV2 (π := Unit) C (rI0 fun i j => .int (g i j)) (VP.at w1 rInt) (VP.at w2 rInt) (fun i j => .ok (g i j)) (fun z _ => VP.at true rInt z) (fun _ _ => []) := fun x y v u S H os Q st ow h1 h2 q => ⟨x, y, h1, h2, q.imm st ow rfl⟩
theorem ov_b0 {g : Int → Int → Bool} {w1 w2 : Bool} : OV2 (π := Unit) C (rI0 fun i j => .bl (g i j)) (VP.at w1 rInt) (VP.at w2 rInt) (fun i j => .ok (g i j)) (fun z _ => VP.at true rBl z) (fun _ _ => []) := fun x y v u S H os Q st ow h1 h2 q => ⟨x, y, h1, h2, q.imm st ow rfl⟩
instance (i j : Int) : Decidable (CMul i j) := by unfold CMul; exact inferInstance
instance (i j : Int) : Decidable (CPow i j) := by unfold CPow; exact inferInstance
instance (i j : Int) : Decidable (CDivW i j) := by unfold CDivW; exact inferInstance
def mulR (i j : Int) : R Int := (R.guard (CMul i j)).bind fun _ => .ok (i * j)
def divR (i j : Int) : R Int := (R.guard (CDivW i j)).bind fun _ => .ok (i / j)
def modR (i j : Int) : R Int := (R.guard (0 < j)).bind fun _ => .ok (i % j)
def powR (i j : Int) : R Int := (R.guard (CPow i j)).bind fun _ => .ok (i ^ j.toNat)
def shlR (i j : Int) : R Int := (R.guard (CPow i j)).bind fun _ => .ok (i * 2 ^ j.toNat)
def shrR (i j : Int) : R Int := (R.guard (0 ≤ j)).bind fun _ => .ok (i / 2 ^ j.toNat)
variable {w1 w2 : Bool} {m1 m2 : SM ς Int}
theorem hx_add (ha : HX X C a as O m1 (VP.at w1 rInt)) (hb : HX X C b as O m2 (VP.at w2 rInt)) : HX X C (.BinOp a .Add b pos) as O (SM.map2 (· + ·) m1 m2) (VP.at true rInt) := hg_op op_add ov_i0 ha hb
theorem hx_sub (ha : HX X C a as O m1 (VP.at w1 rInt)) (hb : HX X C b as O m2 (VP.at w2 rInt)) : HX X C (.BinOp a .Sub b pos) as O (SM.map2 (· - ·) m1 m2) (VP.at true rInt) := hg_op op_sub ov_i0 ha hb
theorem hx_mul (ha : HX X C a as O m1 (VP.at w1 rInt)) (hb : HX X C b as O m2 (VP.at w2 rInt)) : HX X C (.BinOp a .Mult b pos) as O (SM.bnd2 mulR m1 m2) (VP.at true rInt) := hg_op op_mul ov_i ha hb
theorem hx_div (ha : HX X C a as O m1 (VP.at w1 rInt)) (hb : HX X C b as O m2 (VP.at w2 rInt)) : HX X C (.BinOp a .FloorDiv b pos) as O (SM.bnd2 divR m1 m2) (VP.at true rInt) := hg_op op_fdivW ov_i ha hb
theorem hx_mod (ha : HX X C a as O m1 (VP.at w1 rInt)) (hb : HX X C b as O m2 (VP.at w2 rInt)) : HX X C (.BinOp a .Mod b pos) as O (SM.bnd2 modR m1 m2) (VP.at true rInt) := hg_op op_mod ov_i ha hb
theorem hx_pow (ha : HX X C a as O m1 (VP.at w1 rInt)) (hb : HX X C b as O m2 (VP.at w2 rInt)) : HX X C (.BinOp a .Pow b pos) as O (SM.bnd2 powR m1 m2) (VP.at true rInt) := hg_op op_pow ov_i ha hb
theorem hx_shl (ha : HX X C a as O m1 (VP.at w1 rInt)) (hb : HX X C b as O m2 (VP.at w2 rInt)) : HX X C (.BinOp a .LShift b pos) as O (SM.bnd2 shlR m1 m2) (VP.at true rInt) := hg_op op_shl ov_i ha hb
theorem hx_shr (ha : HX X C a as O m1 (VP.at w1 rInt)) (hb : HX X C b as O m2 (VP.at w2 rInt)) : HX X C (.BinOp a .RShift b pos) as O (SM.bnd2 shrR m1 m2) (VP.at true rInt) := hg_op op_shr ov_i ha hb
theorem hx_and (ha : HX X C a as O m1 (VP.at w1 rInt)) (hb : HX X C b as O m2 (VP.at w2 rInt)) : HX X C (.BinOp a .BitAnd b pos) as O (SM.map2 Builtin.bitAnd m1 m2) (VP.at true rInt) := hg_op op_and ov_i0 ha hb
def ltB (i j : Int) : Bool := decide (i < j)
def leB (i j : Int) : Bool := decide (i ≤ j)
def gtB (i j : Int) : Bool := decide (j < i)
def geB (i j : Int) : Bool := decide (j ≤ i)
def eqB (i j : Int) : Bool := decide (i = j)
def neB (i j : Int) : Bool := !decide (i = j)
theorem hx_lt (ha : HX X C a as O m1 (VP.at w1 rInt)) (hb : HX X C b as O m2 (VP.at w2 rInt)) : HX X C (.Compare a [.Lt] [b] pos) as O (SM.map2 ltB m1 m2) (VP.at true rBl) := hx_cmp op_lt ov_b0 ha hb (nomark _)
theorem ht_lt (ha : HX X C a as O m1 (VP.at w1 rInt)) (hb : HX X C b as O m2 (VP.at w2 rInt)) : HT X C (.Compare a [.Lt] [b] pos) as O (SM.map2 ltB m1 m2) := ht_cmp op_lt ov_b0 ha hb (nomark _)
theorem hx_le (ha : HX X C a as O m1 (VP.at w1 rInt)) (hb : HX X C b as O m2 (VP.at w2 rInt)) : HX X C (.Compare a [.LtE] [b] pos) as O (SM.map2 leB m1 m2) (VP.at true rBl) := hx_cmp op_le ov_b0 ha hb (nomark _)
theorem ht_le (ha : HX X C a as O m1 (VP.at w1 rInt)) (hb : HX X C b as O m2 (VP.at w2 rInt)) : HT X C (.Compare a [.LtE] [b] pos) as O (SM.map2 leB m1 m2) := ht_cmp op_le ov_b0 ha hb (nomark _)
theorem hx_gt (ha : HX X C a as O m1 (VP.at w1 rInt)) (hb : HX X C b as O m2 (VP.at w2 rInt)) : HX X C (.Compare a [.Gt] [b] pos) as O (SM.map2 gtB m1 m2) (VP.at true rBl) := hx_cmp op_gt ov_b0 ha hb (nomark _)
theorem ht_gt (ha : HX X C a as O m1 (VP.at w1 rInt)) (hb : HX X C b as O m2 (VP.at w2 rInt)) : HT X C (.Compare a [.Gt] [b] pos) as O (SM.map2 gtB m1 m2) := ht_cmp op_gt ov_b0 ha hb (nomark _)
theorem hx_ge (ha : HX X C a as O m1 (VP.at w1 rInt)) (hb : HX X C b as O m2 (VP.at w2 rInt)) : HX X C (.Compare a [.GtE] [b] pos) as O (SM.map2 geB m1 m2) (VP.at true rBl) := hx_cmp op_ge ov_b0 ha hb (nomark _)
theorem ht_ge (ha : HX X C a as O m1 (VP.at w1 rInt)) (hb : HX X C b as O m2 (VP.at w2 rInt)) : HT X C (.Compare a [.GtE] [b] pos) as O (SM.map2 geB m1 m2) := ht_cmp op_ge ov_b0 ha hb (nomark _)
/-! ### == of scalars -/
theorem ov_eqI : OV2 (π := Unit) C rEq (VP.at w1 rInt) (VP.at w2 rInt) (fun i j => .ok (eqB i j)) (fun z _ => VP.at true rBl z) (fun _ _ => []) := fun x y v u S H os Q st ow h1 h2 q => by
  have e1 : v = .int x := h1
  have e2 : u = .int y := h2
  subst e1; subst e2
  refine ⟨rfl, q.imm st ow ?_⟩
  show V.bl _ = V.bl _
  unfold eqB
  simp
theorem ov_neI : OV2 (π := Unit) C rNe (VP.at w1 rInt) (VP.at w2 rInt) (fun i j => .ok (neB i j)) (fun z _ => VP.at true rBl z) (fun _ _ => []) := fun x y v u S H os Q st ow h1 h2 q => by
  have e1 : v = .int x := h1
  have e2 : u = .int y := h2
  subst e1; subst e2
  refine ⟨rfl, q.imm st ow ?_⟩
  show V.bl _ = V.bl _
  unfold neB
  simp
def eqS (i j : Str) : Bool := decide (i = j)
def neS (i j : Str) : Bool := !decide (i = j)
theorem ov_eqS : OV2 (π := Unit) C rEq (VP.at w1 rStr) (VP.at w2 rStr) (fun i j => .ok (eqS i j)) (fun z _ => VP.at true rBl z) (fun _ _ => []) := fun x y v u S H os Q st ow h1 h2 q => by
  have e1 : v = .str x := h1
  have e2 : u = .str y := h2
  subst e1; subst e2
  refine ⟨rfl, q.imm st ow ?_⟩
  show V.bl _ = V.bl _
  unfold eqS
  simp
theorem ov_neS : OV2 (π := Unit) C rNe (VP.at w1 rStr) (VP.at w2 rStr) (fun i j => .ok (neS i j)) (fun z _ => VP.at true rBl z) (fun _ _ => []) := fun x y v u S H os Q st ow h1 h2 q => by
  have e1 : v = .str x := h1
  have e2 : u = .str y := h2
  subst e1; subst e2
  refine ⟨rfl, q.imm st ow ?_⟩
  show V.bl _ = V.bl _
  unfold neS
  simp
theorem hx_eq (ha : HX X C a as O m1 (VP.at w1 rInt)) (hb : HX X C b as O m2 (VP.at w2 rInt)) : HX X C (.Compare a [.Eq] [b] pos) as O (SM.map2 eqB m1 m2) (VP.at true rBl) := hx_cmp op_eq ov_eqI ha hb (nomark _)
theorem ht_eq (ha : HX X C a as O m1 (VP.at w1 rInt)) (hb : HX X C b as O m2 (VP.at w2 rInt)) : HT X C (.Compare a [.Eq] [b] pos) as O (SM.map2 eqB m1 m2) := ht_cmp op_eq ov_eqI ha hb (nomark _)
theorem hx_ne (ha : HX X C a as O m1 (VP.at w1 rInt)) (hb : HX X C b as O m2 (VP.at w2 rInt)) : HX X C (.Compare a [.NotEq] [b] pos) as O (SM.map2 neB m1 m2) (VP.at true rBl) := hx_cmp op_ne ov_neI ha hb (nomark _)
theorem ht_ne (ha : HX X C a as O m1 (VP.at w1 rInt)) (hb : HX X C b as O m2 (VP.at w2 rInt)) : HT X C (.Compare a [.NotEq] [b] pos) as O (SM.map2 neB m1 m2) := ht_cmp op_ne ov_neI ha hb (nomark _)
variable {n1 n2 : SM ς Str}
theorem hx_eqS (ha : HX X C a as O n1 (VP.at w1 rStr)) (hb : HX X C b as O n2 (VP.at w2 rStr)) : HX X C (.Compare a [.Eq] [b] pos) as O (SM.map2 eqS n1 n2) (VP.at true rBl) := hx_cmp op_eq ov_eqS ha hb (nomark _)
theorem ht_eqS (ha : HX X C a as O n1 (VP.at w1 rStr)) (hb : HX X C b as O n2 (VP.at w2 rStr)) : HT X C (.Compare a [.Eq] [b] pos) as O (SM.map2 eqS n1 n2) := ht_cmp op_eq ov_eqS ha hb (nomark _)
theorem hx_neS (ha : HX X C a as O n1 (VP.at w1 rStr)) (hb : HX X C b as O n2 (VP.at w2 rStr)) : HX X C (.Compare a [.NotEq] [b] pos) as O (SM.map2 neS n1 n2) (VP.at true rBl) := hx_cmp op_ne ov_neS ha hb (nomark _)
theorem ht_neS (ha : HX X C a as O n1 (VP.at w1 rStr)) (hb : HX X C b as O n2 (VP.at w2 rStr)) : HT X C (.Compare a [.NotEq] [b] pos) as O (SM.map2 neS n1 n2) := ht_cmp op_ne ov_neS ha hb (nomark _)
def catS (i j : Str) : R Str := (R.guard (i.length + j.length ≤ 16777216)).bind fun _ => .ok (i ++ j)
theorem hx_cat (ha : HX X C a as O n1 (VP.at w1 rStr)) (hb : HX X C b as O n2 (VP.at w2 rStr)) : HX X C (.BinOp a .Add b pos) as O (SM.bnd2 catS n1 n2) (VP.at true rStr) := hg_op op_add_str (fun x y v u S H os Q st ow h1 h2 q => by
  obtain ⟨hc, q⟩ := q.guard
  exact ⟨x, y, h1, h2, by rw [sizeLine_eq]; exact hc, q.imm st ow rfl⟩) ha hb
theorem hx_neg (ha : HX X C a as O m1 (VP.at w1 rInt)) : HX X C (.UnaryOp .USub a pos) as O (SM.map1 (fun i => -i) m1) (VP.at true rInt) := ⟨pe_weak (pe_un un_neg ha.pe) fun σ H Q ⟨s, S, st, sl, ow, q⟩ =>
  ⟨s, S, st, sl, ow, R.post_mono (R.post_bind.mp q) (fun z k _ v S' H' l' st' ow' pv => ⟨z.1, pv, k () _ S' H' l' st' ow' rfl⟩) fun _ z => xq_le z⟩⟩

/-! ### tests -/
section tests
variable {t1 t2 : SM ς Bool} {rest : List Expr}
def SM.and (m n : SM ς Bool) : SM ς Bool := fun s => (m s).bind fun z => if z.1 = true then n z.2 else .ok (false, z.2)
def SM.or (m n : SM ς Bool) : SM ς Bool := fun s => (m s).bind fun z => if z.1 = true then .ok (true, z.2) else n z.2
def SM.not (m : SM ς Bool) : SM ς Bool := SM.map1 (fun b => !b) m
def SM.ite {α : Type} (m : SM ς Bool) (x y : SM ς α) : SM ς α := fun s => (m s).bind fun z => if z.1 = true then x z.2 else y z.2
theorem ht_val (h : HX X C e as O t1 (VP.at w1 rBl)) (he : ∀ whole, isTrue e X.env whole = (do let v ← whole; standAt e.pos; holding [v] (truthy v)) := by intro _; rfl) : HT X C e as O t1 := ⟨pt_weak (pt_val h.pe he) fun σ H Q ⟨s, S, st, sl, ow, q⟩ =>
  ⟨s, S, st, sl, ow, R.post_mono q (fun z k _ v S' H' l' st' ow' pv => ⟨z.1, pv, k S' H' l' st' ow'⟩) fun _ z => xq_le z⟩⟩
theorem hw_and1 (ha : HT X C a as O t1) : HW X C (.BoolOp .And [a] pos) as O t1 := ⟨pw_and1 ha.pt⟩
theorem hw_or1 (ha : HT X C a as O t1) : HW X C (.BoolOp .Or [a] pos) as O t1 := ⟨pw_or1 ha.pt⟩
theorem hw_and (ha : HT X C a as O t1) (hb : HW X C (.BoolOp .And (b :: rest) pos) as O t2) : HW X C (.BoolOp .And (a :: b :: rest) pos) as O (SM.and t1 t2) := ⟨pw_weak (pw_and ha.pt hb.pw) fun σ H Q ⟨s, S, st, sl, ow, q⟩ =>
  ⟨s, S, st, sl, ow, R.post_mono (R.post_bind.mp q) (fun z k S' H' l' st' ow' => by
    by_cases hz : z.1 = true
    · rw [if_pos hz] at k ⊢
      exact ⟨z.2, S', st', sl.mono l', ow', R.post_mono k (fun w k2 S2 H2 l2 st2 ow2 => k2 S2 H2 (l'.trans l2) st2 ow2) fun _ z => xq_le z⟩
    · rw [if_neg hz] at k ⊢
      exact k S' H' l' st' ow') fun _ z => xq_le z⟩⟩
theorem hw_or (ha : HT X C a as O t1) (hb : HW X C (.BoolOp .Or (b :: rest) pos) as O t2) : HW X C (.BoolOp .Or (a :: b :: rest) pos) as O (SM.or t1 t2) := ⟨pw_weak (pw_or ha.pt hb.pw) fun σ H Q ⟨s, S, st, sl, ow, q⟩ =>
  ⟨s, S, st, sl, ow, R.post_mono (R.post_bind.mp q) (fun z k S' H' l' st' ow' => by
    by_cases hz : z.1 = true
    · rw [if_pos hz] at k ⊢
      exact k S' H' l' st' ow'
    · rw [if_neg hz] at k ⊢
      exact ⟨z.2, S', st', sl.mono l', ow', R.post_mono k (fun w k2 S2 H2 l2 st2 ow2 => k2 S2 H2 (l'.trans l2) st2 ow2) fun _ z => xq_le z⟩) fun _ z => xq_le z⟩⟩
theorem HW.t (h : HW X C e as O t1) : HT X C e as O t1 := ⟨h.pw.pt⟩
theorem ht_not (ha : HT X C a as O t1) : HT X C (.UnaryOp .Not a pos) as O (SM.not t1) := ⟨pt_weak (pt_not ha.pt) fun σ H Q ⟨s, S, st, sl, ow, q⟩ =>
  ⟨s, S, st, sl, ow, R.post_mono (R.post_bind.mp q) (fun z k S' H' l' st' ow' => k S' H' l' st' ow') fun _ z => xq_le z⟩⟩
theorem hx_one {op} (h : HX X C a as O t1 (VP.at w1 rBl)) : HX X C (.BoolOp op [a] pos) as O t1 (VP.at w1 rBl) := ⟨pe_one h.pe⟩
theorem hx_andV (ha : HX X C a as O t1 (VP.at w1 rBl)) (hb : HX X C (.BoolOp .And (b :: rest) pos) as O t2 (VP.at w2 rBl)) : HX X C (.BoolOp .And (a :: b :: rest) pos) as O (SM.and t1 t2) (VP.at true rBl) := ⟨pe_weak (pe_and ha.pe hb.pe) fun σ H Q ⟨s, S, st, sl, ow, q⟩ =>
  ⟨s, S, st, sl, ow, R.post_mono (R.post_bind.mp q) (fun z k _ v S' H' l' st' ow' pv => ⟨z.1, pv, by
    by_cases hz : z.1 = true
    · rw [if_pos hz] at k ⊢
      exact ⟨z.2, S', st', sl.mono l', ow', R.post_mono k (fun w k2 _ v2 S2 H2 l2 st2 ow2 p2 => k2 () v2 S2 H2 (l'.trans l2) st2 ow2 p2) fun _ z => xq_le z⟩
    · rw [if_neg hz] at k ⊢
      exact k () _ S' H' l' st' ow' rfl⟩) fun _ z => xq_le z⟩⟩
theorem hx_orV (ha : HX X C a as O t1 (VP.at w1 rBl)) (hb : HX X C (.BoolOp .Or (b :: rest) pos) as O t2 (VP.at w2 rBl)) : HX X C (.BoolOp .Or (a :: b :: rest) pos) as O (SM.or t1 t2) (VP.at true rBl) := ⟨pe_weak (pe_or ha.pe hb.pe) fun σ H Q ⟨s, S, st, sl, ow, q⟩ =>
  ⟨s, S, st, sl, ow, R.post_mono (R.post_bind.mp q) (fun z k _ v S' H' l' st' ow' pv => ⟨z.1, pv, by
    by_cases hz : z.1 = true
    · rw [if_pos hz] at k ⊢
      exact k () _ S' H' l' st' ow' rfl
    · rw [if_neg hz] at k ⊢
      exact ⟨z.2, S', st', sl.mono l', ow', R.post_mono k (fun w k2 _ v2 S2 H2 l2 st2 ow2 p2 => k2 () v2 S2 H2 (l'.trans l2) st2 ow2 p2) fun _ z => xq_le z⟩⟩) fun _ z => xq_le z⟩⟩
theorem hx_not (ha : HX X C a as O t1 (VP.at w1 rBl)) : HX X C (.UnaryOp .Not a pos) as O (SM.not t1) (VP.at true rBl) := ⟨pe_weak (pe_not ha.pe) fun σ H Q ⟨s, S, st, sl, ow, q⟩ =>
  ⟨s, S, st, sl, ow, R.post_mono (R.post_bind.mp q) (fun z k _ v S' H' l' st' ow' pv => ⟨z.1, pv, k () _ S' H' l' st' ow' rfl⟩) fun _ z => xq_le z⟩⟩
end tests

/-! ### arguments, tuples, lists -/
theorem ha_nil {Ps : Unit → List VP} (h : Ps () = []) : HA X C [] as O (SM.ret ()) Ps := ⟨pa_weak pa_nil fun σ H Q ⟨s, S, st, sl, ow, q⟩ => q [] S H (.refl S) st ow (by rw [h]; trivial)⟩
theorem ha_one {m : SM ς α} {P : α → VP} (h : HX X C e as O m P) (hs : starEach [e] X.env = (false, eval e X.env) :: starEach [] X.env := by rfl) : HA X C [e] as O m (fun x => [P x]) := ⟨pa_weak (pa_cons h.pe pa_nil hs) fun σ H Q ⟨s, S, st, sl, ow, q⟩ =>
  ⟨s, S, st, sl, ow, R.post_mono q (fun z k _ v S' H' l' st' ow' pv => k [v] S' H' l' st' ow' ⟨pv, trivial⟩) fun _ z => xq_le z⟩⟩
theorem ha_cons {m1 : SM ς α} {m2 : SM ς β} {P : α → VP} {Ps : β → List VP} (h : HX X C e as O m1 P) (hr : HA X C es as O m2 Ps) (hs : starEach (e :: es) X.env = (false, eval e X.env) :: starEach es X.env := by rfl) : HA X C (e :: es) as O (SM.map2 Prod.mk m1 m2) (fun x => P x.1 :: Ps x.2) :=
  ⟨pa_weak (pa_cons h.pe hr.pa hs) fun σ H Q ⟨s, S, st, sl, ow, q⟩ =>
  ⟨s, S, st, sl, ow, R.post_mono (R.post_bind.mp q) (fun z k _ v S' H' l' st' ow' pv =>
    ⟨z.2, S', st', sl.mono l', ow', R.post_mono (R.post_bind.mp k) (fun w k2 vs S2 H2 l2 st2 ow2 pvs => k2 (v :: vs) S2 H2 (l'.trans l2) st2 ow2 ⟨(P z.1).mono l2 pv, pvs⟩) fun _ z => xq_le z⟩) fun _ z => xq_le z⟩⟩
theorem hl_nil {r : Rp α} {w : Bool} : HA X C [] as O (SM.ret ([] : List α)) (fun xs => xs.map (VP.at w r)) := ⟨pa_weak pa_nil fun σ H Q ⟨s, S, st, sl, ow, q⟩ => q [] S H (.refl S) st ow trivial⟩
theorem hl_cons {m1 : SM ς α} {m2 : SM ς (List α)} {r : Rp α} {w : Bool} (h : HX X C e as O m1 (VP.at w r)) (hr : HA X C es as O m2 (fun xs => xs.map (VP.at w r))) (hs : starEach (e :: es) X.env = (false, eval e X.env) :: starEach es X.env := by rfl) : HA X C (e :: es) as O (SM.map2 List.cons m1 m2) (fun xs => xs.map (VP.at w r)) :=
  ⟨pa_weak (pa_cons h.pe hr.pa hs) fun σ H Q ⟨s, S, st, sl, ow, q⟩ =>
  ⟨s, S, st, sl, ow, R.post_mono (R.post_bind.mp q) (fun z k _ v S' H' l' st' ow' pv =>
    ⟨z.2, S', st', sl.mono l', ow', R.post_mono (R.post_bind.mp k) (fun w' k2 vs S2 H2 l2 st2 ow2 pvs => k2 (v :: vs) S2 H2 (l'.trans l2) st2 ow2 ⟨(VP.at w r z.1).mono l2 pv, pvs⟩) fun _ z => xq_le z⟩) fun _ z => xq_le z⟩⟩
theorem AV.len_map {r : Rp α} {S : Sv} {w : Bool} {xs : List α} {vs : List V} (h : AV S vs (xs.map (VP.at w r))) : vs.length = xs.length := by rw [h.length, List.length_map]
/-- a list as a display: at most 16 items are written -/
theorem hn_lst {m : SM ς (List α)} {r : Rp α} (h : HA X C es as O m (fun xs => xs.map (VP.at true r))) : HN X C (.List es pos) as O (SM.bnd1 (fun xs => (R.guard (xs.length ≤ 16777216)).bind fun _ => .ok xs) m) (cLst r) := ⟨pe_weak (pe_lst h.pa) fun σ H Q ⟨s, S, st, sl, ow, q⟩ =>
  ⟨s, S, st, sl, ow, R.post_mono (R.post_bind.mp q) (fun z k vs S' H' l' st' ow' pv => by
    obtain ⟨hz, k⟩ := R.guard_post.mp (R.post_bind.mp (R.post_bind.mp k))
    refine ⟨by rw [pv.len_map, sizeLine_eq]; exact hz, fun p hp => ?_⟩
    exact k p (.ref p) S' _ l' (st'.grow hp) (ow'.new st' hp ⟨vs, rfl, pv.a2⟩) rfl) fun _ z => xq_le z⟩⟩
theorem hn_nil {r : Rp α} : HN X C (.List [] pos) as O (SM.ret ([] : List α)) (cLst r) := ⟨pe_weak (pe_lst pa_nil) fun σ H Q ⟨s, S, st, sl, ow, q⟩ =>
  ⟨Nat.zero_le _, fun p hp => q p (.ref p) S _ (.refl S) (st.grow hp) (ow.new st hp ⟨[], rfl, trivial⟩) rfl⟩⟩
theorem hx_tup {m : SM ς α} {t : RT α} {w : Bool} (h : HA X C es as O m (t.vps w)) (hn : t.n ≤ 16777216 := by decide) : HX X C (.Tuple es 0 pos) as O m (VP.at w (rTup X.K t)) := ⟨pe_weak (pe_tup h.pa) fun σ H Q ⟨s, S, st, sl, ow, q⟩ =>
  ⟨s, S, st, sl, ow, R.post_mono q (fun z k vs S' H' l' st' ow' pv => by
    have hr := t.law pv
    refine ⟨by rw [t.len hr, sizeLine_eq]; exact hn, fun p hp => ?_⟩
    have l2 : S'.le (S'.add p (.tup vs)) := st'.leF hp
    exact k () (.ref p) (S'.add p (.tup vs)) _ (l'.trans l2) (st'.newF hp) (ow'.newF st' hp) ⟨p, vs, rfl, .inl (.inl (Sv.add_at w)), t.mono (l2.at w) hr⟩) fun _ z => xq_le z⟩⟩
end
end Y

/-! Y: items, slices, dicts, len and other built-ins. -/
namespace Y
open PySem PySem.Spec PyProof.Rows L2

section
variable {α β γ : Type} {K : PySem.W.Frag}
theorem A2.atI {r : Rp α} {H : Hp} {xs : List α} {vs : List V} {i : Int} {a : α} (h : A2 r H xs vs) (e : atI xs i = some a) : ∃ v, atI vs i = some v ∧ r.rep a v H := by
  unfold L2.atI at e ⊢
  rw [← h.length]
  cases q : ixN xs.length i with
  | none => rw [q] at e; cases e
  | some j =>
    rw [q] at e
    exact h.get (show xs[j]? = some a from e)
/-! ### dicts as lists of pairs -/
def dget {κ : Type} [DecidableEq κ] (d : List (κ × α)) (k : κ) : Option α := (d.find? fun e => decide (e.1 = k)).map (·.2)
def dput {κ : Type} [DecidableEq κ] (d : List (κ × α)) (k : κ) (a : α) : List (κ × α) := if (d.any fun e => decide (e.1 = k)) = true then d.map (fun e => if e.1 = k then (e.1, a) else e) else d ++ [(k, a)]
def ddrop {κ : Type} [DecidableEq κ] (d : List (κ × α)) (k : κ) : List (κ × α) := d.filter fun e => decide (e.1 ≠ k)
section
variable {κ δ : Type} [DecidableEq κ] [DecidableEq δ] {f : κ → δ} {r : Rp α} {H : Hp}
theorem AD.val (inj : ∀ {a b}, f a = f b → a = b) (k : κ) : ∀ {d : List (κ × α)} {kvs : List (δ × V)}, AD f r H d kvs → match dget d k with
    | none => valV kvs (f k) = none
    | some a => ∃ v, valV kvs (f k) = some v ∧ r.rep a v H
  | [], [], _ => rfl
  | e :: d, kv :: kvs, h => by
    have ih := AD.val inj k h.2.2
    by_cases q : e.1 = k
    · have e1 : dget (e :: d) k = some e.2 := by simp [dget, List.find?_cons, q]
      rw [e1]
      exact ⟨kv.2, valV_pos (h.1.trans (congrArg f q)), h.2.1⟩
    · have e1 : dget (e :: d) k = dget d k := by simp [dget, List.find?_cons, q]
      rw [e1, valV_neg (fun z => q (inj (h.1.symm.trans z)))]
      exact ih
  | [], _ :: _, h => h.elim
  | _ :: _, [], h => h.elim
theorem AD.get (inj : ∀ {a b}, f a = f b → a = b) {k : κ} {d : List (κ × α)} {kvs : List (δ × V)} {a : α} (h : AD f r H d kvs) (e : dget d k = some a) : ∃ v, valV kvs (f k) = some v ∧ r.rep a v H := by
  have z := h.val inj k
  rw [e] at z; exact z
theorem AD.isSome (inj : ∀ {a b}, f a = f b → a = b) {k : κ} {d : List (κ × α)} {kvs : List (δ × V)} (h : AD f r H d kvs) : (valV kvs (f k)).isSome = (dget d k).isSome := by
  have z := h.val inj k
  cases e : dget d k with
  | none => rw [e] at z; rw [z]; rfl
  | some a => rw [e] at z; obtain ⟨v, z, _⟩ := z; rw [z]; rfl
theorem AD.any (inj : ∀ {a b}, f a = f b → a = b) {k : κ} : ∀ {d : List (κ × α)} {kvs : List (δ × V)}, AD f r H d kvs → (kvs.any fun e => decide (e.1 = f k)) = (d.any fun e => decide (e.1 = k))
  | [], [], _ => rfl
  | e :: d, kv :: kvs, h => by
    rw [List.any_cons, List.any_cons, AD.any inj h.2.2]
    have : decide (kv.1 = f k) = decide (e.1 = k) := by
      by_cases q : e.1 = k
      · rw [decide_eq_true q, decide_eq_true (h.1.trans (congrArg f q))]
      · rw [decide_eq_false q, decide_eq_false fun z => q (inj (h.1.symm.trans z))]
    rw [this]
  | [], _ :: _, h => h.elim
  | _ :: _, [], h => h.elim
theorem AD.snoc {k : κ} {a : α} {v : V} (hr : r.rep a v H) : ∀ {d : List (κ × α)} {kvs : List (δ × V)}, AD f r H d kvs → AD f r H (d ++ [(k, a)]) (kvs ++ [(f k, v)])
  | [], [], _ => ⟨rfl, hr, trivial⟩
  | e :: d, kv :: kvs, h => ⟨h.1, h.2.1, AD.snoc hr h.2.2⟩
  | [], _ :: _, h => h.elim
  | _ :: _, [], h => h.elim
theorem AD.repl (inj : ∀ {a b}, f a = f b → a = b) {k : κ} {a : α} {v : V} (hr : r.rep a v H) : ∀ {d : List (κ × α)} {kvs : List (δ × V)}, AD f r H d kvs → AD f r H (d.map fun e => if e.1 = k then (e.1, a) else e) (kvs.map fun e => if e.1 = f k then (e.1, v) else e)
  | [], [], _ => trivial
  | e :: d, kv :: kvs, h => by
    rw [List.map_cons, List.map_cons]
    refine ⟨?_, ?_, AD.repl inj hr h.2.2⟩
    · by_cases q : e.1 = k
      · rw [if_pos q, if_pos (h.1.trans (congrArg f q))]; exact h.1
      · rw [if_neg q, if_neg fun z => q (inj (h.1.symm.trans z))]; exact h.1
    · by_cases q : e.1 = k
      · rw [if_pos q, if_pos (h.1.trans (congrArg f q))]; exact hr
      · rw [if_neg q, if_neg fun z => q (inj (h.1.symm.trans z))]; exact h.2.1
  | [], _ :: _, h => h.elim
  | _ :: _, [], h => h.elim
theorem AD.put (inj : ∀ {a b}, f a = f b → a = b) {k : κ} {a : α} {v : V} (hr : r.rep a v H) {d : List (κ × α)} {kvs : List (δ × V)} (h : AD f r H d kvs) : AD f r H (dput d k a) (putK kvs (f k) v) := by
  unfold dput putK
  rw [h.any inj]
  by_cases q : (d.any fun e => decide (e.1 = k)) = true
  · rw [if_pos q, if_pos q]; exact h.repl inj hr
  · rw [if_neg q, if_neg q]; exact h.snoc hr
theorem AD.drop (inj : ∀ {a b}, f a = f b → a = b) {k : κ} : ∀ {d : List (κ × α)} {kvs : List (δ × V)}, AD f r H d kvs → AD f r H (ddrop d k) (dropK kvs (f k))
  | [], [], _ => trivial
  | e :: d, kv :: kvs, h => by
    have ih := AD.drop (k := k) inj h.2.2
    unfold ddrop dropK at ih ⊢
    rw [List.filter_cons, List.filter_cons]
    by_cases q : e.1 = k
    · have q2 : kv.1 = f k := h.1.trans (congrArg f q)
      rw [if_neg (by simp [q]), if_neg (by simp [q2])]; exact ih
    · have q2 : ¬ kv.1 = f k := fun z => q (inj (h.1.symm.trans z))
      rw [if_pos (by simp [q]), if_pos (by simp [q2])]; exact ⟨h.1, h.2.1, ih⟩
  | [], _ :: _, h => h.elim
  | _ :: _, [], h => h.elim
end
end

section
variable {ς α β γ δ π τ : Type} {X : Cx} {C : Cf} {as : SA} {O : ς → OS} {a b c e : Expr} {es : List Expr} {pos : Pos} {w w1 w2 : Bool}
/-! ### items -/
def getI (xs : List α) (i : Int) : R α := R.ofO (atI xs i)
theorem hx_idx {r : Rp α} {m1 : SM ς (List α)} {m2 : SM ς Int} (ha : HX X C a as O m1 (VP.at w (rLst X.K r))) (hb : HX X C b as O m2 (VP.at w2 rInt)) (hs : PlainIx b := by exact fun _ _ => rfl) : HX X C (.Subscript a b pos) as O (SM.bnd2 getI m1 m2) (VP.at w r) :=
  hg_ix ix_list (fun x y v u S H os Q st ow h1 h2 q => by
    obtain ⟨z, hz, q⟩ := q.ofO1
    obtain ⟨p, vs, e1, hl, h3⟩ := h1
    obtain ⟨v', hv, hr⟩ := h3.atI hz
    exact ⟨p, vs, y, v', e1, h2, (st.atH w).seq hl, hv, q.imm st ow hr⟩) ha hb hs
/-- an item of a tuple by its written place -/
theorem hx_tix {t : RT τ} {r : Rp β} {f : τ → β} {k : Nat} {m : SM ς τ} {j : Nat} {pi : Pos} (hc : ∀ x vs H, t.rep x vs H → ∃ v, vs[k]? = some v ∧ r.rep (f x) v H) (ha : HX X C a as O m (VP.at w (rTup X.K t))) :
    HX X C (.Subscript a (.Constant (.int (k : Int)) j pi) pos) as O (SM.map1 f m) (VP.at w r) := ⟨pe_weak (pe_ix ix_tup ha.pe pe_int (fun _ _ => rfl)) fun σ H Q ⟨s, S, st, sl, ow, q⟩ =>
  ⟨s, S, st, sl, ow, R.post_mono (R.post_bind.mp q) (fun z k' _ v S' H' l' st' ow' pv => by
    obtain ⟨p, vs, e1, hl, h3⟩ := pv
    obtain ⟨v', hv, hr⟩ := hc _ _ _ h3
    exact ⟨p, vs, k, v', e1, rfl, (st'.atH w).tup hl, atI_nat hv, k' () v' S' H' l' st' ow' hr⟩) fun _ z => xq_le z⟩⟩
theorem tg_one {r : Rp α} : ∀ x vs H, (RT.one r).rep x vs H → ∃ v, vs[0]? = some v ∧ r.rep x v H := fun x vs H ⟨v, e1, h⟩ => ⟨v, by rw [e1]; rfl, h⟩
theorem tg_0 {r : Rp α} {t : RT β} : ∀ x vs H, (RT.cons r t).rep x vs H → ∃ v, vs[0]? = some v ∧ r.rep x.1 v H := fun x vs H ⟨v, ws, e1, h, _⟩ => ⟨v, by rw [e1]; rfl, h⟩
theorem tg_s {r : Rp α} {t : RT β} {r' : Rp γ} {f : β → γ} {k : Nat} (h : ∀ x vs H, t.rep x vs H → ∃ v, vs[k]? = some v ∧ r'.rep (f x) v H) : ∀ x vs H, (RT.cons r t).rep x vs H → ∃ v, vs[k + 1]? = some v ∧ r'.rep (f x.2) v H := fun x vs H ⟨v, ws, e1, _, h2⟩ => by
  obtain ⟨v', e2, h3⟩ := h _ _ _ h2
  exact ⟨v', by rw [e1]; exact e2, h3⟩
def strAt (z : Str) (i : Int) : R Str := (R.guard (z.length ≤ 16777216)).bind fun _ => (R.ofO (atI z.cps.toList i)).bind fun c => .ok ⟨#[c]⟩
theorem hx_sidx {m1 : SM ς Str} {m2 : SM ς Int} (ha : HX X C a as O m1 (VP.at w rStr)) (hb : HX X C b as O m2 (VP.at w2 rInt)) (hs : PlainIx b := by exact fun _ _ => rfl) : HX X C (.Subscript a b pos) as O (SM.bnd2 strAt m1 m2) (VP.at true rStr) :=
  hg_ix ix_str (fun x y v u S H os Q st ow h1 h2 q => by
    obtain ⟨hz, q⟩ := q.guard
    obtain ⟨c, hc, q⟩ := q.ofO
    exact ⟨x, y, c, h1, h2, by rw [sizeLine_eq]; exact hz, hc, q.imm st ow rfl⟩) ha hb hs
/-! ### slices -/
def tO (C : Cf) (as : SA) (O : ς → OS) (m : SM ς (Option Int)) : TO := fun σ H Q =>
  ∃ (s : ς) (S : Sv), StOk C.B S H ∧ Sl S σ as ∧ OwL C.B S H (O s) ∧
    (m s).post (fun z => ∀ (S' : Sv) (H' : Hp), S.le S' → StOk C.B S' H' → OwL C.B S' H' (O z.2) → Q z.1 H') (C.xq S)
structure HO' (X : Cx) (C : Cf) (e : Option Expr) (as : SA) (O : ς → OS) (m : SM ς (Option Int)) : Prop where
  po : PO X e (tO C as O m)
theorem po_weak {e : Option Expr} {t t' : TO} (h : PO X e t) (w : ∀ σ H Q, t' σ H Q → t σ H Q) : PO X e t' := ⟨fun pins s σ H Q I q => h.run pins s σ H Q I (w σ H Q q)⟩
theorem ho_none : HO' X C none as O (SM.ret none) := ⟨po_weak po_none fun σ H Q ⟨s, S, st, sl, ow, q⟩ => q S H (.refl S) st ow⟩
theorem ho_some {m : SM ς Int} (h : HX X C e as O m (VP.at w rInt)) : HO' X C (some e) as O (SM.map1 some m) := ⟨po_weak (po_some h.pe) fun σ H Q ⟨s, S, st, sl, ow, q⟩ =>
  ⟨s, S, st, sl, ow, R.post_mono (R.post_bind.mp q) (fun z k _ v S' H' l' st' ow' pv => ⟨z.1, pv, k S' H' l' st' ow'⟩) fun _ z => xq_le z⟩⟩
def SM.map3 (f : α → β → γ → δ) (m : SM ς α) (n : SM ς β) (o : SM ς γ) : SM ς δ := fun s => (m s).bind fun z => (n z.2).bind fun w => (o w.2).bind fun u => .ok (f z.1 w.1 u.1, u.2)
def cutL (xs : List α) (lo hi : Option Int) : List α := (xs.drop (HT.sIx xs.length 0 lo)).take (HT.sIx xs.length xs.length hi - HT.sIx xs.length 0 lo)
theorem A2.cut {r : Rp α} {H : Hp} {xs : List α} {vs : List V} (h : A2 r H xs vs) (lo hi : Option Int) : A2 r H (cutL xs lo hi) (cutV vs lo hi) := by
  unfold cutL cutV
  rw [← h.length]
  exact (h.drop _).take _
/-- a part of a list: new; frozen parts -/
theorem hn_cut {r : Rp α} {m : SM ς (List α)} {lo hi : Option Expr} {ml mh : SM ς (Option Int)} {p2 : Pos} (ha : HX X C a as O m (VP.at true (rLst X.K r))) (hl : HO' X C lo as O ml) (hh : HO' X C hi as O mh) : HN X C (.Subscript a (.Slice lo hi none p2) pos) as O (SM.map3 cutL m ml mh) (cLst r) :=
  ⟨pe_weak (pe_slice sl_list ha.pe hl.po hh.po) fun σ H Q ⟨s, S, st, sl, ow, q⟩ =>
  ⟨s, S, st, sl, ow, R.post_mono (R.post_bind.mp q) (fun z k _ v S1 H1 l1 st1 ow1 pv =>
    ⟨z.2, S1, st1, sl.mono l1, ow1, R.post_mono (R.post_bind.mp k) (fun w k2 S2 H2 l2 st2 ow2 =>
      ⟨w.2, S2, st2, (sl.mono l1).mono l2, ow2, R.post_mono (R.post_bind.mp k2) (fun u k3 S3 H3 l3 st3 ow3 => by
        obtain ⟨p, vs, e1, hl, h3⟩ := pv
        have l13 := l2.trans l3
        refine ⟨p, vs, e1, (st3.atH true).seq ((l13.at true).seq hl), fun p' hp => ?_⟩
        exact k3 p' (.ref p') S3 _ (l1.trans l13) (st3.grow hp) (ow3.new st3 hp ⟨_, rfl, (h3.mono l13.g).cut _ _⟩) rfl) fun _ z => xq_le z⟩) fun _ z => xq_le z⟩) fun _ z => xq_le z⟩⟩
/-- .. of items that are not frozen -/
theorem hx_cutS {m : SM ς (List Str)} {lo hi : Option Expr} {ml mh : SM ς (Option Int)} {p2 : Pos} (ha : HX X C a as O m (VP.at false (rLst X.K rStr))) (hl : HO' X C lo as O ml) (hh : HO' X C hi as O mh) : HN X C (.Subscript a (.Slice lo hi none p2) pos) as O (SM.map3 cutL m ml mh) (cLst rStr) :=
  ⟨pe_weak (pe_slice sl_list ha.pe hl.po hh.po) fun σ H Q ⟨s, S, st, sl, ow, q⟩ =>
  ⟨s, S, st, sl, ow, R.post_mono (R.post_bind.mp q) (fun z k _ v S1 H1 l1 st1 ow1 pv =>
    ⟨z.2, S1, st1, sl.mono l1, ow1, R.post_mono (R.post_bind.mp k) (fun w k2 S2 H2 l2 st2 ow2 =>
      ⟨w.2, S2, st2, (sl.mono l1).mono l2, ow2, R.post_mono (R.post_bind.mp k2) (fun u k3 S3 H3 l3 st3 ow3 => by
        obtain ⟨p, vs, e1, hl, h3⟩ := pv
        have l13 := l2.trans l3
        refine ⟨p, vs, e1, (st3.atH false).seq ((l13.at false).seq hl), fun p' hp => ?_⟩
        have h4 : A2 rStr S3.g z.1 vs := by
          have q := h3.str
          subst q
          exact A2.ofStr z.1
        exact k3 p' (.ref p') S3 _ (l1.trans l13) (st3.grow hp) (ow3.new st3 hp ⟨_, rfl, h4.cut _ _⟩) rfl) fun _ z => xq_le z⟩) fun _ z => xq_le z⟩) fun _ z => xq_le z⟩⟩
/-! ### built-in functions and classes -/
theorem hg_callB {id : String} {x : Str} {p : Pos} {r : List V → Hp → VK → Prop} {m : SM ς α} {Ps : α → List VP} {f : α → R γ} {P : γ → π → VP} {nw : γ → π → OS} (hc : CallR X (.builtin id) r) (hv : OVA C r Ps f P nw) (hm : X.mg x = none) (hb : bootBuiltins x = some (.builtin id)) (ha : HA X C (e :: es) as O m Ps)
    (hg : Gl X x := by rfl) (hn : x ≠ "__name__" := by decide) (hdb : (x == ("__debug__" : Str)) = false := by decide)
    (he : starEach (e :: es) X.env = (false, eval e X.env) :: starEach es X.env := by rfl) (hpl : (backTo pos (starEach es X.env)).any (·.1) = false := by rfl) : HG X C (.Call (.Name x p) (e :: es) [] pos) as O (SM.bnd1 f m) P nw :=
  ⟨pe_weak (pe_callB hc hg hm hb ha.pa hn hdb he hpl) fun σ H Q ⟨s, S, st, sl, ow, q⟩ =>
  ⟨s, S, st, sl, ow, R.post_mono (R.post_bind.mp q) (fun z k vs S1 H1 l1 st1 ow1 pv => hv z.1 vs S1 H1 (O z.2) Q st1 ow1 pv (R.post_mono (R.post_bind.mp k) (fun w k2 q v S2 H2 l2 st2 ow2 p2 => k2 q v S2 H2 (l1.trans l2) st2 ow2 p2) fun _ z => xq_le z)) fun _ z => xq_le z⟩⟩
theorem hg_callT {T : String} {x : Str} {p : Pos} {r : List V → Hp → VK → Prop} {m : SM ς α} {Ps : α → List VP} {f : α → R γ} {P : γ → π → VP} {nw : γ → π → OS} (hc : CallR X (.type T) r) (hv : OVA C r Ps f P nw) (hm : X.mg x = none) (hb : bootBuiltins x = some (.type T)) (ha : HA X C (e :: es) as O m Ps)
    (hg : Gl X x := by rfl) (hn : x ≠ "__name__" := by decide) (hdb : (x == ("__debug__" : Str)) = false := by decide)
    (he : starEach (e :: es) X.env = (false, eval e X.env) :: starEach es X.env := by rfl) (hpl : (backTo pos (starEach es X.env)).any (·.1) = false := by rfl) : HG X C (.Call (.Name x p) (e :: es) [] pos) as O (SM.bnd1 f m) P nw :=
  ⟨pe_weak (pe_callTy hc hg hm hb ha.pa hn hdb he hpl) fun σ H Q ⟨s, S, st, sl, ow, q⟩ =>
  ⟨s, S, st, sl, ow, R.post_mono (R.post_bind.mp q) (fun z k vs S1 H1 l1 st1 ow1 pv => hv z.1 vs S1 H1 (O z.2) Q st1 ow1 pv (R.post_mono (R.post_bind.mp k) (fun w k2 q v S2 H2 l2 st2 ow2 p2 => k2 q v S2 H2 (l1.trans l2) st2 ow2 p2) fun _ z => xq_le z)) fun _ z => xq_le z⟩⟩
theorem av1 {S : Sv} {vs : List V} {P : VP} (h : AV S vs [P]) : ∃ v, vs = [v] ∧ P.p v S := match vs, h with
  | [v], h => ⟨v, rfl, h.1⟩
theorem av2 {S : Sv} {vs : List V} {P Q : VP} (h : AV S vs [P, Q]) : ∃ v u, vs = [v, u] ∧ P.p v S ∧ Q.p u S := match vs, h with
  | [v, u], h => ⟨v, u, rfl, h.1, h.2.1⟩
variable {x : Str} {p : Pos}
abbrev xLen : Str := "len"
/-- len of a list -/
theorem hx_lenL {r : Rp α} {m : SM ς (List α)} (hm : X.mg "len" = none) (ha : HX X C e as O m (VP.at w (rLst X.K r))) (hg : Gl X "len" := by rfl)
    (he : starEach [e] X.env = (false, eval e X.env) :: starEach [] X.env := by rfl) (hpl : (backTo pos (starEach [] X.env)).any (·.1) = false := by rfl) : HX X C (.Call (.Name "len" p) [e] [] pos) as O (SM.map1 (fun xs => (xs.length : Int)) m) (VP.at true rInt) :=
  hg_callB (f := fun xs => .ok (xs.length : Int)) call_len_seq (fun x vs S H os Q st ow h q => by
    obtain ⟨v, e1, pv⟩ := av1 h
    subst e1
    obtain ⟨p, vs, e2, hl, h3⟩ := pv
    subst e2
    exact ⟨p, vs, rfl, .inl ((st.atH w).seq hl), q.imm st ow (by show V.int _ = V.int _; rw [h3.length])⟩) hm boot_len (ha_one ha he) hg (by decide) (by decide) he hpl
theorem hx_lenT {t : RT α} {m : SM ς α} (hm : X.mg "len" = none) (ha : HX X C e as O m (VP.at w (rTup X.K t))) (hg : Gl X "len" := by rfl)
    (he : starEach [e] X.env = (false, eval e X.env) :: starEach [] X.env := by rfl) (hpl : (backTo pos (starEach [] X.env)).any (·.1) = false := by rfl) : HX X C (.Call (.Name "len" p) [e] [] pos) as O (SM.map1 (fun _ => (t.n : Int)) m) (VP.at true rInt) :=
  hg_callB (f := fun _ => .ok (t.n : Int)) call_len_seq (fun x vs S H os Q st ow h q => by
    obtain ⟨v, e1, pv⟩ := av1 h
    subst e1
    obtain ⟨p, vs, e2, hl, h3⟩ := pv
    subst e2
    exact ⟨p, vs, rfl, .inr ((st.atH w).tup hl), q.imm st ow (by show V.int _ = V.int _; rw [t.len h3])⟩) hm boot_len (ha_one ha he) hg (by decide) (by decide) he hpl
def lenS (s : Str) : R Int := (R.guard (s.length ≤ 16777216)).bind fun _ => .ok (s.length : Int)
theorem hx_lenS {m : SM ς Str} (hm : X.mg "len" = none) (ha : HX X C e as O m (VP.at w rStr)) (hg : Gl X "len" := by rfl)
    (he : starEach [e] X.env = (false, eval e X.env) :: starEach [] X.env := by rfl) (hpl : (backTo pos (starEach [] X.env)).any (·.1) = false := by rfl) : HX X C (.Call (.Name "len" p) [e] [] pos) as O (SM.bnd1 lenS m) (VP.at true rInt) :=
  hg_callB call_len_str (fun x vs S H os Q st ow h q => by
    obtain ⟨v, e1, pv⟩ := av1 h
    subst e1
    have e2 : v = .str x := pv
    subst e2
    obtain ⟨hz, q⟩ := q.guard
    exact ⟨x, rfl, by rw [sizeLine_eq]; exact hz, q.imm st ow rfl⟩) hm boot_len (ha_one ha he) hg (by decide) (by decide) he hpl
theorem hx_sum {m : SM ς (List Int)} (o : X.calm = true) (hm : X.mg "sum" = none) (ha : HX X C e as O m (VP.at w (rLst X.K rInt))) (hg : Gl X "sum" := by rfl)
    (he : starEach [e] X.env = (false, eval e X.env) :: starEach [] X.env := by rfl) (hpl : (backTo pos (starEach [] X.env)).any (·.1) = false := by rfl) : HX X C (.Call (.Name "sum" p) [e] [] pos) as O (SM.map1 List.sum m) (VP.at true rInt) :=
  hg_callB (f := fun xs => .ok xs.sum) (cr_sum o) (fun x vs S H os Q st ow h q => by
    obtain ⟨v, e1, pv⟩ := av1 h
    subst e1
    obtain ⟨p, vs, e2, hl, h3⟩ := pv
    subst e2
    have e3 := h3.int
    subst e3
    exact ⟨p, x, rfl, (st.atH w).seq hl, q.imm st ow rfl⟩) hm (by decide +kernel) (ha_one ha he) hg (by decide) (by decide) he hpl
/-- the least one; the greatest one -/
def minL : List Int → R Int
  | [] => .no
  | x :: xs => .ok (xs.foldl (fun a b => if b < a then b else a) x)
def maxL : List Int → R Int
  | [] => .no
  | x :: xs => .ok (xs.foldl (fun a b => if b > a then b else a) x)
theorem min_fold : ∀ (xs : List Int) (x : Int), (xs.foldl (fun a b => if b < a then b else a) x) ∈ x :: xs ∧ ∀ y ∈ x :: xs, (xs.foldl (fun a b => if b < a then b else a) x) ≤ y
  | [], x => ⟨List.mem_cons_self, fun y h => by simp at h; subst h; exact Int.le_refl _⟩
  | z :: xs, x => by
    rw [List.foldl_cons]
    by_cases h : z < x
    · rw [if_pos h]
      obtain ⟨h1, h2⟩ := min_fold xs z
      refine ⟨List.mem_cons_of_mem _ h1, fun y hy => ?_⟩
      rcases List.mem_cons.mp hy with e | e
      · subst e; exact Int.le_trans (h2 z List.mem_cons_self) (Int.le_of_lt h)
      · exact h2 y e
    · rw [if_neg h]
      obtain ⟨h1, h2⟩ := min_fold xs x
      refine ⟨?_, fun y hy => ?_⟩
      · rcases List.mem_cons.mp h1 with e | e
        · rw [e]; exact List.mem_cons_self
        · exact List.mem_cons_of_mem _ (List.mem_cons_of_mem _ e)
      · rcases List.mem_cons.mp hy with e | e
        · subst e; exact h2 _ List.mem_cons_self
        · rcases List.mem_cons.mp e with e | e
          · subst e; exact Int.le_trans (h2 x List.mem_cons_self) (Int.not_lt.mp h)
          · exact h2 y (List.mem_cons_of_mem _ e)
theorem max_fold : ∀ (xs : List Int) (x : Int), (xs.foldl (fun a b => if b > a then b else a) x) ∈ x :: xs ∧ ∀ y ∈ x :: xs, y ≤ (xs.foldl (fun a b => if b > a then b else a) x)
  | [], x => ⟨List.mem_cons_self, fun y h => by simp at h; subst h; exact Int.le_refl _⟩
  | z :: xs, x => by
    rw [List.foldl_cons]
    by_cases h : z > x
    · rw [if_pos h]
      obtain ⟨h1, h2⟩ := max_fold xs z
      refine ⟨List.mem_cons_of_mem _ h1, fun y hy => ?_⟩
      rcases List.mem_cons.mp hy with e | e
      · subst e; exact Int.le_trans (Int.le_of_lt h) (h2 z List.mem_cons_self)
      · exact h2 y e
    · rw [if_neg h]
      obtain ⟨h1, h2⟩ := max_fold xs x
      refine ⟨?_, fun y hy => ?_⟩
      · rcases List.mem_cons.mp h1 with e | e
        · rw [e]; exact List.mem_cons_self
        · exact List.mem_cons_of_mem _ (List.mem_cons_of_mem _ e)
      · rcases List.mem_cons.mp hy with e | e
        · subst e; exact h2 _ List.mem_cons_self
        · rcases List.mem_cons.mp e with e | e
          · subst e; exact Int.le_trans (Int.not_lt.mp h) (h2 x List.mem_cons_self)
          · exact h2 y (List.mem_cons_of_mem _ e)
theorem hx_minL {m : SM ς (List Int)} (o : X.calm = true) (hm : X.mg "min" = none) (ha : HX X C e as O m (VP.at w (rLst X.K rInt))) (hg : Gl X "min" := by rfl)
    (he : starEach [e] X.env = (false, eval e X.env) :: starEach [] X.env := by rfl) (hpl : (backTo pos (starEach [] X.env)).any (·.1) = false := by rfl) : HX X C (.Call (.Name "min" p) [e] [] pos) as O (SM.bnd1 minL m) (VP.at true rInt) :=
  hg_callB (cr_min o) (fun x vs S H os Q st ow h q => by
    obtain ⟨v, e1, pv⟩ := av1 h
    subst e1
    obtain ⟨p, vs, e2, hl, h3⟩ := pv
    subst e2
    have e3 := h3.int
    subst e3
    cases x with
    | nil => exact q.elim
    | cons x xs =>
      refine ⟨p, x :: xs, rfl, (st.atH w).seq hl, Nat.succ_pos _, fun k hk hle => ?_⟩
      obtain ⟨f1, f2⟩ := min_fold xs x
      have ek : k = xs.foldl (fun a b => if b < a then b else a) x := Int.le_antisymm (hle _ f1) (f2 _ hk)
      exact q.imm st ow (by show V.int _ = V.int _; rw [ek])) hm (by decide +kernel) (ha_one ha he) hg (by decide) (by decide) he hpl
theorem hx_maxL {m : SM ς (List Int)} (o : X.calm = true) (hm : X.mg "max" = none) (ha : HX X C e as O m (VP.at w (rLst X.K rInt))) (hg : Gl X "max" := by rfl)
    (he : starEach [e] X.env = (false, eval e X.env) :: starEach [] X.env := by rfl) (hpl : (backTo pos (starEach [] X.env)).any (·.1) = false := by rfl) : HX X C (.Call (.Name "max" p) [e] [] pos) as O (SM.bnd1 maxL m) (VP.at true rInt) :=
  hg_callB (cr_max o) (fun x vs S H os Q st ow h q => by
    obtain ⟨v, e1, pv⟩ := av1 h
    subst e1
    obtain ⟨p, vs, e2, hl, h3⟩ := pv
    subst e2
    have e3 := h3.int
    subst e3
    cases x with
    | nil => exact q.elim
    | cons x xs =>
      refine ⟨p, x :: xs, rfl, (st.atH w).seq hl, Nat.succ_pos _, fun k hk hle => ?_⟩
      obtain ⟨f1, f2⟩ := max_fold xs x
      have ek : k = xs.foldl (fun a b => if b > a then b else a) x := Int.le_antisymm (f2 _ hk) (hle _ f1)
      exact q.imm st ow (by show V.int _ = V.int _; rw [ek])) hm (by decide +kernel) (ha_one ha he) hg (by decide) (by decide) he hpl
def max2 (z : Int × Int) : Int := if z.2 > z.1 then z.2 else z.1
def min2 (z : Int × Int) : Int := if z.2 < z.1 then z.2 else z.1
theorem hx_max2 {m : SM ς (Int × Int)} (o : X.calm = true) (hm : X.mg "max" = none) (ha : HA X C [a, b] as O m (fun z => [VP.at w1 rInt z.1, VP.at w2 rInt z.2])) (hg : Gl X "max" := by rfl)
    (he : starEach [a, b] X.env = (false, eval a X.env) :: starEach [b] X.env := by rfl) (hpl : (backTo pos (starEach [b] X.env)).any (·.1) = false := by rfl) : HX X C (.Call (.Name "max" p) [a, b] [] pos) as O (SM.map1 max2 m) (VP.at true rInt) :=
  hg_callB (f := fun z => .ok (max2 z)) (call_max2 o) (fun x vs S H os Q st ow h q => by
    obtain ⟨v, u, e1, p1, p2⟩ := av2 h
    have e2 : v = .int x.1 := p1
    have e3 : u = .int x.2 := p2
    subst e1; subst e2; subst e3
    exact ⟨x.1, x.2, rfl, q.imm st ow rfl⟩) hm (by decide +kernel) ha hg (by decide) (by decide) he hpl
theorem hx_min2 {m : SM ς (Int × Int)} (o : X.calm = true) (hm : X.mg "min" = none) (ha : HA X C [a, b] as O m (fun z => [VP.at w1 rInt z.1, VP.at w2 rInt z.2])) (hg : Gl X "min" := by rfl)
    (he : starEach [a, b] X.env = (false, eval a X.env) :: starEach [b] X.env := by rfl) (hpl : (backTo pos (starEach [b] X.env)).any (·.1) = false := by rfl) : HX X C (.Call (.Name "min" p) [a, b] [] pos) as O (SM.map1 min2 m) (VP.at true rInt) :=
  hg_callB (f := fun z => .ok (min2 z)) (call_min2 o) (fun x vs S H os Q st ow h q => by
    obtain ⟨v, u, e1, p1, p2⟩ := av2 h
    have e2 : v = .int x.1 := p1
    have e3 : u = .int x.2 := p2
    subst e1; subst e2; subst e3
    exact ⟨x.1, x.2, rfl, q.imm st ow rfl⟩) hm (by decide +kernel) ha hg (by decide) (by decide) he hpl
def absI (i : Int) : Int := if i < 0 then -i else i
theorem hx_abs {m : SM ς Int} (hm : X.mg "abs" = none) (ha : HX X C e as O m (VP.at w rInt)) (hg : Gl X "abs" := by rfl)
    (he : starEach [e] X.env = (false, eval e X.env) :: starEach [] X.env := by rfl) (hpl : (backTo pos (starEach [] X.env)).any (·.1) = false := by rfl) : HX X C (.Call (.Name "abs" p) [e] [] pos) as O (SM.map1 absI m) (VP.at true rInt) :=
  hg_callB (f := fun z => .ok (absI z)) call_abs (fun x vs S H os Q st ow h q => by
    obtain ⟨v, e1, pv⟩ := av1 h
    have e2 : v = .int x := pv
    subst e1; subst e2
    exact ⟨x, rfl, q.imm st ow rfl⟩) hm (by decide +kernel) (ha_one ha he) hg (by decide) (by decide) he hpl
def b2n (b : Bool) : Int := if b then 1 else 0
theorem hx_intB {m : SM ς Bool} (hm : X.mg "int" = none) (ha : HX X C e as O m (VP.at w rBl)) (hg : Gl X "int" := by rfl)
    (he : starEach [e] X.env = (false, eval e X.env) :: starEach [] X.env := by rfl) (hpl : (backTo pos (starEach [] X.env)).any (·.1) = false := by rfl) : HX X C (.Call (.Name "int" p) [e] [] pos) as O (SM.map1 b2n m) (VP.at true rInt) :=
  hg_callT (f := fun z => .ok (b2n z)) call_int1 (fun x vs S H os Q st ow h q => by
    obtain ⟨v, e1, pv⟩ := av1 h
    have e2 : v = .bl x := pv
    subst e1; subst e2
    exact .inr ⟨x, rfl, q.imm st ow rfl⟩) hm (by decide +kernel) (ha_one ha he) hg (by decide) (by decide) he hpl
def strI (i : Int) : R Str := (R.guard (i.natAbs.log2 < 1920)).bind fun _ => .ok (Str.ofString (toString i))
theorem hx_strI {m : SM ς Int} (hm : X.mg "str" = none) (ha : HX X C e as O m (VP.at w rInt)) (hg : Gl X "str" := by rfl)
    (he : starEach [e] X.env = (false, eval e X.env) :: starEach [] X.env := by rfl) (hpl : (backTo pos (starEach [] X.env)).any (·.1) = false := by rfl) : HX X C (.Call (.Name "str" p) [e] [] pos) as O (SM.bnd1 strI m) (VP.at true rStr) :=
  hg_callT call_str_int (fun x vs S H os Q st ow h q => by
    obtain ⟨v, e1, pv⟩ := av1 h
    have e2 : v = .int x := pv
    subst e1; subst e2
    obtain ⟨hz, q⟩ := q.guard
    exact ⟨x, rfl, hz, q.imm st ow rfl⟩) hm (by decide +kernel) (ha_one ha he) hg (by decide) (by decide) he hpl
/-- list(xs) -/
theorem hn_list {r : Rp α} {m : SM ς (List α)} (hm : X.mg "list" = none) (ha : HX X C e as O m (VP.at true (rLst X.K r))) (hg : Gl X "list" := by rfl)
    (he : starEach [e] X.env = (false, eval e X.env) :: starEach [] X.env := by rfl) (hpl : (backTo pos (starEach [] X.env)).any (·.1) = false := by rfl) : HN X C (.Call (.Name "list" p) [e] [] pos) as O (SM.map1 id m) (cLst r) :=
  hg_callT (f := fun z => .ok (id z)) call_list_of (fun x vs S H os Q st ow h q => by
    obtain ⟨v, e1, pv⟩ := av1 h
    subst e1
    obtain ⟨p, vs, e2, hl, h3⟩ := pv
    subst e2
    exact ⟨p, vs, rfl, .inl ((st.atH true).seq hl), fun l hl => q.newO st ow hl ⟨vs, rfl, h3⟩⟩) hm (by decide +kernel) (ha_one ha he) hg (by decide) (by decide) he hpl
/-- sorted(texts) -/
def leS (a b : Str) : Bool := decide (a.cps.toList ≤ b.cps.toList)
end
end Y

/-! Y: a part of the state lent out, owned things read, blocks. -/
namespace Y
open PySem PySem.Spec PyProof.Rows L2

/-! ### behind something that ran from a base of its own -/
/-- the heap without some of its objects -/
def hide (H : Hp) (own : List Addr) : Hp := fun a => if a ∈ own then none else H a
theorem hide_nil (H : Hp) : hide H [] = H := by funext a; unfold hide; rw [if_neg (by simp)]
theorem hide_in {H : Hp} {own : List Addr} {a : Addr} (h : a ∈ own) : hide H own a = none := if_pos h
theorem hide_out {H : Hp} {own : List Addr} {a : Addr} (h : a ∉ own) : hide H own a = H a := if_neg h
theorem hide_ex {H : Hp} {own : List Addr} : Ex (hide H own) H := fun a o h => by
  unfold hide at h
  by_cases q : a ∈ own
  · rw [if_pos q] at h; cases h
  · rw [if_neg q] at h; exact h
/-- a base for something that runs within -/
abbrev Bs.sub (g h : Hp) (own : List Addr) : Bs := ⟨g, h, own, fun _ => none⟩
/-- the state behind: what was readable, and what is frozen now -/
def Sv.back (S S1 : Sv) : Sv := ⟨S1.g, fun a => (S.y a).or (S1.g a)⟩
section
variable {B : Bs} {S S1 : Sv} {H H1 : Hp} {own : List Addr}
theorem back_y (st : StOk B S H) (st1 : StOk (Bs.sub S.g H own) S1 H1) (hy : ∀ a ∈ own, S.y a = none) : Ex S.y S1.y := fun a o h => st1.b0 a o (st.yh a o h) fun m => by rw [hy a m] at h; cases h
theorem back_le (st1 : StOk (Bs.sub S.g H own) S1 H1) : S.le (S.back S1) := ⟨st1.g0, fun a o h => by
  show (S.y a).or (S1.g a) = some o
  rw [h]; rfl⟩
theorem back_g (st : StOk B S H) (st1 : StOk (Bs.sub S.g H own) S1 H1) (hy : ∀ a ∈ own, S.y a = none) : Ex S1.g (S.back S1).y := fun a o h => by
  show (S.y a).or (S1.g a) = some o
  cases q : S.y a with
  | none => rw [Option.none_or]; exact h
  | some u =>
    have e1 := back_y st st1 hy a u q
    have e2 := st1.gy a o h
    rw [e1] at e2; cases e2; rfl
theorem back_ok (st : StOk B S H) (st1 : StOk (Bs.sub S.g H own) S1 H1) (hy : ∀ a ∈ own, S.y a = none) (hk : ∀ a ∈ own, B.kp a = none) : StOk B (S.back S1) H1 where
  gy := back_g (S1 := S1) st st1 hy
  yh := fun a o h => by
    have h : (S.y a).or (S1.g a) = some o := h
    cases q : S.y a with
    | none => rw [q, Option.none_or] at h; exact st1.yh a o (st1.gy a o h)
    | some u =>
      rw [q] at h
      have e : u = o := by injection h
      subst e
      exact st1.yh a u (back_y st st1 hy a u q)
  g0 := st.g0.trans st1.g0
  b0 := fun a o h n => by
    show (S.y a).or (S1.g a) = some o
    rw [st.b0 a o h n]; rfl
  fr := fun a h n => st1.fr a (st.fr a h n) (st.tr a n)
  tr := fun a n => st1.tr a (st.tr a n)
  kp := fun a o h => by
    obtain ⟨h1, h2⟩ := st.kp a o h
    have no : a ∉ own := fun m => by rw [hk a m] at h; cases h
    refine ⟨st1.yh a o (st1.b0 a o h1 no), ?_⟩
    show (S.y a).or (S1.g a) = none
    rw [h2, Option.none_or]
    exact st1.fr a (st.gy.none h2) (by
      show H a ≠ none
      rw [h1]; intro z; cases z)
theorem back_none (st : StOk B S H) (st1 : StOk (Bs.sub S.g H own) S1 H1) {p : Addr} {o : HO} (h : S.y p = none) (hp : H p = some o) : (S.back S1).y p = none := by
  show (S.y p).or (S1.g p) = none
  rw [h, Option.none_or]
  exact st1.fr p (st.gnone h) (by
    show H p ≠ none
    rw [hp]; intro z; cases z)
/-- what was owned and not lent is as it was -/
theorem back_ow (st : StOk B S H) (st1 : StOk (Bs.sub S.g H own) S1 H1) {os : OS} (ow : OwL B S H os) (n : ∀ e ∈ os, e.p ∉ own) : OwL B (S.back S1) H1 os :=
  ow.move (back_le st1) (fun e m => by
    obtain ⟨h1, ⟨o, h2, _⟩, _⟩ := ow.mem m
    exact back_none st st1 h1 h2) (fun e m o h => st1.yh _ _ (st1.b0 _ _ h (n e m))) (fun _ _ _ z => z) fun _ _ z => z
/-- what is owned there is owned here -/
theorem back_in (st1 : StOk (Bs.sub S.g H own) S1 H1) : ∀ {os : OS}, OwL (Bs.sub S.g H own) S1 H1 os → (∀ e ∈ os, e.f = true → H e.p = none → B.h e.p = none) → (∀ e ∈ os, S.y e.p = none) → (∀ e ∈ os, B.kp e.p = none) → OwL B (S.back S1) H1 os
  | [], _, _, _, _ => trivial
  | a :: r, ow, hb, hy, hk => by
    obtain ⟨h1, h2, h4, h5, h6⟩ := ow
    refine ⟨?_, h2, ⟨fun q => hb a List.mem_cons_self q (h4.1 q), hk a List.mem_cons_self⟩, h5, back_in st1 h6 (fun e m => hb e (List.mem_cons_of_mem _ m)) (fun e m => hy e (List.mem_cons_of_mem _ m)) fun e m => hk e (List.mem_cons_of_mem _ m)⟩
    show (S.y a.p).or (S1.g a.p) = none
    rw [hy a List.mem_cons_self, Option.none_or]
    exact st1.gnone h1
/-- the state that is lent: all but own may be read -/
def Sv.lend (S : Sv) (H : Hp) (own : List Addr) : Sv := ⟨S.g, hide H own⟩
theorem lend_ok (st : StOk B S H) (hy : ∀ a ∈ own, S.y a = none) : StOk (Bs.sub S.g H own) (S.lend H own) H where
  gy := fun a o h => by
    show hide H own a = some o
    rw [hide_out fun m => by
      have z := st.gy a o h
      rw [hy a m] at z; cases z]
    exact st.yh a o (st.gy a o h)
  yh := hide_ex
  g0 := Ex.refl _
  b0 := fun a o h n => by
    show hide H own a = some o
    rw [hide_out n]; exact h
  fr := fun _ h _ => h
  tr := fun _ h => h
  kp := fun _ _ h => by cases h
theorem lend_le (st : StOk B S H) (hy : ∀ a ∈ own, S.y a = none) : S.le (S.lend H own) := ⟨Ex.refl _, fun a o h => by
  show hide H own a = some o
  rw [hide_out fun m => by rw [hy a m] at h; cases h]
  exact st.yh a o h⟩
end

/-! ### owned things are read -/
/-- what a value is by the frozen part alone -/
def PGo (P : VP) : Prop := ∀ v S S', S.g = S'.g → P.p v S → P.p v S'
theorem pg_at {α : Type} {r : Rp α} {x : α} : PGo (VP.at true r x) := fun v S S' e h => by
  show r.rep x v S'.g
  rw [← e]; exact h
theorem pg_ptr {p : Addr} : PGo (VP.ptr p) := fun v S S' e h => h
/-- an owned thing as a thing to be read: the slots -/
inductive Pk (K : PySem.W.Frag) (os : OS) : Option VP → Option VP → Prop where
  | no {a} : Pk K os a none
  | same {a} : Pk K os a a
  | rd {p : Addr} {c : Ct} {Q : VP} (i : Nat) (f : Bool) (h : os[i]? = some ⟨p, c, f⟩) (q : ∀ (o : HO) (S : Sv), c.c o S.g → S.y p = some o → Ex S.g S.y → Q.p (.ref p) S) : Pk K os (some (VP.ptr p)) (some Q)
  | mp {P Q : VP} (h : ∀ (B : Bs) (S : Sv) (H : Hp) (v : V), StOk B S H → OwL B S H os → P.p v S → Q.p v (S.lend H [])) : Pk K os (some P) (some Q)
def Pks (K : PySem.W.Frag) (os : OS) : SA → SA → Prop
  | _, [] => True
  | a :: as, b :: bs => Pk K os a b ∧ Pks K os as bs
  | [], _ :: _ => False
theorem Pks.len {K : PySem.W.Frag} {os : OS} : ∀ {as bs : SA}, Pks K os as bs → bs.length ≤ as.length
  | _, [], _ => Nat.zero_le _
  | _ :: _, _ :: _, h => Nat.succ_le_succ (Pks.len h.2)
  | [], _ :: _, h => h.elim
theorem Pks.at {K : PySem.W.Frag} {os : OS} : ∀ {as bs : SA} {i : Nat} {Q : VP}, Pks K os as bs → bs[i]? = some (some Q) → ∃ a, as[i]? = some a ∧ Pk K os a (some Q)
  | _, [], _, _, _, h => by simp at h
  | a :: _, b :: _, 0, Q, h, e => by
    have e' : b = some Q := Option.some.inj e
    exact ⟨a, rfl, by rw [← e']; exact h.1⟩
  | _ :: as, _ :: bs, i + 1, Q, h, e => Pks.at (i := i) h.2 e
  | [], _ :: _, _, _, h, _ => h.elim
theorem pk_lst {K : PySem.W.Frag} {os : OS} {α : Type} {r : Rp α} {xs : List α} {p : Addr} (i : Nat) {f : Bool} (h : os[i]? = some ⟨p, cLst r xs, f⟩ := by rfl) : Pk K os (some (VP.ptr p)) (some (VP.at false (rLst K r) xs)) := .rd i f h fun o S ⟨vs, e, q⟩ hy hg => ⟨p, vs, rfl, by subst e; exact SqL.of hy, q.mono hg⟩
theorem pk_dic {K : PySem.W.Frag} {os : OS} {κ α : Type} {k : KK κ} {r : Rp α} {xs : List (κ × α)} {p : Addr} (i : Nat) {f : Bool} (h : os[i]? = some ⟨p, cDic k r xs, f⟩ := by rfl) : Pk K os (some (VP.ptr p)) (some (VP.at false (rDic k r) xs)) := .rd i f h fun o S ⟨vs, e, q⟩ hy hg => ⟨p, vs, rfl, by subst e; exact hy, q.mono hg⟩
theorem pks_sl {B : Bs} {S : Sv} {H : Hp} {K : PySem.W.Frag} {os : OS} {as bs : SA} {σ : L2.St} (st : StOk B S H) (ow : OwL B S H os) (h : Pks K os as bs) (sl : Sl S σ as) : Sl (S.lend H []) σ bs := by
  refine ⟨Nat.le_trans h.len sl.1, fun i Q e => ?_⟩
  obtain ⟨a, ha, k⟩ := h.at e
  cases k with
  | same =>
    obtain ⟨v, h1, h2⟩ := sl.2 i Q ha
    exact ⟨v, h1, Q.mono (lend_le st fun _ m => by cases m) h2⟩
  | mp h =>
    obtain ⟨v, h1, h2⟩ := sl.2 i _ ha
    exact ⟨v, h1, h B S H v st ow h2⟩
  | rd j f hj q =>
    obtain ⟨v, h1, h2⟩ := sl.2 i _ ha
    obtain ⟨_, ⟨o, h3, h4⟩, _⟩ := ow.get hj
    have h2 : v = .ref _ := h2
    subst h2
    exact ⟨_, h1, q o (S.lend H []) h4 (by show hide H [] _ = _; rw [hide_nil]; exact h3) (by
      show Ex S.g (hide H [])
      rw [hide_nil]
      exact st.gy.trans st.yh)⟩
section
variable {ς α : Type} {X : Cx} {C : Cf} {e : Expr} {as : SA} {O : ς → OS}
/-- the place where an expression is read that changes nothing -/
abbrev Cf.pk (C : Cf) (B : Bs) : Cf := { C with B := B, ox := [] }
def SM.pk (m : ς → SM Unit α) : SM ς α := fun s => ((m s) ()).calm.bind fun z => .ok (z.1, s)
theorem hx_pk {P : α → VP} (as' : ς → SA) (m : ς → SM Unit α) (hk : ∀ s, Pks X.K (O s) as (as' s)) (h : ∀ (s : ς) (B : Bs), HX X (C.pk B) e (as' s) (fun _ : Unit => []) (m s) P) (hp : ∀ a, PGo (P a) := by exact fun _ => pg_at) : HX X C e as O (SM.pk m) P := by
  refine ⟨⟨fun pins s σ H Q I ⟨t, S, st, sl, ow, q⟩ => ?_⟩⟩
  refine (h t (Bs.sub S.g H [])).pe.run pins s σ H Q I ⟨(), S.lend H [], lend_ok st (fun _ m => by cases m), pks_sl st ow (hk t) sl, trivial, R.calm_post (R.post_mono (R.post_bind.mp q) (fun z k _ v S1 H1 l1 st1 ow1 pv => ?_) fun _ z => xq_le z) _⟩
  exact k () v (S.back S1) H1 (back_le st1) (back_ok st st1 (fun _ m => by cases m) (fun _ m => by cases m)) (back_ow st st1 ow fun _ _ m => by cases m) (hp z.1 v S1 _ rfl pv)
theorem hn_pk {c : α → Ct} (as' : ς → SA) (m : ς → SM Unit α) (hk : ∀ s, Pks X.K (O s) as (as' s)) (h : ∀ (s : ς) (B : Bs), HN X (C.pk B) e (as' s) (fun _ : Unit => []) (m s) c) : HN X C e as O (SM.pk m) c := by
  refine ⟨⟨fun pins s σ H Q I ⟨t, S, st, sl, ow, q⟩ => ?_⟩⟩
  refine (h t (Bs.sub S.g H [])).pe.run pins s σ H Q I ⟨(), S.lend H [], lend_ok st (fun _ m => by cases m), pks_sl st ow (hk t) sl, trivial, R.calm_post (R.post_mono (R.post_bind.mp q) (fun z k p v S1 H1 l1 st1 ow1 pv => ?_) fun _ z => xq_le z) _⟩
  have hpH : H p = none := ow1.2.2.1.1 rfl
  exact k p v (S.back S1) H1 (back_le st1) (back_ok st st1 (fun _ m => by cases m) (fun _ m => by cases m))
    ((back_in (B := C.B) st1 (os := [⟨p, c z.1, true⟩]) ow1.left (fun e m _ z => st.bnone z) (fun e m => by
      have e1 : e = ⟨p, c z.1, true⟩ := by simpa using m
      subst e1
      exact st.ynone hpH) (fun e m => by
      have e1 : e = ⟨p, c z.1, true⟩ := by simpa using m
      subst e1
      exact st.knone hpH)).app (back_ow st st1 ow fun _ _ m => by cases m) fun e m u mu ez => by
        have e1 : e = ⟨p, c z.1, true⟩ := by simpa using m
        subst e1
        obtain ⟨_, ⟨o, h2, _⟩, _⟩ := ow.mem mu
        have ez : u.p = p := ez
        rw [ez, hpH] at h2; cases h2) pv
theorem ht_pk {m : ς → SM Unit Bool} (as' : ς → SA) (hk : ∀ s, Pks X.K (O s) as (as' s)) (h : ∀ (s : ς) (B : Bs), HT X (C.pk B) e (as' s) (fun _ : Unit => []) (m s)) : HT X C e as O (SM.pk m) := by
  refine ⟨⟨fun pins s σ H Q I ⟨t, S, st, sl, ow, q⟩ => ?_⟩⟩
  refine (h t (Bs.sub S.g H [])).pt.run pins s σ H Q I ⟨(), S.lend H [], lend_ok st (fun _ m => by cases m), pks_sl st ow (hk t) sl, trivial, R.calm_post (R.post_mono (R.post_bind.mp q) (fun z k S1 H1 l1 st1 ow1 => ?_) fun _ z => xq_le z) _⟩
  exact k (S.back S1) H1 (back_le st1) (back_ok st st1 (fun _ m => by cases m) (fun _ m => by cases m)) (back_ow st st1 ow fun _ _ m => by cases m)
/-- what is frozen may be read -/
theorem hx_bor {r : Rp α} {m : SM ς α} (h : HX X C e as O m (VP.at true r)) : HX X C e as O m (VP.at false r) := ⟨pe_weak h.pe fun σ H Q ⟨s, S, st, sl, ow, q⟩ =>
  ⟨s, S, st, sl, ow, R.post_mono q (fun z k _ v S' H' l' st' ow' pv => k () v S' H' l' st' ow' (r.mono st'.gy pv)) fun _ z => xq_le z⟩⟩
theorem Ok.pk {k : Nat} (o : Ok X C k) (B : Bs) : Ok X (C.pk B) k := ⟨o.calm, o.nd, o.room, o.tk, o.po⟩
end
end Y

/-! Y: targets, iterations, blocks, loops, comprehensions. -/
namespace Y
open PySem PySem.Spec PyProof.Rows L2

section
variable {ι : Sort _} {X : Cx}
theorem pss_ex {sts : List Stmt} {t : ι → TS} (h : ∀ i, PSs X sts (t i)) : PSs X sts (fun D σ H => ∃ i, t i D σ H) := ⟨fun pins s σ H D I ⟨i, q⟩ => (h i).run pins s σ H D I q⟩
theorem pe_ex {e : Expr} {t : ι → TE} (h : ∀ i, PE X e (t i)) : PE X e (fun σ H Q => ∃ i, t i σ H Q) := ⟨fun pins s σ H Q I ⟨i, q⟩ => (h i).run pins s σ H Q I q⟩
theorem pt_ex {e : Expr} {t : ι → TT} (h : ∀ i, PT X e (t i)) : PT X e (fun σ H Q => ∃ i, t i σ H Q) := ⟨fun pins s σ H Q I ⟨i, q⟩ => (h i).run pins s σ H Q I q⟩
theorem pts_ex {e : List Expr} {t : ι → TT} (h : ∀ i, PTs X e (t i)) : PTs X e (fun σ H Q => ∃ i, t i σ H Q) := ⟨fun pins s σ H Q I ⟨i, q⟩ => (h i).run pins s σ H Q I q⟩
theorem pg_ex {e : Expr} {t : ι → TG} (h : ∀ i, PG X e (t i)) : PG X e (fun v σ H Q => ∃ i, t i v σ H Q) := ⟨fun pins s σ H v u Q I r ⟨i, q⟩ => (h i).run pins s σ H v u Q I r q⟩
theorem pss_weak {sts : List Stmt} {t t' : TS} (h : PSs X sts t) (w : ∀ D σ H, t' D σ H → t D σ H) : PSs X sts t' := ⟨fun pins s σ H D I q => h.run pins s σ H D I (w D σ H q)⟩
theorem ps_weak {st : Stmt} {t t' : TS} (h : PS X st t) (w : ∀ D σ H, t' D σ H → t D σ H) : PS X st t' := ⟨fun pins s σ H D I q => h.run pins s σ H D I (w D σ H q)⟩
theorem pg_weak {e : Expr} {t t' : TG} (h : PG X e t) (w : ∀ v σ H Q, t' v σ H Q → t v σ H Q) : PG X e t' := ⟨fun pins s σ H v u Q I r q => h.run pins s σ H v u Q I r (w v σ H Q q)⟩
theorem pgs_weak {e : List Expr} {t t' : TGs} (h : PGs X e t) (w : ∀ v σ H Q, t' v σ H Q → t v σ H Q) : PGs X e t' := ⟨fun pins s σ H v u Q I r q => h.run pins s σ H v u Q I r (w v σ H Q q)⟩
theorem pi_weak {tg e : Expr} {t t' : TI} (h : PI X tg e t) (w : ∀ σ H U, t' σ H U → t σ H U) : PI X tg e t' := ⟨fun pins s σ H U I q => h.run pins s σ H U I (w σ H U q)⟩
end

/-! ### targets -/
section
variable {X : Cx} {C : Cf} {pos : Pos}
def tTg (C : Cf) (as : SA) (P : VP) (ts : List Nat) (as' : SA) : TG := fun v σ H Q =>
  ∃ S, StOk C.B S H ∧ Sl S σ as ∧ P.p v S ∧ ∀ σ', Sl S σ' as' → σ'.length = σ.length → (∀ j, j ∉ ts → σ'[j]? = σ[j]?) → Q σ' H
structure HTg (X : Cx) (C : Cf) (tg : Expr) (as : SA) (P : VP) (ts : List Nat) (as' : SA) : Prop where
  pg : PG X tg (tTg C as P ts as')
def tTgs (C : Cf) (as : SA) (Ps : List VP) (ts : List Nat) (as' : SA) : TGs := fun vs σ H Q =>
  ∃ S, StOk C.B S H ∧ Sl S σ as ∧ AV S vs Ps ∧ ∀ σ', Sl S σ' as' → σ'.length = σ.length → (∀ j, j ∉ ts → σ'[j]? = σ[j]?) → Q σ' H
structure HTgs (X : Cx) (C : Cf) (tgs : List Expr) (as : SA) (Ps : List VP) (ts : List Nat) (as' : SA) : Prop where
  pgs : PGs X tgs (tTgs C as Ps ts as')
theorem htg_name {as : SA} {P : VP} (i : Nat) {x : Str} (hN : X.N.Nodup) (hi : X.N[i]? = some x := by rfl) (hx : Loc X.env.scope x := by first | exact Or.inl rfl | exact Or.inr rfl) (hf : X.fn x = true ∨ X.env.scope.names.lookup x = some .local := by first | exact .inl rfl | exact .inr rfl) :
    HTg X C (.Name x pos) as P [i] (as.set i (some P)) := ⟨pg_weak (pg_name hN hi hx hf) fun v σ H Q ⟨S, st, sl, pv, k⟩ =>
  k _ (sl.set pv) (List.length_set ..) fun j hj => List.getElem?_set_ne fun e => hj (by rw [e]; exact List.mem_singleton.mpr rfl)⟩
theorem htgs_nil {as : SA} : HTgs X C [] as [] [] as := ⟨pgs_weak pgs_nil fun v σ H Q ⟨S, st, sl, pv, k⟩ => by
  cases v with
  | nil => exact ⟨rfl, k σ sl rfl fun _ _ => rfl⟩
  | cons _ _ => exact pv.elim⟩
theorem htgs_cons {tg : Expr} {tgs : List Expr} {as as1 as2 : SA} {P : VP} {Ps : List VP} {ts us : List Nat} (h : HTg X C tg as P ts as1) (hr : HTgs X C tgs as1 Ps us as2)
    (hs : (assignEach (tg :: tgs) X.env).map (·.2) = assign tg X.env :: (assignEach tgs X.env).map (·.2) := by rfl) : HTgs X C (tg :: tgs) as (P :: Ps) (ts ++ us) as2 := ⟨pgs_weak (pgs_cons h.pg hr.pgs hs) fun v σ H Q ⟨S, st, sl, pv, k⟩ => by
  cases v with
  | nil => exact pv.elim
  | cons v vs =>
    refine ⟨v, vs, rfl, S, st, sl, pv.1, fun σ1 sl1 le1 e1 => ⟨S, st, sl1, pv.2, fun σ2 sl2 le2 e2 => k σ2 sl2 (le2.trans le1) fun j hj => ?_⟩⟩
    rw [List.mem_append, not_or] at hj
    exact (e2 j hj.2).trans (e1 j hj.1)⟩
theorem htg_tup {α : Type} {es : List Expr} {kk : Nat} {as as' : SA} {t : RT α} {w : Bool} {x : α} {ts : List Nat} (hc : X.calm = true) (h : HTgs X C es as (t.vps w x) ts as')
    (hn : (assignEach es X.env).length = t.n := by rfl) (hst : (assignEach es X.env).findIdx? (·.1) = none := by rfl) : HTg X C (.Tuple es kk pos) as (VP.at w (rTup X.K t) x) ts as' := ⟨pg_weak (pg_tup hc h.pgs hn hst) fun v σ H Q ⟨S, st, sl, pv, k⟩ => by
  obtain ⟨p, vs, e1, hq, hr⟩ := pv
  exact ⟨p, vs, e1, (st.atH w).tup hq, t.len hr, S, st, sl, t.wal hr, k⟩⟩
end

/-! ### iterations -/
structure ItC {α : Type} (C : Cf) (S0 : Sv) (J : It) (xs : List α) (P : α → VP) : Prop where
  go : ∀ i S H, S0.le S → StOk C.B S H → i < xs.length → J.go i H
  yld : ∀ i a S H x H', S0.le S → StOk C.B S H → xs[i]? = some a → J.yld i H x H' → ∃ S', S.le S' ∧ StOk C.B S' H' ∧ (∀ os, OwL C.B S H os → OwL C.B S' H' os) ∧ (P a).p x S'
  stop : ∀ i S H, S0.le S → StOk C.B S H → xs.length ≤ i → J.stop i H
section
variable {ς α β γ μ ρ : Type} {X : Cx} {C : Cf} {as : SA} {O : ς → OS} {a b c e tg : Expr} {pos p : Pos} {w w1 w2 : Bool}
def tI (C : Cf) (as : SA) (O : ς → OS) (m : SM ς (List α)) (P : α → VP) : TI := fun σ H U =>
  ∃ (s : ς) (S : Sv), StOk C.B S H ∧ Sl S σ as ∧ OwL C.B S H (O s) ∧
    (m s).post (fun z => ∀ J S' H', S.le S' → StOk C.B S' H' → OwL C.B S' H' (O z.2) → ItC C S' J z.1 P → U J H') (C.xq S)
structure HI (X : Cx) (C : Cf) (tg e : Expr) (as : SA) (O : ς → OS) (m : SM ς (List α)) (P : α → VP) : Prop where
  pi : PI X tg e (tI C as O m P)
theorem itc_list {K : PySem.W.Frag} {r : Rp α} {S0 : Sv} {p : Addr} {vs : List V} {xs : List α} (h1 : SqL K (S0.at w) p vs) (h2 : A2 r (S0.at w) xs vs) : ItC C S0 (Itl K p) xs (VP.at w r) where
  go := fun i S H l st hi => by
    obtain ⟨v, hv, _⟩ := h2.get (List.getElem?_eq_getElem hi)
    exact ⟨vs, v, (st.atH w).seq ((l.at w).seq h1), hv⟩
  yld := fun i a S H x H' l st hi hy => by
    obtain ⟨e, f⟩ := hy
    subst e
    obtain ⟨v, hv, hr⟩ := h2.get hi
    have e2 := f vs ((st.atH w).seq ((l.at w).seq h1))
    rw [hv] at e2
    cases e2
    exact ⟨S, .refl S, st, fun _ h => h, r.mono (l.at w) hr⟩
  stop := fun i S H l st hi => ⟨vs, (st.atH w).seq ((l.at w).seq h1), by rw [← h2.length]; exact hi⟩
theorem hi_list {r : Rp α} {m : SM ς (List α)} (h : HX X C e as O m (VP.at w (rLst X.K r))) : HI X C tg e as O m (VP.at w r) := ⟨pi_weak (pi_list h.pe) fun σ H U ⟨s, S, st, sl, ow, q⟩ =>
  ⟨s, S, st, sl, ow, R.post_mono q (fun z k _ v S' H' l' st' ow' pv => by
    obtain ⟨p, vs, e1, h1, h2⟩ := pv
    exact ⟨p, e1, ⟨vs, (st'.atH w).seq h1⟩, k _ S' H' l' st' ow' (itc_list h1 h2)⟩) fun _ z => xq_le z⟩⟩
def rangeL (lo hi : Int) : List Int := (List.range (hi - lo).toNat).map fun (k : Nat) => lo + (k : Int)
theorem rangeL_len {lo hi : Int} : (rangeL lo hi).length = (hi - lo).toNat := by unfold rangeL; rw [List.length_map, List.length_range]
theorem rangeL_get {lo hi : Int} {i : Nat} {a : Int} (h : (rangeL lo hi)[i]? = some a) : i < (hi - lo).toNat ∧ a = lo + (i : Int) := by
  have hi' := (List.getElem?_eq_some_iff.mp h).1
  rw [rangeL_len] at hi'
  refine ⟨hi', ?_⟩
  unfold rangeL at h
  rw [List.getElem?_map, List.getElem?_range hi'] at h
  exact (Option.some.inj h).symm
theorem itc_range {S0 : Sv} {lo hi : Int} {n : Nat} (hn : n = (hi - lo).toNat) : ItC C S0 (Itr lo n) (rangeL lo hi) (VP.at true rInt) where
  go := fun i S H l st h => by rw [rangeL_len] at h; show i < n; omega
  yld := fun i a S H x H' l st h hy => by
    obtain ⟨e1, e2⟩ := hy
    subst e1
    obtain ⟨_, e3⟩ := rangeL_get h
    exact ⟨S, .refl S, st, fun _ h => h, by show x = V.int a; rw [e2, e3]⟩
  stop := fun i S H l st h => by rw [rangeL_len] at h; show n ≤ i; omega
def rng1 (j : Int) : R (List Int) := (R.guard (-(2 ^ 62) ≤ j ∧ j < 2 ^ 62)).bind fun _ => .ok (rangeL 0 j)
def rng2 (i j : Int) : R (List Int) := (R.guard (-(2 ^ 62) ≤ i ∧ i < 2 ^ 62 ∧ -(2 ^ 62) ≤ j ∧ j < 2 ^ 62)).bind fun _ => .ok (rangeL i j)
theorem hi_range1 {m : SM ς Int} (hm : X.mg "range" = none) (ha : HX X C a as O m (VP.at w rInt)) (hg : Gl X "range" := by rfl) (hs : starEach [a] X.env = (false, eval a X.env) :: starEach [] X.env := by rfl) : HI X C tg (.Call (.Name "range" p) [a] [] pos) as O (SM.bnd1 rng1 m) (VP.at true rInt) :=
  ⟨pi_weak (pi_range1 hg hm (ha_one ha hs).pa hs) fun σ H U ⟨s, S, st, sl, ow, q⟩ =>
  ⟨s, S, st, sl, ow, R.post_mono (R.post_bind.mp q) (fun z k vs S' H' l' st' ow' pv => by
    obtain ⟨v, e1, pv⟩ := av1 pv
    have e2 : v = .int z.1 := pv
    subst e1; subst e2
    obtain ⟨hb, k⟩ := R.guard_post.mp (R.post_bind.mp (R.post_bind.mp k))
    exact ⟨z.1, rfl, hb.1, hb.2, k _ S' H' l' st' ow' (itc_range (by omega))⟩) fun _ z => xq_le z⟩⟩
theorem hi_range2 {m : SM ς Int} {n : SM ς Int} (hm : X.mg "range" = none) (ha : HX X C a as O m (VP.at w1 rInt)) (hb : HX X C b as O n (VP.at w2 rInt)) (hg : Gl X "range" := by rfl)
    (hs1 : starEach [a, b] X.env = (false, eval a X.env) :: starEach [b] X.env := by rfl) (hs2 : starEach [b] X.env = (false, eval b X.env) :: starEach [] X.env := by rfl) (hs3 : starEach [a, b] X.env = [(false, eval a X.env), (false, eval b X.env)] := by rfl) (hs4 : starEach [b] X.env = [(false, eval b X.env)] := by rfl) : HI X C tg (.Call (.Name "range" p) [a, b] [] pos) as O (SM.bnd2 rng2 m n) (VP.at true rInt) :=
  ⟨pi_weak (pi_range2 hg hm (ha_cons ha (ha_one hb hs2) hs1).pa hs3 hs4) fun σ H U ⟨s, S, st, sl, ow, q⟩ => by
    refine ⟨s, S, st, sl, ow, ?_⟩
    have q1 : ((SM.map2 Prod.mk m n s).bind fun z => (rng2 z.1.1 z.1.2).bind fun c => .ok (c, z.2)).post (fun z => ∀ J S' H', S.le S' → StOk C.B S' H' → OwL C.B S' H' (O z.2) → ItC C S' J z.1 (VP.at true rInt) → U J H') (C.xq S) := by
      have e1 : SM.bnd2 rng2 m n s = (SM.map2 Prod.mk m n s).bind fun z => (rng2 z.1.1 z.1.2).bind fun c => .ok (c, z.2) := by
        unfold SM.bnd2 SM.map2
        rw [R.bind_assoc]
        congr 1; funext z
        rw [R.bind_assoc]
        congr 1
      rw [← e1]; exact q
    refine R.post_mono (R.post_bind.mp q1) (fun z k vs S' H' l' st' ow' pv => ?_) fun _ z => xq_le z
    obtain ⟨v, u, e1, p1, p2⟩ := av2 pv
    have e2 : v = .int z.1.1 := p1
    have e3 : u = .int z.1.2 := p2
    subst e1; subst e2; subst e3
    obtain ⟨hb, k⟩ := R.guard_post.mp (R.post_bind.mp (R.post_bind.mp k))
    exact ⟨z.1.1, z.1.2, rfl, hb, k _ S' H' l' st' ow' (itc_range rfl)⟩⟩
def enumL (xs : List α) : List (Int × α) := (List.range xs.length).zipWith (fun (i : Nat) a => ((i : Int), a)) xs
theorem enumL_len {xs : List α} : (enumL xs).length = xs.length := by unfold enumL; rw [List.length_zipWith, List.length_range, Nat.min_self]
theorem enumL_get {xs : List α} {i : Nat} {z : Int × α} (h : (enumL xs)[i]? = some z) : xs[i]? = some z.2 ∧ z.1 = (i : Int) := by
  have hi := (List.getElem?_eq_some_iff.mp h).1
  rw [enumL_len] at hi
  unfold enumL at h
  rw [List.getElem?_zipWith, List.getElem?_range hi, List.getElem?_eq_getElem hi] at h
  have e := Option.some.inj h
  subst e
  exact ⟨List.getElem?_eq_getElem hi, rfl⟩
theorem itc_enum {K : PySem.W.Frag} {r : Rp α} {S0 : Sv} {p : Addr} {vs : List V} {xs : List α} (h1 : SqL K (S0.at w) p vs) (h2 : A2 r (S0.at w) xs vs) : ItC C S0 (Ite K p) (enumL xs) (VP.at w (rTup K (RT.cons rInt (RT.one r)))) where
  go := fun i S H l st hi => by
    rw [enumL_len] at hi
    obtain ⟨v, hv, _⟩ := h2.get (List.getElem?_eq_getElem hi)
    exact ⟨vs, v, (st.atH w).seq ((l.at w).seq h1), hv⟩
  yld := fun i a S H x H' l st hi hy => by
    obtain ⟨T, v', e1, nT, e2, f⟩ := hy
    subst e1; subst e2
    obtain ⟨hi, ei⟩ := enumL_get hi
    obtain ⟨v, hv, hr⟩ := h2.get hi
    have e3 := f vs ((st.atH w).seq ((l.at w).seq h1))
    rw [hv] at e3
    have e3 : v = v' := Option.some.inj e3
    subst e3
    have l2 : S.le (S.add T (.tup [.int (i : Nat), v])) := st.leF nT
    exact ⟨S.add T (.tup [.int (i : Nat), v]), l2, st.newF nT, fun os h => h.newF st nT, ⟨T, _, rfl, .inl (.inl (Sv.add_at w)), _, _, rfl, (by show V.int _ = V.int _; rw [ei]), _, rfl, r.mono ((l.trans l2).at w) hr⟩⟩
  stop := fun i S H l st hi => ⟨vs, (st.atH w).seq ((l.at w).seq h1), by rw [enumL_len] at hi; rw [← h2.length]; exact hi⟩
theorem hi_enum {r : Rp α} {m : SM ς (List α)} {elts : List Expr} {kk : Nat} {tpos : Pos} (hm : X.mg "enumerate" = none) (ha : HX X C a as O m (VP.at w (rLst X.K r))) (hg : Gl X "enumerate" := by rfl) (hs : starEach [a] X.env = (false, eval a X.env) :: starEach [] X.env := by rfl) :
    HI X C (.Tuple elts kk tpos) (.Call (.Name "enumerate" p) [a] [] pos) as O (SM.map1 enumL m) (VP.at w (rTup X.K (RT.cons rInt (RT.one r)))) :=
  ⟨pi_weak (pi_enum hg hm (ha_one ha hs).pa hs) fun σ H U ⟨s, S, st, sl, ow, q⟩ =>
  ⟨s, S, st, sl, ow, R.post_mono (R.post_bind.mp q) (fun z k vs S' H' l' st' ow' pv => by
    obtain ⟨v, e1, p1⟩ := av1 pv
    subst e1
    have p2 : ∃ p ws, v = .ref p ∧ SqL X.K (S'.at w) p ws ∧ A2 r (S'.at w) z.1 ws := p1
    obtain ⟨p, ws, ee, h1, h2⟩ := p2
    rw [ee]
    exact ⟨p, ws, rfl, (st'.atH w).seq h1, k _ S' H' l' st' ow' (itc_enum h1 h2)⟩) fun _ z => xq_le z⟩⟩

/-! ### blocks -/
inductive Oc (μ ρ : Type) where
  | nx (l : μ) | rt (r : ρ)
def goes (N : μ → L2.St → Hp → Prop) (T : ρ → V → Hp → Prop) (D : Ends) : Oc μ ρ → Prop
  | .nx l => ∀ σ' H', N l σ' H' → D.nx σ' H'
  | .rt r => ∀ v H', T r v H' → D.rt v H'
def tB (C : Cf) (as : SA) (os : OS) (m : R α) (ι : α → Oc μ ρ) (N : Sv → μ → L2.St → Hp → Prop) (T : ρ → V → Hp → Prop) : TS := fun D σ H =>
  ∃ L S, L.le S ∧ StOk C.B S H ∧ Sl S σ as ∧ OwL C.B S H os ∧ m.post (fun a => goes (N L) T D (ι a)) (C.xq L)
structure HB (X : Cx) (C : Cf) (sts : List Stmt) (as : SA) (os : OS) (m : R α) (ι : α → Oc μ ρ) (N : Sv → μ → L2.St → Hp → Prop) (T : ρ → V → Hp → Prop) : Prop where
  pss : PSs X sts (tB C as os m ι N T)
def NS (C : Cf) (as' : μ → SA) (os' : μ → OS) : Sv → μ → L2.St → Hp → Prop := fun L l σ H => ∃ S, L.le S ∧ StOk C.B S H ∧ Sl S σ (as' l) ∧ OwL C.B S H (os' l)
def NF : Sv → μ → L2.St → Hp → Prop := fun _ _ _ _ => False
variable {rst body orelse : List Stmt} {N : Sv → μ → L2.St → Hp → Prop} {T : ρ → V → Hp → Prop} {ι : α → Oc μ ρ} {os : OS} {π : Type}
theorem hb_end {as' : μ → SA} {os' : μ → OS} {l : μ} (h : Wk as (as' l)) : HB X C [] as (os' l) (.ok l) Oc.nx (NS C as' os') T := ⟨pss_weak pss_nil fun D σ H ⟨L, S, lL, st, sl, ow, q⟩ => q σ H ⟨S, lL, st, sl.wk h, ow⟩⟩
theorem hb_end' {x : α} {l : μ} (hι : ι x = .nx l) (h : ∀ L S σ H, L.le S → StOk C.B S H → Sl S σ as → OwL C.B S H os → N L l σ H) : HB X C [] as os (.ok x) ι N T := ⟨pss_weak pss_nil fun D σ H ⟨L, S, lL, st, sl, ow, q⟩ => by
  have q : goes (N L) T D (ι x) := q
  rw [hι] at q
  exact q σ H (h L S σ H lL st sl ow)⟩
theorem hb_asg {m : SM ς β} {P : β → π → VP} {nw : β → π → OS} {k : β × ς → R α} (i : Nat) {x : Str} {px : Pos} (hN : X.N.Nodup) (he : HG X C e as O m P nw) (s : ς) (hr : ∀ (z : β × ς) (q : π), HB X C rst (as.set i (some (P z.1 q))) (nw z.1 q ++ O z.2) (k z) ι N T)
    (hi : X.N[i]? = some x := by rfl) (hx : Loc X.env.scope x := by first | exact Or.inl rfl | exact Or.inr rfl) (hs : swapsWith e (some (.Name x px)) pos.line X.env = pure false := by rfl) (hf : X.fn x = true ∨ X.env.scope.names.lookup x = some .local := by first | exact .inl rfl | exact .inr rfl) :
    HB X C (.Assign [.Name x px] e pos :: rst) as (O s) ((m s).bind k) ι N T :=
  ⟨pss_weak (pss_cons (ps_set hN hi hx he.pe hs hf) (pss_ex fun (zq : (β × ς) × π) => (hr zq.1 zq.2).pss)) fun D σ H ⟨L, S, lL, st, sl, ow, q⟩ =>
    ⟨s, S, st, sl, ow, R.post_mono (R.post_bind.mp q) (fun z k' q v S' H' l' st' ow' pv => ⟨(z, q), L, S', lL.trans l', st', (sl.mono l').set pv, ow', k'⟩) fun _ z => xq_le z⟩⟩
/-- a target of several names -/
theorem hb_asgT {m : SM ς β} {P : β → π → VP} {nw : β → π → OS} {k : β × ς → R α} {ts : List Nat} {asn : β → π → SA} (he : HG X C e as O m P nw) (s : ς) (ht : ∀ z q, HTg X C tg as (P z q) ts (asn z q)) (hr : ∀ (z : β × ς) (q : π), HB X C rst (asn z.1 q) (nw z.1 q ++ O z.2) (k z) ι N T)
    (hs : swapsWithSole [tg] e pos.line X.env = pure false := by rfl) (hw : swappedStores [tg] e X.env = pure none := by rfl) (h1 : (assignEach [tg] X.env).map (·.2) = [assign tg X.env] := by rfl) :
    HB X C (.Assign [tg] e pos :: rst) as (O s) ((m s).bind k) ι N T :=
  ⟨pss_weak (pss_cons (ps_asg he.pe (pg_ex fun (zq : β × π) => (ht zq.1 zq.2).pg) hs hw h1) (pss_ex fun (zq : (β × ς) × π) => (hr zq.1 zq.2).pss)) fun D σ H ⟨L, S, lL, st, sl, ow, q⟩ =>
    ⟨s, S, st, sl, ow, R.post_mono (R.post_bind.mp q) (fun z k' q v S' H' l' st' ow' pv => ⟨(z.1, q), S', st', sl.mono l', pv, fun σ' sl' _ _ => ⟨(z, q), L, S', lL.trans l', st', sl', ow', k'⟩⟩) fun _ z => xq_le z⟩⟩
theorem hb_expr {m : SM ς β} {P : β → π → VP} {nw : β → π → OS} {k : β × ς → R α} (he : HG X C e as O m P nw) (s : ς) (hr : ∀ (z : β × ς) (q : π), HB X C rst as (nw z.1 q ++ O z.2) (k z) ι N T) (hs : swapsWith e none pos.line X.env = pure false := by rfl) :
    HB X C (.Expr e pos :: rst) as (O s) ((m s).bind k) ι N T :=
  ⟨pss_weak (pss_cons (ps_expr he.pe hs) (pss_ex fun (zq : (β × ς) × π) => (hr zq.1 zq.2).pss)) fun D σ H ⟨L, S, lL, st, sl, ow, q⟩ =>
    ⟨s, S, st, sl, ow, R.post_mono (R.post_bind.mp q) (fun z k' q v S' H' l' st' ow' pv => ⟨(z, q), L, S', lL.trans l', st', sl.mono l', ow', k'⟩) fun _ z => xq_le z⟩⟩
theorem hb_ret {m : SM ς β} {P : β → π → VP} {nw : β → π → OS} {k : β × ς → α} {r : β × ς → ρ} (he : HG X C e as O m P nw) (s : ς) (hι : ∀ z, ι (k z) = .rt (r z)) (hT : ∀ z q v S H, StOk C.B S H → OwL C.B S H (nw z.1 q ++ O z.2) → (P z.1 q).p v S → T (r z) v H) :
    HB X C (.Return (some e) pos :: rst) as (O s) ((m s).bind fun z => .ok (k z)) ι N T :=
  ⟨pss_weak (pss_cons (ps_ret he.pe) pss_never) fun D σ H ⟨L, S, lL, st, sl, ow, q⟩ =>
    ⟨s, S, st, sl, ow, R.post_mono (R.post_bind.mp q) (fun z k' q v S' H' l' st' ow' pv => by
      have k' : goes (N L) T D (ι (k z)) := k'
      rw [hι] at k'
      exact k' v H' (hT z q v S' H' st' ow' pv)) fun _ z => xq_le z⟩⟩
/-- both ways go on -/
theorem hb_if {mc : SM ς Bool} {ma mb : ς → R β} {k : β → R α} {as1 : β → SA} {os1 : β → OS} (hc : HT X C c as O mc) (s : ς) (ha : ∀ s', HB X C body as (O s') (ma s') Oc.nx (NS C as1 os1) T) (hb : ∀ s', HB X C orelse as (O s') (mb s') Oc.nx (NS C as1 os1) T) (hr : ∀ l, HB X C rst (as1 l) (os1 l) (k l) ι N T) :
    HB X C (.If c body orelse pos :: rst) as (O s) ((mc s).bind fun z => (if z.1 = true then ma z.2 else mb z.2).bind k) ι N T :=
  ⟨pss_weak (pss_cons (ps_if hc.pt (pss_ex fun s' => (ha s').pss) (pss_ex fun s' => (hb s').pss)) (pss_ex fun l => (hr l).pss)) fun D σ H ⟨L, S, lL, st, sl, ow, q⟩ =>
    ⟨s, S, st, sl, ow, R.post_mono (R.post_bind.mp q) (fun z k' S' H' l' st' ow' => by
      by_cases hz : z.1 = true
      · rw [if_pos hz] at k' ⊢
        exact ⟨z.2, L, S', lL.trans l', st', sl.mono l', ow', R.post_mono (R.post_bind.mp k') (fun l k2 σ2 H2 ⟨S2, lL2, st2, sl2, ow2⟩ => ⟨l, L, S2, lL2, st2, sl2, ow2, k2⟩) fun _ z => z⟩
      · rw [if_neg hz] at k' ⊢
        exact ⟨z.2, L, S', lL.trans l', st', sl.mono l', ow', R.post_mono (R.post_bind.mp k') (fun l k2 σ2 H2 ⟨S2, lL2, st2, sl2, ow2⟩ => ⟨l, L, S2, lL2, st2, sl2, ow2, k2⟩) fun _ z => z⟩) fun _ z => xq_le z⟩⟩
theorem goes_nf {N : μ → L2.St → Hp → Prop} {L : Sv} {D : Ends} {n : L2.St → Hp → Prop} {o : Oc μ ρ} (g : goes N T D o) : goes ((NF : Sv → μ → L2.St → Hp → Prop) L) T { D with nx := n } o := by
  cases o with
  | nx l => exact fun σ' H' z => z.elim
  | rt r => exact g
/-- the one way returns -/
theorem hb_ifR {mc : SM ς Bool} {ma mr : ς → R α} (hc : HT X C c as O mc) (s : ς) (ha : ∀ s', HB X C body as (O s') (ma s') ι NF T) (hr : ∀ s', HB X C rst as (O s') (mr s') ι N T) :
    HB X C (.If c body [] pos :: rst) as (O s) ((mc s).bind fun z => if z.1 = true then ma z.2 else mr z.2) ι N T :=
  ⟨pss_weak (pss_cons (ps_if hc.pt (pss_ex fun s' => (ha s').pss) pss_nil) (pss_ex fun s' => (hr s').pss)) fun D σ H ⟨L, S, lL, st, sl, ow, q⟩ =>
    ⟨s, S, st, sl, ow, R.post_mono (R.post_bind.mp q) (fun z k' S' H' l' st' ow' => by
      by_cases hz : z.1 = true
      · rw [if_pos hz] at k' ⊢
        exact ⟨z.2, L, S', lL.trans l', st', sl.mono l', ow', R.post_mono k' (fun a g => goes_nf g) fun _ z => z⟩
      · rw [if_neg hz] at k' ⊢
        exact ⟨z.2, L, S', lL.trans l', st', sl.mono l', ow', k'⟩) fun _ z => xq_le z⟩⟩
/-- both ways return -/
theorem hb_if2 {mc : SM ς Bool} {ma mr : ς → R α} (hc : HT X C c as O mc) (s : ς) (ha : ∀ s', HB X C body as (O s') (ma s') ι NF T) (hb : ∀ s', HB X C orelse as (O s') (mr s') ι NF T) :
    HB X C (.If c body orelse pos :: rst) as (O s) ((mc s).bind fun z => if z.1 = true then ma z.2 else mr z.2) ι N T :=
  ⟨pss_weak (pss_cons (ps_if hc.pt (pss_ex fun s' => (ha s').pss) (pss_ex fun s' => (hb s').pss)) pss_never) fun D σ H ⟨L, S, lL, st, sl, ow, q⟩ =>
    ⟨s, S, st, sl, ow, R.post_mono (R.post_bind.mp q) (fun z k' S' H' l' st' ow' => by
      by_cases hz : z.1 = true
      · rw [if_pos hz] at k' ⊢
        exact ⟨z.2, L, S', lL.trans l', st', sl.mono l', ow', R.post_mono k' (fun a g => goes_nf g) fun _ z => z⟩
      · rw [if_neg hz] at k' ⊢
        exact ⟨z.2, L, S', lL.trans l', st', sl.mono l', ow', R.post_mono k' (fun a g => goes_nf g) fun _ z => z⟩) fun _ z => xq_le z⟩⟩
/-- x += e, whole numbers -/
theorem hb_augI {m : SM ς Int} {v0 : Int} {k : Int × ς → R α} (i : Nat) {x : Str} {px : Pos} (hN : X.N.Nodup) (hv : as[i]? = some (some (VP.at w1 rInt v0))) (he : HX X C e as O m (VP.at w rInt)) (s : ς) (hr : ∀ (z : Int × ς), HB X C rst (as.set i (some (VP.at true rInt z.1))) (O z.2) (k z) ι N T)
    (hi : X.N[i]? = some x := by rfl) (hx : Loc X.env.scope x := by first | exact Or.inl rfl | exact Or.inr rfl) (hf : X.fn x = true ∨ X.env.scope.names.lookup x = some .local := by first | exact .inl rfl | exact .inr rfl) :
    HB X C (.AugAssign (.Name x px) .Add e pos :: rst) as (O s) ((SM.map1 (fun b => v0 + b) m s).bind k) ι N T :=
  ⟨pss_weak (pss_cons (ps_aug hN hi hx he.pe ip_add hf) (pss_ex fun z => (hr z).pss)) fun D σ H ⟨L, S, lL, st, sl, ow, q⟩ => by
    obtain ⟨v, h1, h2⟩ := sl.2 i _ hv
    refine ⟨v, h1, s, S, st, sl, ow, R.post_mono (R.post_bind.mp (R.post_bind.mp q)) (fun z k' q v2 S' H' l' st' ow' pv => ?_) fun _ z => xq_le z⟩
    exact ⟨v0, z.1, h2, pv, (v0 + z.1, z.2), L, S', lL.trans l', st', (sl.mono l').set rfl, ow', k'⟩⟩
theorem hb_augS {m : SM ς Int} {v0 : Int} {k : Int × ς → R α} (i : Nat) {x : Str} {px : Pos} (hN : X.N.Nodup) (hv : as[i]? = some (some (VP.at w1 rInt v0))) (he : HX X C e as O m (VP.at w rInt)) (s : ς) (hr : ∀ (z : Int × ς), HB X C rst (as.set i (some (VP.at true rInt z.1))) (O z.2) (k z) ι N T)
    (hi : X.N[i]? = some x := by rfl) (hx : Loc X.env.scope x := by first | exact Or.inl rfl | exact Or.inr rfl) (hf : X.fn x = true ∨ X.env.scope.names.lookup x = some .local := by first | exact .inl rfl | exact .inr rfl) :
    HB X C (.AugAssign (.Name x px) .Sub e pos :: rst) as (O s) ((SM.map1 (fun b => v0 - b) m s).bind k) ι N T :=
  ⟨pss_weak (pss_cons (ps_aug hN hi hx he.pe ip_sub hf) (pss_ex fun z => (hr z).pss)) fun D σ H ⟨L, S, lL, st, sl, ow, q⟩ => by
    obtain ⟨v, h1, h2⟩ := sl.2 i _ hv
    refine ⟨v, h1, s, S, st, sl, ow, R.post_mono (R.post_bind.mp (R.post_bind.mp q)) (fun z k' q v2 S' H' l' st' ow' pv => ?_) fun _ z => xq_le z⟩
    exact ⟨v0, z.1, h2, pv, (v0 - z.1, z.2), L, S', lL.trans l', st', (sl.mono l').set rfl, ow', k'⟩⟩
/-! ### loops -/
def foldR (f : μ → β → R μ) : μ → List β → R μ
  | l, [] => .ok l
  | l, x :: xs => (f l x).bind fun l' => foldR f l' xs
def forR (f : μ → β → R (Oc μ ρ)) : μ → List β → R (Oc μ ρ)
  | l, [] => .ok (.nx l)
  | l, x :: xs => (f l x).bind fun o => match o with
    | .nx l' => forR f l' xs
    | .rt r => .ok (.rt r)
def whileR {δ : Type} (c : μ → R (Bool × δ)) (f : μ → δ → R μ) : Nat → μ → R (μ × δ)
  | 0, _ => .no
  | n + 1, l => (c l).bind fun z => if z.1 = true then (f l z.2).bind fun l' => whileR c f n l' else .ok (l, z.2)
variable {κ : Type} {kn : Nat}
theorem hb_for {m : SM ς (List β)} {P : β → VP} {μ' : Type} {f : μ' → β → R μ'} {l0 : ς → μ'} {k : μ' → R α} {asL : μ' → SA} {osL : μ' → OS} {asT : μ' → β → SA} {ts : List Nat} (o : Ok X C kn) (hi : HI X C tg e as O m P) (s : ς)
    (h0 : ∀ s', Wk as (asL (l0 s'))) (h1 : ∀ s', O s' = osL (l0 s')) (ht : ∀ l a, HTg X C tg (asL l) (P a) ts (asT l a)) (hb : ∀ l a, HB X C body (asT l a) (osL l) (f l a) Oc.nx (NS C asL osL) T) (hr : ∀ l, HB X C rst (asL l) (osL l) (k l) ι N T)
    (hs : ∀ x, foldedSetIterable e X.env x = pure x := by intro _; rfl) :
    HB X C (.For tg e body [] pos :: rst) as (O s) ((m s).bind fun z => (foldR f (l0 z.2) z.1).bind k) ι N T :=
  ⟨pss_weak (pss_cons (ps_for o.po o.calm hi.pi (pg_ex fun (la : μ' × β) => (ht la.1 la.2).pg) (pss_ex fun (la : μ' × β) => (hb la.1 la.2).pss) hs) (pss_ex fun l => (hr l).pss)) fun D σ H ⟨L, S, lL, st, sl, ow, q⟩ => by
    refine ⟨s, S, st, sl, ow, R.post_mono (R.post_bind.mp q) (fun z k' J S0 H0 l' st' ow' it => ?_) fun _ z => xq_le z⟩
    have lL0 := lL.trans l'
    refine ⟨fun i n σ1 H1 => ∃ l S1, n = z.1.length - i ∧ S0.le S1 ∧ StOk C.B S1 H1 ∧ Sl S1 σ1 (asL l) ∧ OwL C.B S1 H1 (osL l) ∧ (foldR f l (z.1.drop i)).post (fun l => (k l).post (fun a => goes (N L) T D (ι a)) (C.xq L)) (C.xq L),
      ⟨z.1.length - 0, l0 z.2, S0, rfl, .refl _, st', (sl.mono l').wk (h0 _), by rw [← h1]; exact ow', R.post_bind.mp k'⟩, ?_⟩
    rintro i n σ1 H1 ⟨l, S1, en, l1, st1, sl1, ow1, q1⟩
    by_cases hi : i < z.1.length
    · refine .inr ⟨it.go i S1 H1 l1 st1 hi, fun σ2 H2 => ∃ l S2, S0.le S2 ∧ StOk C.B S2 H2 ∧ Sl S2 σ2 (asL l) ∧ OwL C.B S2 H2 (osL l) ∧ (foldR f l (z.1.drop (i + 1))).post (fun l => (k l).post (fun a => goes (N L) T D (ι a)) (C.xq L)) (C.xq L), ?_, ?_⟩
      · rintro σ2 H2 ⟨l, S2, l2, st2, sl2, ow2, q2⟩
        exact ⟨n - 1, by omega, l, S2, by omega, l2, st2, sl2, ow2, q2⟩
      · intro x H2 hy
        obtain ⟨S2, l2, st2, ow2, p2⟩ := it.yld i z.1[i] S1 H1 x H2 l1 st1 (List.getElem?_eq_getElem hi) hy
        refine ⟨(l, z.1[i]), S2, st2, sl1.mono l2, p2, fun σ3 sl3 _ _ => ⟨(l, z.1[i]), S0, S2, l1.trans l2, st2, sl3, ow2 _ ow1, ?_⟩⟩
        rw [List.drop_eq_getElem_cons hi] at q1
        refine R.post_mono (R.post_bind.mp q1) (fun l3 q3 => ?_) fun _ z => xq_le z
        rintro σ4 H4 ⟨S4, l4, st4, sl4, ow4⟩
        exact ⟨l3, S4, l4, st4, sl4, ow4, q3⟩
    · rw [List.drop_eq_nil_of_le (by omega)] at q1
      exact .inl ⟨it.stop i S1 H1 l1 st1 (by omega), l, L, S1, lL0.trans l1, st1, sl1, ow1, q1⟩⟩
/-- a loop whose body may return -/
theorem hb_forX {m : SM ς (List β)} {P : β → VP} {μ' : Type} {f : μ' → β → R (Oc μ' ρ)} {l0 : ς → μ'} {k : μ' → R α} {kr : ρ → α} {asL : μ' → SA} {osL : μ' → OS} {asT : μ' → β → SA} {ts : List Nat} (o : Ok X C kn) (hi : HI X C tg e as O m P) (s : ς)
    (h0 : ∀ s', Wk as (asL (l0 s'))) (h1 : ∀ s', O s' = osL (l0 s')) (ht : ∀ l a, HTg X C tg (asL l) (P a) ts (asT l a)) (hb : ∀ l a, HB X C body (asT l a) (osL l) (f l a) id (NS C asL osL) T) (hr : ∀ l, HB X C rst (asL l) (osL l) (k l) ι N T) (hk : ∀ r, ι (kr r) = .rt r)
    (hs : ∀ x, foldedSetIterable e X.env x = pure x := by intro _; rfl) :
    HB X C (.For tg e body [] pos :: rst) as (O s) ((m s).bind fun z => (forR f (l0 z.2) z.1).bind fun o => match o with | .nx l => k l | .rt r => .ok (kr r)) ι N T :=
  ⟨pss_weak (pss_cons (ps_for o.po o.calm hi.pi (pg_ex fun (la : μ' × β) => (ht la.1 la.2).pg) (pss_ex fun (la : μ' × β) => (hb la.1 la.2).pss) hs) (pss_ex fun l => (hr l).pss)) fun D σ H ⟨L, S, lL, st, sl, ow, q⟩ => by
    refine ⟨s, S, st, sl, ow, R.post_mono (R.post_bind.mp q) (fun z k' J S0 H0 l' st' ow' it => ?_) fun _ z => xq_le z⟩
    have lL0 := lL.trans l'
    let fin : Oc μ' ρ → Prop := fun o => (match o with | .nx l => k l | .rt r => .ok (kr r)).post (fun a => goes (N L) T D (ι a)) (C.xq L)
    refine ⟨fun i n σ1 H1 => ∃ l S1, n = z.1.length - i ∧ S0.le S1 ∧ StOk C.B S1 H1 ∧ Sl S1 σ1 (asL l) ∧ OwL C.B S1 H1 (osL l) ∧ (forR f l (z.1.drop i)).post fin (C.xq L),
      ⟨z.1.length - 0, l0 z.2, S0, rfl, .refl _, st', (sl.mono l').wk (h0 _), by rw [← h1]; exact ow', R.post_bind.mp k'⟩, ?_⟩
    rintro i n σ1 H1 ⟨l, S1, en, l1, st1, sl1, ow1, q1⟩
    by_cases hi : i < z.1.length
    · refine .inr ⟨it.go i S1 H1 l1 st1 hi, fun σ2 H2 => ∃ l S2, S0.le S2 ∧ StOk C.B S2 H2 ∧ Sl S2 σ2 (asL l) ∧ OwL C.B S2 H2 (osL l) ∧ (forR f l (z.1.drop (i + 1))).post fin (C.xq L), ?_, ?_⟩
      · rintro σ2 H2 ⟨l, S2, l2, st2, sl2, ow2, q2⟩
        exact ⟨n - 1, by omega, l, S2, by omega, l2, st2, sl2, ow2, q2⟩
      · intro x H2 hy
        obtain ⟨S2, l2, st2, ow2, p2⟩ := it.yld i z.1[i] S1 H1 x H2 l1 st1 (List.getElem?_eq_getElem hi) hy
        refine ⟨(l, z.1[i]), S2, st2, sl1.mono l2, p2, fun σ3 sl3 _ _ => ⟨(l, z.1[i]), S0, S2, l1.trans l2, st2, sl3, ow2 _ ow1, ?_⟩⟩
        rw [List.drop_eq_getElem_cons hi] at q1
        refine R.post_mono (R.post_bind.mp q1) (fun o3 q3 => ?_) fun _ z => xq_le z
        cases o3 with
        | nx l3 =>
          rintro σ4 H4 ⟨S4, l4, st4, sl4, ow4⟩
          exact ⟨l3, S4, l4, st4, sl4, ow4, q3⟩
        | rt r =>
          have q3 : goes (N L) T D (ι (kr r)) := q3
          rw [hk] at q3
          exact q3
    · rw [List.drop_eq_nil_of_le (by omega)] at q1
      exact .inl ⟨it.stop i S1 H1 l1 st1 (by omega), l, L, S1, lL0.trans l1, st1, sl1, ow1, q1⟩⟩
/-- while: the mirror's turns are counted -/
theorem hb_while {δ : Type} {μ' : Type} {c : Expr} {mc : μ' → R (Bool × δ)} {f : μ' → δ → R μ'} {n : Nat} {l0 : μ'} {k : μ' × δ → R α} {asL : μ' → SA} {osL : μ' → δ → OS} {d0 : μ' → δ} (o : Ok X C kn)
    (h0 : Wk as (asL l0)) (h1 : os = osL l0 (d0 l0)) (hc : ∀ l, ∃ mc' : SM δ Bool, mc' (d0 l) = mc l ∧ HT X C c (asL l) (osL l) mc') (hb : ∀ l d, HB X C body (asL l) (osL l d) (f l d) Oc.nx (NS C asL fun l => osL l (d0 l)) T) (hr : ∀ l, HB X C rst (asL l.1) (osL l.1 l.2) (k l) ι N T) :
    HB X C (.While c body [] pos :: rst) as os ((whileR mc f n l0).bind k) ι N T :=
  ⟨pss_weak (pss_cons (ps_while o.po (pt_ex fun l => (Classical.choose_spec (hc l)).2.pt) (pss_ex fun (ld : μ' × δ) => (hb ld.1 ld.2).pss)) (pss_ex fun l => (hr l).pss)) fun D σ H ⟨L, S, lL, st, sl, ow, q⟩ => by
    refine ⟨fun n σ1 H1 => ∃ l S1, L.le S1 ∧ StOk C.B S1 H1 ∧ Sl S1 σ1 (asL l) ∧ OwL C.B S1 H1 (osL l (d0 l)) ∧ (whileR mc f n l).post (fun l => (k l).post (fun a => goes (N L) T D (ι a)) (C.xq L)) (C.xq L),
      ⟨n, l0, S, lL, st, sl.wk h0, by rw [← h1]; exact ow, R.post_bind.mp q⟩, ?_⟩
    rintro n σ1 H1 ⟨l, S1, l1, st1, sl1, ow1, q1⟩
    cases n with
    | zero => exact q1.elim
    | succ n =>
      obtain ⟨e1, _⟩ := Classical.choose_spec (hc l)
      refine ⟨l, d0 l, S1, st1, sl1, ow1, ?_⟩
      rw [e1]
      refine R.post_mono (R.post_bind.mp q1) (fun z q2 S2 H2 l2 st2 ow2 => ?_) fun _ z => xq_le z
      by_cases hz : z.1 = true
      · rw [if_pos hz] at q2 ⊢
        refine ⟨fun σ3 H3 => ∃ l S3, L.le S3 ∧ StOk C.B S3 H3 ∧ Sl S3 σ3 (asL l) ∧ OwL C.B S3 H3 (osL l (d0 l)) ∧ (whileR mc f n l).post (fun l => (k l).post (fun a => goes (N L) T D (ι a)) (C.xq L)) (C.xq L), fun σ' H' h => ⟨n, Nat.lt_succ_self n, h⟩, ?_⟩
        refine ⟨(l, z.2), L, S2, l1.trans l2, st2, sl1.mono l2, ow2, R.post_mono (R.post_bind.mp q2) (fun l3 q3 => ?_) fun _ z => z⟩
        rintro σ4 H4 ⟨S4, l4, st4, sl4, ow4⟩
        exact ⟨l3, S4, l4, st4, sl4, ow4, q3⟩
      · rw [if_neg hz] at q2 ⊢
        exact ⟨(l, z.2), L, S2, l1.trans l2, st2, sl1.mono l2, ow2, q2⟩⟩
end
end Y

/-! Y: comprehensions, owned lists and dicts changed, calls of the text's own defs. -/
namespace Y
open PySem PySem.Spec PyProof.Rows L2

/-! ### comprehensions -/
theorem wipe_get (σ : L2.St) : ∀ (vs : List Nat) (j : Nat), j ∉ vs → (wipe σ vs)[j]? = σ[j]?
  | [], _, _ => rfl
  | v :: vs, j, h => by
    rw [List.mem_cons, not_or] at h
    unfold wipe
    rw [List.getElem?_set_ne (Ne.symm h.1)]
    exact wipe_get σ vs j h.2
theorem wipe_in (σ : L2.St) : ∀ (vs : List Nat) (j : Nat), j ∈ vs → j < σ.length → (wipe σ vs)[j]? = some none
  | [], _, h, _ => by simp at h
  | v :: vs, j, h, hl => by
    unfold wipe
    by_cases e : v = j
    · subst e
      exact List.getElem?_set_self (by rw [wipe_length]; exact hl)
    · rw [List.getElem?_set_ne e]
      rcases List.mem_cons.mp h with q | q
      · exact (e q.symm).elim
      · exact wipe_in σ vs j q hl
theorem wipe_eq {σ τ : L2.St} {vs : List Nat} (hl : σ.length = τ.length) (h : ∀ j, j ∉ vs → σ[j]? = τ[j]?) : wipe σ vs = wipe τ vs := by
  apply List.ext_getElem?
  intro j
  by_cases hj : j ∈ vs
  · by_cases hn : j < σ.length
    · rw [wipe_in σ vs j hj hn, wipe_in τ vs j hj (by omega)]
    · rw [List.getElem?_eq_none (by rw [wipe_length]; omega), List.getElem?_eq_none (by rw [wipe_length]; omega)]
  · rw [wipe_get σ vs j hj, wipe_get τ vs j hj]; exact h j hj
def wipeA (as : SA) : List Nat → SA
  | [] => as
  | v :: vs => (wipeA as vs).set v none
theorem Sl.wipe {S : Sv} {σ : L2.St} {as : SA} (h : Sl S σ as) : ∀ vs : List Nat, Sl S (L2.wipe σ vs) (wipeA as vs)
  | [] => h
  | _ :: vs => (Sl.wipe h vs).un
abbrev Cf.blk (C : Cf) (B : Bs) : Cf := { C with B := B, W := fun _ _ _ _ => False }
section
variable {ς α β γ μ ρ π τ : Type} {X : Cx} {C : Cf} {as : SA} {O : ς → OS} {a b c e elt tg iter : Expr} {es : List Expr} {pos p : Pos} {w w1 w2 : Bool} {kn : Nat}
def lcS (t : α → SM ς Bool) (f : α → SM ς β) : List α → List β → ς → R (List β × ς)
  | [], ys, s => .ok (ys, s)
  | x :: xs, ys, s => (t x s).calm.bind fun b => if b.1 = true then (f x b.2).calm.bind fun z => (R.guard (ys.length < 16777216)).bind fun _ => lcS t f xs (ys ++ [z.1]) z.2 else lcS t f xs ys b.2
structure HTs (X : Cx) (C : Cf) (ifs : List Expr) (as : SA) (O : ς → OS) (m : SM ς Bool) : Prop where
  pt : PTs X ifs (tT C as O m)
theorem hts_nil : HTs X C [] as O (SM.ret true) := ⟨⟨fun pins s σ H Q I ⟨t, S, st, sl, ow, q⟩ => pts_nil.run pins s σ H Q I (q S H (.refl S) st ow)⟩⟩
theorem hts_one {t : SM ς Bool} (h : HT X C c as O t) : HTs X C [c] as O t := ⟨⟨fun pins s σ H Q I hw => (pts_one h.pt).run pins s σ H Q I hw⟩⟩
abbrev blkX (X : Cx) (s : Shared) (H : Hp) (scope : Scope) (cl : List (Str × Addr)) (A : Addr) (fp : List Addr) : Cx := X.blk s H scope (compEnvC scope cl A X.env) fp
/-- what a comprehension's parts make -/
structure Lcp (X : Cx) (C : Cf) (elt tg iter : Expr) (ifs : List Expr) (scope : Scope) (own : List (Str × Nat)) (as : SA) (O : ς → OS) (m : SM ς (List α)) (t : α → SM ς Bool) (f : α → SM ς β) (r : Rp β) : Prop where
  x : ∃ (P : α → VP) (ts : List Nat) (asT : α → SA), HI X C tg iter as O m P ∧ BlkOk X.N X.env.scope scope own ∧ (∀ j ∈ ts, j ∈ own.map (·.2)) ∧
    (∀ (s : Shared) (H : Hp) (cl : List (Str × Addr)) (A : Addr) (fp : List Addr) (B : Bs) (x : α), HTg (blkX X s H scope cl A fp) (C.blk B) tg (wipeA as (own.map (·.2))) (P x) ts (asT x)) ∧
    (∀ (s : Shared) (H : Hp) (cl : List (Str × Addr)) (A : Addr) (fp : List Addr) (B : Bs) (x : α), HTs (blkX X s H scope cl A fp) (C.blk B) ifs (asT x) O (t x)) ∧
    (∀ (s : Shared) (H : Hp) (cl : List (Str × Addr)) (A : Addr) (fp : List Addr) (B : Bs) (x : α), HX (blkX X s H scope cl A fp) (C.blk B) elt (asT x) O (f x) (VP.at true r))
def SM.lc (m : SM ς (List α)) (t : α → SM ς Bool) (f : α → SM ς β) : SM ς (List β) := fun s => (m s).bind fun z => lcS t f z.1 [] z.2
theorem lc_read {m : SM ς (List α)} {t : α → SM ς Bool} {f : α → SM ς β} {r : Rp β} {P : α → VP} {ts vs : List Nat} {asT : α → SA} (hts : ∀ j ∈ ts, j ∈ vs) {σ : L2.St} {H : Hp} {Q : VK}
    (h : tG (π := Addr) C as O (SM.lc m t f) (fun _ p => VP.ptr p) (fun a p => [⟨p, cLst r a, true⟩]) σ H Q) :
    tLc (tI C as O m P) (fun v σ H Q => ∃ Bx : Bs × α, tTg (C.blk Bx.1) (wipeA as vs) (P Bx.2) ts (asT Bx.2) v σ H Q) (fun σ H Q => ∃ Bx : Bs × α, tT (C.blk Bx.1) (asT Bx.2) O (t Bx.2) σ H Q) (fun σ H Q => ∃ Bx : Bs × α, tG (π := Unit) (C.blk Bx.1) (asT Bx.2) O (f Bx.2) (fun z _ => VP.at true r z) (fun _ _ => []) σ H Q) vs σ H Q := by
  obtain ⟨s, S, st, sl, ow, q⟩ := h
  refine ⟨s, S, st, sl, ow, R.post_mono (R.post_bind.mp q) (fun z k J S0 H0 l0 st0 ow0 it D hD => ?_) fun _ z => xq_le z⟩
  refine ⟨fun i n H1 => ∃ ys s1 S1, n = z.1.length - i ∧ S0.le S1 ∧ StOk C.B S1 H1 ∧ OwL C.B S1 H1 (⟨D, cLst r ys, true⟩ :: O s1) ∧ (lcS t f (z.1.drop i) ys s1).post (fun (z : List β × ς) => ∀ (q : Addr) (v : V) (S' : Sv) (H' : Hp), S.le S' → StOk C.B S' H' → OwL C.B S' H' (([⟨q, cLst r z.1, true⟩] : OS) ++ O z.2) → (VP.ptr q).p v S' → Q v H') (C.xq S),
    ⟨z.1.length - 0, [], z.2, S0, rfl, .refl _, st0.grow hD, ow0.new st0 hD ⟨[], rfl, trivial⟩, k⟩, ?_⟩
  rintro i n H1 ⟨ys, s1, S1, en, l1, st1, ow1, q1⟩
  by_cases hi : i < z.1.length
  · refine .inr ⟨it.go i S1 H1 l1 st1 hi, fun H2 => ∃ ys s2 S2, S0.le S2 ∧ StOk C.B S2 H2 ∧ OwL C.B S2 H2 (⟨D, cLst r ys, true⟩ :: O s2) ∧ (lcS t f (z.1.drop (i + 1)) ys s2).post (fun (z : List β × ς) => ∀ (q : Addr) (v : V) (S' : Sv) (H' : Hp), S.le S' → StOk C.B S' H' → OwL C.B S' H' (([⟨q, cLst r z.1, true⟩] : OS) ++ O z.2) → (VP.ptr q).p v S' → Q v H') (C.xq S), ?_, ?_⟩
    · rintro H2 ⟨ys, s2, S2, l2, st2, ow2, q2⟩
      exact ⟨n - 1, by omega, ys, s2, S2, by omega, l2, st2, ow2, q2⟩
    · intro x H2 hy
      obtain ⟨S2, l2, st2, ow2, p2⟩ := it.yld i z.1[i] S1 H1 x H2 l1 st1 (List.getElem?_eq_getElem hi) hy
      have l02 := l1.trans l2
      have sl2 := ((sl.mono l0).mono l02).wipe vs
      obtain ⟨hDy, ⟨o, hDo, vs', eo, hA⟩, ⟨hDf, hDk⟩, hDn, owO⟩ := ow2 _ ow1
      subst eo
      have hDy : S2.y D = none := hDy
      have hDo : H2 D = some (.lst vs') := hDo
      have hDk : C.B.kp D = none := hDk
      -- the new list is kept as it is meanwhile
      have kep : ∀ {S3 : Sv} {H3 : Hp}, StOk C.B S3 H3 → S3.y D = none → H3 D = some (.lst vs') → StOk { C.B with kp := upd C.B.kp D (.lst vs') } S3 H3 := fun {S3 H3} st3 h1 h2 => ⟨st3.gy, st3.yh, st3.g0, st3.b0, st3.fr, st3.tr, fun a u h => by
        by_cases e : a = D
        · subst e
          have h : upd C.B.kp a (.lst vs') a = some u := h
          rw [upd_same] at h
          exact ⟨h2.trans h, h1⟩
        · have h : upd C.B.kp D (.lst vs') a = some u := h
          rw [upd_ne e] at h
          exact st3.kp a u h⟩
      have unk : ∀ {S3 : Sv} {H3 : Hp}, StOk { C.B with kp := upd C.B.kp D (.lst vs') } S3 H3 → StOk C.B S3 H3 ∧ S3.y D = none ∧ H3 D = some (.lst vs') := fun {S3 H3} st3 => by
        have hD3 := st3.kp D (.lst vs') upd_same
        refine ⟨⟨st3.gy, st3.yh, st3.g0, st3.b0, st3.fr, st3.tr, fun a u h => ?_⟩, hD3.2, hD3.1⟩
        refine st3.kp a u ?_
        show upd C.B.kp D (.lst vs') a = some u
        rw [upd_ne fun e => by rw [e, hDk] at h; cases h]
        exact h
      have owk : ∀ {S3 : Sv} {H3 : Hp} {us : OS}, OwL C.B S3 H3 us → (∀ e ∈ us, e.p ≠ D) → OwL { C.B with kp := upd C.B.kp D (.lst vs') } S3 H3 us := fun {S3 H3 us} h n => h.move (.refl _) (fun e m => (h.mem m).1) (fun _ _ _ z => z) (fun _ _ _ z => z) fun e m z => by
        show upd C.B.kp D (.lst vs') e.p = none
        rw [upd_ne (n e m)]; exact z
      have uwk : ∀ {S3 : Sv} {H3 : Hp} {us : OS}, OwL { C.B with kp := upd C.B.kp D (.lst vs') } S3 H3 us → OwL C.B S3 H3 us ∧ ∀ e ∈ us, e.p ≠ D := fun {S3 H3 us} h => by
        have nD : ∀ e ∈ us, e.p ≠ D := fun e m q => by
          have z := (h.mem m).2.2.2
          have z : upd C.B.kp D (.lst vs') e.p = none := z
          rw [q, upd_same] at z; cases z
        refine ⟨h.move (.refl _) (fun e m => (h.mem m).1) (fun _ _ _ z => z) (fun _ _ _ z => z) fun e m z => ?_, nD⟩
        have z : upd C.B.kp D (.lst vs') e.p = none := z
        rw [upd_ne (nD e m)] at z; exact z
      refine ⟨({ C.B with kp := upd C.B.kp D (.lst vs') }, z.1[i]), S2, kep st2 hDy hDo, sl2, p2, fun σ3 sl3 hl3 he3 => ⟨?_, ?_⟩⟩
      · refine wipe_eq (by rw [hl3, wipe_length]) fun j hj => ?_
        rw [he3 j fun m => hj (hts j m), wipe_get σ vs j hj]
      · rw [List.drop_eq_getElem_cons hi] at q1
        refine ⟨({ C.B with kp := upd C.B.kp D (.lst vs') }, z.1[i]), s1, S2, kep st2 hDy hDo, sl3, owk owO hDn, R.calm_post (R.post_mono (R.post_bind.mp q1) (fun b q3 S3 H3 l3 st3 ow3 => ?_) fun _ z => z) _⟩
        obtain ⟨st3', hy3, hD3⟩ := unk st3
        obtain ⟨ow3', n3⟩ := uwk ow3
        by_cases hb : b.1 = true
        · rw [if_pos hb] at q3 ⊢
          refine ⟨({ C.B with kp := upd C.B.kp D (.lst vs') }, z.1[i]), b.2, S3, st3, sl3.mono l3, ow3, R.calm_post (R.post_mono (R.post_bind.mp q3) (fun y q4 _ v S4 H4 l4 st4 ow4 pv => ?_) fun _ z => z) _⟩
          obtain ⟨st4', hy4, hD4⟩ := unk st4
          obtain ⟨ow4', n4⟩ := uwk ow4
          obtain ⟨hz, q4⟩ := R.guard_post.mp (R.post_bind.mp q4)
          have hA4 : A2 r S4.g ys vs' := hA.mono ((l3.trans l4).g)
          refine ⟨vs', hD4, by rw [← hA4.length, sizeLine_eq]; exact hz, ys ++ [y.1], y.2, S4, (l02.trans l3).trans l4, st4'.put hy4 hDk, ?_, q4⟩
          have full : OwL C.B S4 H4 (⟨D, cLst r ys, true⟩ :: O y.2) := ⟨hy4, ⟨_, hD4, vs', rfl, hA4⟩, ⟨hDf, hDk⟩, n4, ow4'⟩
          exact full.put (i := 0) (e := ⟨D, cLst r ys, true⟩) rfl ⟨_, rfl, hA4.snoc pv⟩
        · rw [if_neg hb] at q3 ⊢
          exact ⟨ys, b.2, S3, l02.trans l3, st3', ⟨hy3, ⟨_, hD3, vs', rfl, hA.mono l3.g⟩, ⟨hDf, hDk⟩, n3, ow3'⟩, q3⟩
  · rw [List.drop_eq_nil_of_le (by omega)] at q1
    exact .inl ⟨it.stop i S1 H1 l1 st1 (by omega), q1 D (.ref D) S1 H1 (l0.trans l1) st1 ow1 rfl⟩
theorem hn_lc {ifs : List Expr} {scope : Scope} {own : List (Str × Nat)} {m : SM ς (List α)} {t : α → SM ς Bool} {f : α → SM ς β} {r : Rp β} (o : Ok X C kn) (h : Lcp X C elt tg iter ifs scope own as O m t f r) (hs : ∀ x, foldedSetIterable iter X.env x = pure x := by intro _; rfl) :
    HN X C (.ListComp elt [⟨tg, iter, ifs, 0⟩] scope pos) as O (SM.lc m t f) (cLst r) := by
  obtain ⟨P, ts, asT, hi, ok, hts, hg, ht, he⟩ := h.x
  exact ⟨pe_weak (pe_lc o.calm o.nd hi.pi ok (fun s H A cl fp => pg_ex fun (Bx : Bs × α) => (hg s H cl A fp Bx.1 Bx.2).pg) (fun s H A cl fp => pts_ex fun (Bx : Bs × α) => (ht s H cl A fp Bx.1 Bx.2).pt) (fun s H A cl fp => pe_ex fun (Bx : Bs × α) => (he s H cl A fp Bx.1 Bx.2).pe) hs) fun σ H Q h => lc_read hts h⟩
end
end Y

/-! Y: the text's own defs called; owned lists and dicts changed; dicts read. -/
namespace Y
open PySem PySem.Spec PyProof.Rows L2

/-- what a def promises: its mirror m -/
def spF {τ ρ π0 π : Type} (xr : Er → Value → Option Addr → Hp → Hp → Prop) (Ps : τ → π0 → List VP) (os0 : τ → π0 → OS) (m : τ → R ρ) (Bv : ρ → π → VP) (os1 : ρ → π0 → OS) (nw : ρ → π → OS) : Sp := fun vs H Q E =>
  ∃ (x : τ) (q0 : π0) (G : Hp), Ex G H ∧ (∀ e ∈ os0 x q0, G e.p = none) ∧ AV ⟨G, hide H ((os0 x q0).map (·.p))⟩ vs (Ps x q0) ∧ OwL (Bs.sub G H ((os0 x q0).map (·.p))) ⟨G, hide H ((os0 x q0).map (·.p))⟩ H (os0 x q0) ∧
    (m x).post (fun r => ∀ q v S' H', StOk (Bs.sub G H ((os0 x q0).map (·.p))) S' H' → OwL (Bs.sub G H ((os0 x q0).map (·.p))) S' H' (nw r q ++ os1 r q0) → (Bv r q).p v S' → Q v H')
      (fun ε => ∀ cls d S' H', StOk (Bs.sub G H ((os0 x q0).map (·.p))) S' H' → OwL (Bs.sub G H ((os0 x q0).map (·.p))) S' H' (os0 x q0) → xr ε cls d S'.g H' → E cls d H')
def asP (Ps : List VP) (n : Nat) : SA := Ps.map some ++ List.replicate n none
theorem AV.get {S : Sv} : ∀ {vs : List V} {Ps : List VP} {i : Nat} {P : VP}, AV S vs Ps → Ps[i]? = some P → ∃ v, vs[i]? = some v ∧ P.p v S
  | [], [], _, _, _, e => by simp at e
  | v :: _, Q :: _, 0, P, h, e => by
    have e' : Q = P := Option.some.inj e
    subst e'
    exact ⟨v, rfl, h.1⟩
  | _ :: vs, _ :: Ps, i + 1, P, h, e => AV.get (i := i) h.2 e
  | [], _ :: _, _, _, h, _ => h.elim
  | _ :: _, [], _, _, h, _ => h.elim
theorem start_sl {S : Sv} {N : List Str} {vs : List V} {Ps : List VP} {n : Nat} (h : AV S vs Ps) (hn : n + Ps.length ≤ N.length) : Sl S (L2.start N vs) (asP Ps n) := by
  have hl := h.length
  refine ⟨?_, fun i P e => ?_⟩
  · unfold asP L2.start
    simp only [List.length_append, List.length_map, List.length_replicate]
    omega
  · unfold asP at e
    by_cases hi : i < Ps.length
    · rw [List.getElem?_append_left (by simpa using hi), List.getElem?_map] at e
      obtain ⟨Q, e1, e2⟩ := Option.map_eq_some_iff.mp e
      cases e2
      obtain ⟨v, h1, h2⟩ := h.get e1
      refine ⟨v, ?_, h2⟩
      unfold L2.start
      rw [List.getElem?_append_left (by simp; omega), List.getElem?_map, h1]
      rfl
    · rw [List.getElem?_append_right (by simpa using Nat.le_of_not_lt hi), List.getElem?_replicate] at e
      split at e
      · injection e with e; cases e
      · cases e
/-- a body's configuration -/
abbrev Cf.fn (B : Bs) (E : XK) (ox : OS) (xr : Er → Value → Option Addr → Hp → Hp → Prop) : Cf := ⟨B, fun cls d _ H => E cls d H, [], ox, xr⟩
/-- what a body has handed back -/
def TF {ρ π0 π : Type} (B : Bs) (Bv : ρ → π → VP) (os1 : ρ → π0 → OS) (nw : ρ → π → OS) (q0 : π0) : ρ → V → Hp → Prop := fun r v H => ∃ q S, StOk B S H ∧ OwL B S H (nw r q ++ os1 r q0) ∧ (Bv r q).p v S
section
variable {P : Program} {w : World} {K : PySem.W.Frag} {mg : Str → Option Value} {base : Heap}
/-- a def of the text that hands back at every way -/
theorem fn_ok {τ ρ π0 π : Type} {x qual : Str} {st : Stmt} {f : Addr} {fd : FuncData} {N ps : List Str} {k : Nat} {xr : Er → Value → Option Addr → Hp → Hp → Prop} {Ps : τ → π0 → List VP} {os0 : τ → π0 → OS} {m : τ → R ρ} {Bv : ρ → π → VP} {os1 : ρ → π0 → OS} {nw : ρ → π → OS} (F : Fun K x qual st f fd) (Sc : FnScope N ps (defScope st))
    (n : Nat) (hlen : ∀ x q0, (Ps x q0).length = ps.length) (hN : n + ps.length = N.length)
    (hb : ∀ (cdv : Value) (A : Around) (outer : List Env) (s : Shared) (H : Hp) (E : XK) (B : Bs) (x : τ) (q0 : π0), Ok (cxOf (L2.CX P w) P w K mg base N qual (defScope st) f cdv A outer s H E) (Cf.fn B E (os0 x q0) xr) k →
      HB (μ := Unit) (cxOf (L2.CX P w) P w K mg base N qual (defScope st) f cdv A outer s H E) (Cf.fn B E (os0 x q0) xr) (defBody st) (asP (Ps x q0) n) (os0 x q0) (m x) Oc.rt NF (TF B Bv os1 nw q0)) :
    FnOk P w K mg base (L2.CX P w) (k + 1) f fd ps (spF xr Ps os0 m Bv os1 nw) := by
  refine F.okX Sc (fun vs H Q E ⟨x, q0, G, _, _, h, _⟩ => by rw [h.length, hlen]) fun cdv A outer s H vs Q E hr ⟨x, q0, G, hG, hn, hv, how, h⟩ => ?_
  have o : Ok (cxOf (L2.CX P w) P w K mg base N qual (defScope st) f cdv A outer s H E) (Cf.fn (Bs.sub G H ((os0 x q0).map (·.p))) E (os0 x q0) xr) k := ⟨rfl, Sc.nd, hr, takes_of rfl rfl rfl rfl, passes_of rfl⟩
  refine ⟨_, (hb cdv A outer s H E _ x q0 o).pss, ?_⟩
  have st0 : StOk (Bs.sub G H ((os0 x q0).map (·.p))) ⟨G, hide H ((os0 x q0).map (·.p))⟩ H := {
    gy := fun a u e => by
      have e : G a = some u := e
      show hide H _ a = some u
      rw [hide_out fun m => by
        obtain ⟨e', m1, m2⟩ := List.mem_map.mp m
        have z := hn e' m1
        rw [m2] at z
        rw [z] at e; cases e]
      exact hG a u e
    yh := hide_ex
    g0 := Ex.refl _
    b0 := fun a u e n => by
      show hide H _ a = some u
      rw [hide_out n]; exact e
    fr := fun _ h _ => h
    tr := fun _ h => h
    kp := fun _ _ h => by cases h }
  refine ⟨_, _, .refl _, st0, start_sl hv (by rw [hlen, hN]; exact Nat.le_refl _), how, R.post_mono h (fun r k v H' ⟨q, S', st', ow', pv⟩ => k q v S' H' st' ow' pv) fun ε k cls d S' H' σ _ st' _ ow' hx => k cls d S' H' st' ow' hx⟩
/-- .. that hands back None at its end -/
theorem fn_okN {τ ρ π0 : Type} {x qual : Str} {st : Stmt} {f : Addr} {fd : FuncData} {N ps : List Str} {k : Nat} {xr : Er → Value → Option Addr → Hp → Hp → Prop} {Ps : τ → π0 → List VP} {os0 : τ → π0 → OS} {m : τ → R ρ} {os1 : ρ → π0 → OS} (F : Fun K x qual st f fd) (Sc : FnScope N ps (defScope st))
    (n : Nat) (hlen : ∀ x q0, (Ps x q0).length = ps.length) (hN : n + ps.length = N.length)
    (hb : ∀ (cdv : Value) (A : Around) (outer : List Env) (s : Shared) (H : Hp) (E : XK) (B : Bs) (x : τ) (q0 : π0), Ok (cxOf (L2.CX P w) P w K mg base N qual (defScope st) f cdv A outer s H E) (Cf.fn B E (os0 x q0) xr) k →
      HB (ρ := Unit) (cxOf (L2.CX P w) P w K mg base N qual (defScope st) f cdv A outer s H E) (Cf.fn B E (os0 x q0) xr) (defBody st) (asP (Ps x q0) n) (os0 x q0) (m x) Oc.nx (NS (Cf.fn B E (os0 x q0) xr) (fun _ => []) fun r => os1 r q0) (fun _ _ _ => False)) :
    FnOk P w K mg base (L2.CX P w) (k + 1) f fd ps (spF (π := Unit) xr Ps os0 m (fun _ _ => VP.at true rNon ()) os1 fun _ _ => []) := by
  refine F.okX Sc (fun vs H Q E ⟨x, q0, G, _, _, h, _⟩ => by rw [h.length, hlen]) fun cdv A outer s H vs Q E hr ⟨x, q0, G, hG, hn, hv, how, h⟩ => ?_
  have o : Ok (cxOf (L2.CX P w) P w K mg base N qual (defScope st) f cdv A outer s H E) (Cf.fn (Bs.sub G H ((os0 x q0).map (·.p))) E (os0 x q0) xr) k := ⟨rfl, Sc.nd, hr, takes_of rfl rfl rfl rfl, passes_of rfl⟩
  refine ⟨_, (hb cdv A outer s H E _ x q0 o).pss, ?_⟩
  have st0 : StOk (Bs.sub G H ((os0 x q0).map (·.p))) ⟨G, hide H ((os0 x q0).map (·.p))⟩ H := {
    gy := fun a u e => by
      have e : G a = some u := e
      show hide H _ a = some u
      rw [hide_out fun m => by
        obtain ⟨e', m1, m2⟩ := List.mem_map.mp m
        have z := hn e' m1
        rw [m2] at z
        rw [z] at e; cases e]
      exact hG a u e
    yh := hide_ex
    g0 := Ex.refl _
    b0 := fun a u e n => by
      show hide H _ a = some u
      rw [hide_out n]; exact e
    fr := fun _ h _ => h
    tr := fun _ h => h
    kp := fun _ _ h => by cases h }
  refine ⟨_, _, .refl _, st0, start_sl hv (by rw [hlen, hN]; exact Nat.le_refl _), how, R.post_mono h (fun r k σ' H' ⟨S', _, st', _, ow'⟩ => k () .non S' H' st' ow' rfl) fun ε k cls d S' H' σ _ st' _ ow' hx => k cls d S' H' st' ow' hx⟩
end

section
variable {ς α β γ μ ρ π τ π0 : Type} {X : Cx} {C : Cf} {as : SA} {O : ς → OS} {a b c e elt tg iter : Expr} {es : List Expr} {pos p apos : Pos} {w w1 w2 : Bool} {kn k : Nat}
/-! ### a call of the text's own def; what it may raise is none here -/
def AllF (nw : OS) : Prop := ∀ e ∈ nw, e.f = true
theorem allF_nil : AllF [] := fun _ m => by cases m
theorem allF_cons {q : Addr} {c : Ct} {nw : OS} (h : AllF nw) : AllF (⟨q, c, true⟩ :: nw) := fun e m => by
  rcases List.mem_cons.mp m with z | z
  · subst z; rfl
  · exact h e z
/-- what is new there is new here -/
theorem call_new {B : Bs} {S S1 : Sv} {H H1 : Hp} {own : List Addr} {nw os : OS} (st : StOk B S H) (st1 : StOk (Bs.sub S.g H own) S1 H1) (hf : AllF nw) (h : OwL (Bs.sub S.g H own) S1 H1 nw) (ow : OwL B S H os) (ow' : OwL B (S.back S1) H1 os) : OwL B (S.back S1) H1 (nw ++ os) := by
  have hn : ∀ e ∈ nw, H e.p = none := fun e m => (h.mem m).2.2.1 (hf e m)
  refine (back_in st1 h (fun e m _ z => st.bnone z) (fun e m => st.ynone (hn e m)) fun e m => st.knone (hn e m)).app ow' fun e m u mu z => ?_
  obtain ⟨_, ⟨o, h2, _⟩, _⟩ := ow.mem mu
  rw [z, hn e m] at h2; cases h2
theorem hg_call {xr : Er → Value → Option Addr → Hp → Hp → Prop} {Ps : τ → List VP} {m : τ → R ρ} {Bv : ρ → π → VP} {nw : ρ → π → OS} {f : Addr} {fd : FuncData} {ps : List Str} {x : Str} {ma : SM ς τ} (F : FnOk X.prog X.w X.K X.mg X.base (L2.CX X.prog X.w) k f fd ps (spF (π0 := Unit) xr (fun x _ => Ps x) (fun _ _ => []) m Bv (fun _ _ => []) nw)) (o : Ok X C kn) (hkn : k ≤ kn)
    (hm : X.mg x = some (.ref f)) (hk : PySem.W.keepIn X.K (.ref f) = true) (hb : Binds X.K fd ps []) (ha : HA X C (e :: es) as O ma Ps) (hB : ∀ r q, PGo (Bv r q)) (hf : ∀ r q, AllF (nw r q)) (hg : Gl X x := by rfl)
    (hdb : (x == ("__debug__" : Str)) = false := by decide) (he : starEach (e :: es) X.env = (false, eval e X.env) :: starEach es X.env := by rfl) (hpl : (backTo pos (starEach es X.env)).any (·.1) = false := by rfl) :
    HG X C (.Call (.Name x p) (e :: es) [] pos) as O (SM.bnd1 (fun z => (m z).calm) ma) Bv nw :=
  ⟨pe_weak (pe_callSD F (o.room.mono hkn) hg hm hk hb .nil (fun σ => passAt o.tk σ) ha.pa hdb he hpl) fun σ H Q ⟨s, S, st, sl, ow, q⟩ =>
  ⟨s, S, st, sl, ow, R.post_mono (R.post_bind.mp q) (fun z k vs S1 H1 l1 st1 ow1 pv => by
    show spF _ _ _ _ _ _ _ (vs ++ []) H1 Q _
    rw [List.append_nil]
    have k := R.post_bind.mp k
    refine ⟨z.1, (), S1.g, st1.gy.trans st1.yh, (fun _ m => by cases m), ?_, trivial, R.calm_post (R.post_mono k (fun r k2 q v S2 H2 st2 ow2 p2 => ?_) fun _ z => z) _⟩
    · show AV ⟨S1.g, hide H1 []⟩ vs (Ps z.1)
      refine AV.mono (S := S1) (S' := ⟨S1.g, hide H1 []⟩) ⟨Ex.refl _, ?_⟩ pv
      show Ex S1.y (hide H1 [])
      rw [hide_nil]; exact st1.yh
    · have ow2 : OwL (Bs.sub S1.g H1 []) S2 H2 (nw r q ++ []) := ow2
      rw [List.append_nil] at ow2
      exact k2 q v (S1.back S2) H2 (l1.trans (back_le st2)) (back_ok st1 st2 (fun _ m => by cases m) (fun _ m => by cases m)) (call_new st1 st2 (hf r q) ow2 ow1 (back_ow st1 st2 ow1 fun _ _ m => by cases m)) (hB r q v S2 _ rfl p2)) fun _ z => xq_le z⟩⟩
/-- .. with one owned thing lent to be changed: it stands at place i among the owned -/
theorem hg_call1 {δ : Type} {xr : Er → Value → Option Addr → Hp → Hp → Prop} {Ps : τ → Addr → List VP} {ct : δ → Ct} {sel0 : τ → δ} {m : τ → R ρ} {Bv : ρ → π → VP} {sel1 : ρ → δ} {nw : ρ → π → OS} {f : Addr} {fd : FuncData} {ps : List Str} {x : Str} {ma : SM ς β} {Pa : β → List VP}
    (F : FnOk X.prog X.w X.K X.mg X.base (L2.CX X.prog X.w) k f fd ps (spF (π0 := Addr) xr Ps (fun x q => [⟨q, ct (sel0 x), false⟩]) m Bv (fun r q => [⟨q, ct (sel1 r), false⟩]) nw)) (o : Ok X C kn) (hkn : k ≤ kn)
    (hm : X.mg x = some (.ref f)) (hk : PySem.W.keepIn X.K (.ref f) = true) (hb : Binds X.K fd ps []) (i : Nat) {q0 : Addr} {fl : Bool} (sel : ς → δ) (put : ς → δ → ς) (mk : β → δ → τ) (ha : HA X C (e :: es) as O ma Pa) (hPs : ∀ z d, Ps (mk z d) q0 = Pa z) (hs0 : ∀ z d, sel0 (mk z d) = d)
    (hO : ∀ s, (O s)[i]? = some ⟨q0, ct (sel s), fl⟩) (hput : ∀ s d, (O s).set i ⟨q0, ct d, fl⟩ = O (put s d)) (hB : ∀ r q, PGo (Bv r q)) (hf : ∀ r q, AllF (nw r q)) (hg : Gl X x := by rfl)
    (hdb : (x == ("__debug__" : Str)) = false := by decide) (he : starEach (e :: es) X.env = (false, eval e X.env) :: starEach es X.env := by rfl) (hpl : (backTo pos (starEach es X.env)).any (·.1) = false := by rfl) :
    HG X C (.Call (.Name x p) (e :: es) [] pos) as O (fun s => (ma s).bind fun z => (m (mk z.1 (sel z.2))).calm.bind fun r => .ok (r, put z.2 (sel1 r))) Bv nw :=
  ⟨pe_weak (pe_callSD F (o.room.mono hkn) hg hm hk hb .nil (fun σ => passAt o.tk σ) ha.pa hdb he hpl) fun σ H Q ⟨s, S, st, sl, ow, q⟩ =>
  ⟨s, S, st, sl, ow, R.post_mono (R.post_bind.mp q) (fun z k vs S1 H1 l1 st1 ow1 pv => by
    show spF _ _ _ _ _ _ _ (vs ++ []) H1 Q _
    rw [List.append_nil]
    have k := R.post_bind.mp k
    obtain ⟨hy, ⟨u, hu1, hu2⟩, hfl, hkp⟩ := ow1.get (hO z.2)
    have hy : S1.y q0 = none := hy
    have hmem : ∀ a ∈ [q0], S1.y a = none := fun a m => by
      have e : a = q0 := by simpa using m
      rw [e]; exact hy
    have hkm : ∀ a ∈ [q0], C.B.kp a = none := fun a m => by
      have e : a = q0 := by simpa using m
      rw [e]; exact hkp
    have ld := lend_le st1 hmem
    refine ⟨mk z.1 (sel z.2), q0, S1.g, st1.gy.trans st1.yh, ?_, ?_, ?_, R.calm_post (R.post_mono k (fun r k2 q v S2 H2 st2 ow2 p2 => ?_) fun _ z => z) _⟩
    · intro e m
      have e1 : e = ⟨q0, ct (sel0 (mk z.1 (sel z.2))), false⟩ := by simpa using m
      rw [e1]; exact st1.gnone hy
    · rw [hPs]
      exact pv.mono ld
    · show OwL (Bs.sub S1.g H1 [q0]) ⟨S1.g, hide H1 [q0]⟩ H1 [⟨q0, ct (sel0 (mk z.1 (sel z.2))), false⟩]
      rw [hs0]
      exact ⟨hide_in (by simp), ⟨u, hu1, hu2⟩, ⟨(fun z => by cases z), rfl⟩, (fun _ m => by cases m), trivial⟩
    · have st2 : StOk (Bs.sub S1.g H1 [q0]) S2 H2 := st2
      have ow2 : OwL (Bs.sub S1.g H1 [q0]) S2 H2 (nw r q ++ [⟨q0, ct (sel1 r), false⟩]) := ow2
      have hsep : ∀ e ∈ nw r q, e.p ≠ q0 := fun e m z => by
        have h1 := (ow2.left.mem m).2.2.1 (hf r q e m)
        have h1 : H1 e.p = none := h1
        rw [z, hu1] at h1; cases h1
      obtain ⟨h1, ⟨u', h2, h3⟩, _⟩ := ow2.right
      -- the owned ones behind the call
      have own2 : OwL C.B (S1.back S2) H2 ((O z.2).set i ⟨q0, ct (sel1 r), fl⟩) := by
        have base : ∀ {os : OS} {j : Nat}, OwL C.B S1 H1 os → os[j]? = some ⟨q0, ct (sel z.2), fl⟩ → OwL C.B (S1.back S2) H2 (os.set j ⟨q0, ct (sel1 r), fl⟩) := by
          intro os
          induction os with
          | nil => intro j _ h; simp at h
          | cons a t ih =>
            intro j h hj
            obtain ⟨g1, g2, g3, g4, g5⟩ := h
            cases j with
            | zero =>
              have ea : a = ⟨q0, ct (sel z.2), fl⟩ := Option.some.inj hj
              subst ea
              exact ⟨back_none st1 st2 hy hu1, ⟨u', h2, h3⟩, g3, g4, back_ow st1 st2 g5 fun e m z => by
                have e : e.p = q0 := by simpa using z
                exact g4 _ m e⟩
            | succ j =>
              have hj : t[j]? = some ⟨q0, ct (sel z.2), fl⟩ := hj
              have ne : a.p ≠ q0 := (g4 _ (List.mem_of_getElem? hj)).symm
              obtain ⟨o', g2a, g2b⟩ := g2
              refine ⟨back_none st1 st2 g1 g2a, ⟨o', st2.yh _ _ (st2.b0 _ _ g2a (by simpa using ne)), a.c.mono (back_le st2).g g2b⟩, g3, fun e m => ?_, ih g5 hj⟩
              rcases List.mem_or_eq_of_mem_set m with m | m
              · exact g4 e m
              · subst m; exact ne.symm
        exact base ow1 (hO z.2)
      have own3 := own2
      rw [hput] at own3
      have fin : OwL C.B (S1.back S2) H2 (nw r q ++ O (put z.2 (sel1 r))) := by
        have hn : ∀ e ∈ nw r q, H1 e.p = none := fun e m => (ow2.left.mem m).2.2.1 (hf r q e m)
        refine (back_in st2 ow2.left (fun e m _ z => st1.bnone z) (fun e m => st1.ynone (hn e m)) fun e m => st1.knone (hn e m)).app own3 fun e m w' mw z' => ?_
        rw [← hput] at mw
        rcases List.mem_or_eq_of_mem_set mw with m2 | m2
        · obtain ⟨_, ⟨o, h2, _⟩, _⟩ := ow1.mem m2
          rw [z', hn e m] at h2; cases h2
        · subst m2; exact hsep e m z'.symm
      exact k2 q v (S1.back S2) H2 (l1.trans (back_le st2)) (back_ok st1 st2 hmem hkm) fin (hB r q v S2 _ rfl p2)) fun _ z => xq_le z⟩⟩
end
end Y

/-! Y: owned lists and dicts changed, dicts read. -/
namespace Y
open PySem PySem.Spec PyProof.Rows L2

/-! ### an object that is kept as it is for a while -/
abbrev Bs.kpp (B : Bs) (p : Addr) (o : HO) : Bs := { B with kp := upd B.kp p o }
section
variable {B : Bs} {S : Sv} {H : Hp} {p : Addr} {o : HO} {us : OS}
theorem kp_ok (st : StOk B S H) (h1 : S.y p = none) (h2 : H p = some o) : StOk (B.kpp p o) S H := ⟨st.gy, st.yh, st.g0, st.b0, st.fr, st.tr, fun a u h => by
  have h : upd B.kp p o a = some u := h
  by_cases e : a = p
  · subst e
    rw [upd_same] at h
    exact ⟨h2.trans h, h1⟩
  · rw [upd_ne e] at h
    exact st.kp a u h⟩
theorem kp_un (hk : B.kp p = none) (st : StOk (B.kpp p o) S H) : StOk B S H ∧ S.y p = none ∧ H p = some o := by
  have hD := st.kp p o upd_same
  refine ⟨⟨st.gy, st.yh, st.g0, st.b0, st.fr, st.tr, fun a u h => ?_⟩, hD.2, hD.1⟩
  refine st.kp a u ?_
  show upd B.kp p o a = some u
  rw [upd_ne fun e => by rw [e, hk] at h; cases h]
  exact h
theorem kp_ow (h : OwL B S H us) (n : ∀ e ∈ us, e.p ≠ p) : OwL (B.kpp p o) S H us := h.move (.refl _) (fun e m => (h.mem m).1) (fun _ _ _ z => z) (fun _ _ _ z => z) fun e m z => by
  show upd B.kp p o e.p = none
  rw [upd_ne (n e m)]; exact z
theorem kp_uw (h : OwL (B.kpp p o) S H us) : OwL B S H us ∧ ∀ e ∈ us, e.p ≠ p := by
  have nD : ∀ e ∈ us, e.p ≠ p := fun e m q => by
    have z := (h.mem m).2.2.2
    have z : upd B.kp p o e.p = none := z
    rw [q, upd_same] at z; cases z
  refine ⟨h.move (.refl _) (fun e m => (h.mem m).1) (fun _ _ _ z => z) (fun _ _ _ z => z) fun e m z => ?_, nD⟩
  have z : upd B.kp p o e.p = none := z
  rw [upd_ne (nD e m)] at z; exact z
end
abbrev Cf.at (C : Cf) (B : Bs) : Cf := { C with B := B }
theorem Ok.at {X : Cx} {C : Cf} {k : Nat} (o : Ok X C k) (B : Bs) : Ok X (C.at B) k := ⟨o.calm, o.nd, o.room, o.tk, o.po⟩

section
variable {ς α β γ δ κ μ ρ π τ π0 : Type} {X : Cx} {C : Cf} {as : SA} {O : ς → OS} {a b c e elt tg iter : Expr} {es : List Expr} {pos p apos px : Pos} {w w1 w2 : Bool} {kn k : Nat} {rst : List Stmt} {N : Sv → μ → L2.St → Hp → Prop} {T : ρ → V → Hp → Prop} {ι : α → Oc μ ρ}
/-- an assignment of a comprehension to a plain local name -/
theorem hb_lcT {ifs : List Expr} {scope : Scope} {own : List (Str × Nat)} {m : SM ς (List γ)} {t : γ → SM ς Bool} {f : γ → SM ς β} {r : Rp β} {kk : List β × ς → R α} (i : Nat) {x : Str} {ps2 : Pos} (o : Ok X C kn) (h : Lcp X C elt tg iter ifs scope own as O m t f r) (s : ς) (hr : ∀ (z : List β × ς) (q : Addr), HB X C rst (as.set i (some (VP.ptr q))) (⟨q, cLst r z.1, true⟩ :: O z.2) (kk z) ι N T)
    (hi : X.N[i]? = some x := by rfl) (hyl : X.env.scope.names.lookup x = some .local := by rfl) (hsw : swapsWith (.ListComp elt [⟨tg, iter, ifs, 0⟩] scope pos) (some (.Name x px)) ps2.line X.env = pure true := by exact sw_true rfl rfl rfl (by decide +kernel)) (hs : ∀ x, foldedSetIterable iter X.env x = pure x := by intro _; rfl) :
    HB X C (.Assign [.Name x px] (.ListComp elt [⟨tg, iter, ifs, 0⟩] scope pos) ps2 :: rst) as (O s) ((SM.lc m t f s).bind kk) ι N T := by
  obtain ⟨P, ts, asT, hit, ok, hts, hg, ht, he⟩ := h.x
  exact ⟨pss_weak (pss_cons (ps_setLc o.calm o.nd hi hyl hsw hit.pi ok (fun s H A cl fp => pg_ex fun (Bx : Bs × γ) => (hg s H cl A fp Bx.1 Bx.2).pg) (fun s H A cl fp => pts_ex fun (Bx : Bs × γ) => (ht s H cl A fp Bx.1 Bx.2).pt) (fun s H A cl fp => pe_ex fun (Bx : Bs × γ) => (he s H cl A fp Bx.1 Bx.2).pe) hs) (pss_ex fun (zq : (List β × ς) × Addr) => (hr zq.1 zq.2).pss)) fun D σ H ⟨L, S, lL, st, sl, ow, q⟩ =>
    lc_read (r := r) (P := P) (asT := asT) (Q := fun x H1 => ∃ zq : (List β × ς) × Addr, tB C (as.set i (some (VP.ptr zq.2))) (⟨zq.2, cLst r zq.1.1, true⟩ :: O zq.1.2) (kk zq.1) ι N T D (σ.set i (some x)) H1) hts ⟨s, S, st, sl, ow, R.post_mono (R.post_bind.mp q) (fun z k' q v S' H' l' st' ow' pv => ⟨(z, q), L, S', lL.trans l', st', (sl.mono l').set pv, ow', k'⟩) fun _ z => xq_le z⟩⟩

/-! ### methods that change an owned list -/
def OVU (r : V → List V → Hp → VK → Prop) (rp : Rp δ) (Ps : β → List VP) (f : List δ → β → R (γ × List δ)) (P : γ → VP) : Prop :=
  ∀ (xs : List δ) (y : β) (p : Addr) (vs' vs : List V) (S : Sv) (H : Hp) (Q : VK) (x : Er → Prop), H p = some (.lst vs') → A2 rp S.g xs vs' → AV S vs (Ps y) →
    (f xs y).post (fun z => ∀ v ws, A2 rp S.g z.2 ws → (P z.1).p v S → Q v (upd H p (.lst ws))) x → r (.ref p) vs H Q
theorem mut_fin {B : Bs} {S : Sv} {H : Hp} {os : OS} {i : Nat} {p : Addr} {rp : Rp δ} {xs ys : List δ} {fl : Bool} {ws : List V} (st : StOk B S H) (ow : OwL B S H os) (hi : os[i]? = some ⟨p, cLst rp xs, fl⟩) (h : A2 rp S.g ys ws) :
    StOk B S (upd H p (.lst ws)) ∧ OwL B S (upd H p (.lst ws)) (os.set i ⟨p, cLst rp ys, fl⟩) := by
  obtain ⟨h1, _, _, h3⟩ := ow.get hi
  exact ⟨st.put h1 h3, ow.put (c := cLst rp ys) hi ⟨ws, rfl, h⟩⟩
theorem hx_mutL {id : String} {name x : Str} {r : V → List V → Hp → VK → Prop} {rp : Rp δ} {Ps : β → List VP} {f : List δ → β → R (γ × List δ)} {P : γ → VP} {ma : SM ς β} {q0 : Addr} {fl : Bool} (slot : Slot "list" name id) (hty : typeOf (.builtin id) = pure (.type "method_descriptor")) (hm : MtR X id r) (hv : OVU r rp Ps f P)
    (i j : Nat) (sel : ς → List δ) (put : ς → List δ → ς) (ha : HA X C (e :: es) as O ma Ps) (h : as[i]? = some (some (VP.ptr q0)) := by rfl) (hO : ∀ s, (O s)[j]? = some ⟨q0, cLst rp (sel s), fl⟩ := by intro _; rfl) (hput : ∀ s d, (O s).set j ⟨q0, cLst rp d, fl⟩ = O (put s d) := by intro _ _; rfl)
    (hN : X.N[i]? = some x := by rfl) (hvis : Vis X.env.scope x := by first | exact Or.inl rfl | exact Or.inr (Or.inl rfl) | exact Or.inr (Or.inr rfl)) (hd : (x == ("__debug__" : Str)) = false := by decide) (hcd : (x == ("__classdict__" : Str)) = false := by decide)
    (hbase : attributeBase (.Name x px) name X.env (eval (.Name x px) X.env) = eval (.Name x px) X.env := by rfl)
    (hfew : ((backTo pos (starEach (e :: es) X.env)).all (fun x => !x.1) && (backToKw pos (keywordEach [] X.env)).all (fun x => x.1.isSome)
      && decide ((e :: es).length + ([] : List Keyword).length + (if ([] : List Keyword).isEmpty then 0 else 1) < 30)) = true := by rfl)
    (hline : (apos.endLine == pos.line) = true := by rfl) (hs : starEach (e :: es) X.env = (false, eval e X.env) :: starEach es X.env := by rfl) (hplain : (backTo pos (starEach es X.env)).any (·.1) = false := by rfl) :
    HX X C (.Call (.Attribute (.Name x px) name apos) (e :: es) [] pos) as O (fun s => (ma s).bind fun z => (f (sel z.2) z.1).bind fun r => .ok (r.1, put z.2 r.2)) P :=
  ⟨pe_weak (pe_bm PySem.F.plainAttrs_list slot hty hm (pe_var hN hvis hd hcd) ha.pa hbase hfew hline hs hplain) fun σ H Q ⟨s, S, st, sl, ow, q⟩ => by
    obtain ⟨v, h1, h2⟩ := sl.2 i _ h
    have h2 : v = .ref q0 := h2
    subst h2
    obtain ⟨_, ⟨o, ho, vs0, eo, _⟩, _⟩ := ow.get (hO s)
    subst eo
    refine ⟨.ref q0, h1, .inl ⟨rfl, _, SqL.of ho⟩, s, S, st, sl, ow, R.post_mono (R.post_bind.mp q) (fun z k vs S' H' l' st' ow' pv => ?_) fun _ z => xq_le z⟩
    obtain ⟨_, ⟨o', ho', vs', eo', hA⟩, _⟩ := ow'.get (hO z.2)
    subst eo'
    refine hv _ _ _ _ _ S' H' Q _ ho' hA pv (R.post_mono (R.post_bind.mp k) (fun y k2 v ws hw pw => ?_) fun _ z => z)
    obtain ⟨st2, ow2⟩ := mut_fin st' ow' (hO z.2) hw
    rw [hput] at ow2
    exact k2 () v S' _ l' st2 ow2 pw⟩
theorem hx_mutL0 {id : String} {name x : Str} {r : V → List V → Hp → VK → Prop} {rp : Rp δ} {f : List δ → R (γ × List δ)} {P : γ → VP} {q0 : Addr} {fl : Bool} (slot : Slot "list" name id) (hty : typeOf (.builtin id) = pure (.type "method_descriptor")) (hm : MtR X id r) (hv : OVU r rp (fun (_ : Unit) => []) (fun xs _ => f xs) P)
    (i j : Nat) (sel : ς → List δ) (put : ς → List δ → ς) (h : as[i]? = some (some (VP.ptr q0)) := by rfl) (hO : ∀ s, (O s)[j]? = some ⟨q0, cLst rp (sel s), fl⟩ := by intro _; rfl) (hput : ∀ s d, (O s).set j ⟨q0, cLst rp d, fl⟩ = O (put s d) := by intro _ _; rfl)
    (hN : X.N[i]? = some x := by rfl) (hvis : Vis X.env.scope x := by first | exact Or.inl rfl | exact Or.inr (Or.inl rfl) | exact Or.inr (Or.inr rfl)) (hd : (x == ("__debug__" : Str)) = false := by decide) (hcd : (x == ("__classdict__" : Str)) = false := by decide)
    (hbase : attributeBase (.Name x px) name X.env (eval (.Name x px) X.env) = eval (.Name x px) X.env := by rfl) (hline : (apos.endLine == pos.line) = true := by rfl) :
    HX X C (.Call (.Attribute (.Name x px) name apos) [] [] pos) as O (fun s => (f (sel s)).bind fun r => .ok (r.1, put s r.2)) P :=
  ⟨pe_weak (pe_bm0 PySem.F.plainAttrs_list slot hty hm (pe_var hN hvis hd hcd) hbase hline) fun σ H Q ⟨s, S, st, sl, ow, q⟩ => by
    obtain ⟨v, h1, h2⟩ := sl.2 i _ h
    have h2 : v = .ref q0 := h2
    subst h2
    obtain ⟨_, ⟨o, ho, vs0, eo, hA⟩, _⟩ := ow.get (hO s)
    subst eo
    refine ⟨.ref q0, h1, .inl ⟨rfl, _, SqL.of ho⟩, hv _ () _ _ _ S H Q _ ho hA trivial (R.post_mono (R.post_bind.mp q) (fun y k2 v ws hw pw => ?_) fun _ z => z)⟩
    obtain ⟨st2, ow2⟩ := mut_fin st ow (hO s) hw
    rw [hput] at ow2
    exact k2 () v S _ (.refl S) st2 ow2 pw⟩
def appR (xs : List δ) (y : δ) : R (Unit × List δ) := (R.guard (xs.length < 16777216)).bind fun _ => .ok ((), xs ++ [y])
theorem ov_app {rp : Rp δ} : OVU rAppend rp (fun y => [VP.at true rp y]) appR (VP.at true rNon) := fun xs y p vs' vs S H Q x hp hA pv q => by
  obtain ⟨v, e1, p1⟩ := av1 pv
  subst e1
  obtain ⟨hz, q⟩ := R.guard_post.mp (R.post_bind.mp q)
  exact ⟨p, vs', v, rfl, rfl, hp, by rw [← hA.length, sizeLine_eq]; exact hz, q .non _ (hA.snoc p1) rfl⟩
def insR (xs : List δ) (z : Int × δ) : R (Unit × List δ) := (R.guard (xs.length < 16777216 ∧ 0 ≤ z.1 ∧ z.1 < 2 ^ 63)).bind fun _ => .ok ((), xs.take z.1.toNat ++ [z.2] ++ xs.drop z.1.toNat)
abbrev rInsert : V → List V → Hp → VK → Prop := fun x vs H Q => ∃ (l : Addr) (xs : List V) (i : Int) (y : V), x = .ref l ∧ vs = [.int i, y] ∧ H l = some (.lst xs) ∧ xs.length < sizeLine ∧ 0 ≤ i ∧ i < 2 ^ 63 ∧ Q .non (upd H l (.lst (xs.take i.toNat ++ [y] ++ xs.drop i.toNat)))
theorem ov_ins {rp : Rp δ} : OVU rInsert rp (fun z => [VP.at w rInt z.1, VP.at true rp z.2]) insR (VP.at true rNon) := fun xs y p vs' vs S H Q x hp hA pv q => by
  obtain ⟨v, u, e1, p1, p2⟩ := av2 pv
  have e2 : v = .int y.1 := p1
  subst e1; subst e2
  obtain ⟨⟨hz, h0, h1⟩, q⟩ := R.guard_post.mp (R.post_bind.mp q)
  exact ⟨p, vs', y.1, u, rfl, rfl, hp, by rw [← hA.length, sizeLine_eq]; exact hz, h0, h1, q .non _ (((hA.take _).append (show A2 rp S.g [y.2] [u] from ⟨p2, trivial⟩)).append (hA.drop _)) rfl⟩
def revR (xs : List δ) : R (Unit × List δ) := .ok ((), xs.reverse)
theorem ov_rev {rp : Rp δ} : OVU rReverse rp (fun (_ : Unit) => []) (fun xs _ => revR xs) (VP.at true rNon) := fun xs y p vs' vs S H Q x hp hA pv q => by
  cases vs with
  | nil => exact ⟨p, vs', rfl, rfl, hp, q .non _ hA.reverse rfl⟩
  | cons _ _ => exact pv.elim
def clrR (xs : List δ) : R (Unit × List δ) := .ok ((), [])
theorem ov_clr {rp : Rp δ} : OVU rClear rp (fun (_ : Unit) => []) (fun xs _ => clrR xs) (VP.at true rNon) := fun xs y p vs' vs S H Q x hp hA pv q => by
  cases vs with
  | nil => exact ⟨p, vs', rfl, rfl, hp, q .non _ (show A2 rp S.g [] [] from trivial) rfl⟩
  | cons _ _ => exact pv.elim
def popR (xs : List δ) (i : Int) : R (δ × List δ) := (R.guard (-(2 ^ 63) ≤ i ∧ i < 2 ^ 63)).bind fun _ => (R.ofO (seqIndex? i xs.length)).bind fun k => (R.ofO xs[k]?).bind fun y => .ok (y, xs.eraseIdx k)
theorem ov_pop {rp : Rp δ} : OVU rPopAt rp (fun z => [VP.at w rInt z]) popR (VP.at true rp) := fun xs y p vs' vs S H Q x hp hA pv q => by
  obtain ⟨v, e1, p1⟩ := av1 pv
  have e2 : v = .int y := p1
  subst e1; subst e2
  obtain ⟨⟨h0, h1⟩, q⟩ := R.guard_post.mp (R.post_bind.mp q)
  obtain ⟨k, hk, q⟩ := R.ofO_post.mp (R.post_bind.mp q)
  obtain ⟨z, hz, q⟩ := R.ofO_post.mp (R.post_bind.mp q)
  obtain ⟨u, hu, hr⟩ := hA.get hz
  exact ⟨p, vs', y, k, u, rfl, rfl, hp, h0, h1, by rw [← hA.length]; exact hk, hu, q u _ (hA.eraseIdx k) hr⟩
/-! ### xs[i] = e -/
def setR (xs : List δ) (i : Int) (y : δ) : R (List δ) := (R.ofO (ixN xs.length i)).bind fun j => .ok (xs.set j y)
theorem hb_setL {m : SM ς δ} {mi : SM ς Int} {rp : Rp δ} {q0 : Addr} {fl : Bool} {x : Str} {ie : Expr} {p2 : Pos} {kk : ς → R α} (i j : Nat) (sel : ς → List δ) (put : ς → List δ → ς) (he : HX X C e as O m (VP.at true rp)) (hie : HX X C ie as O mi (VP.at w rInt)) (s : ς) (hr : ∀ s, HB X C rst as (O s) (kk s) ι N T)
    (h : as[i]? = some (some (VP.ptr q0)) := by rfl) (hO : ∀ s, (O s)[j]? = some ⟨q0, cLst rp (sel s), fl⟩ := by intro _; rfl) (hput : ∀ s d, (O s).set j ⟨q0, cLst rp d, fl⟩ = O (put s d) := by intro _ _; rfl)
    (hN : X.N[i]? = some x := by rfl) (hvis : Vis X.env.scope x := by first | exact Or.inl rfl | exact Or.inr (Or.inl rfl) | exact Or.inr (Or.inr rfl)) (hd : (x == ("__debug__" : Str)) = false := by decide) (hcd : (x == ("__classdict__" : Str)) = false := by decide)
    (hs : swapsWithSole [.Subscript (.Name x px) ie p2] e pos.line X.env = pure false := by rfl) (hw : swappedStores [.Subscript (.Name x px) ie p2] e X.env = pure none := by rfl) (h1 : (assignEach [.Subscript (.Name x px) ie p2] X.env).map (·.2) = [assign (.Subscript (.Name x px) ie p2) X.env] := by rfl)
    (ha : ∀ v, assign (.Subscript (.Name x px) ie p2) X.env v = (do
      let ov ← holding [v] (eval (.Name x px) X.env)
      let iv ← holding [v, ov] (eval ie X.env)
      standAt p2
      holding [v, ov, iv] (setItem ov iv v)
      release [v, ov, iv] []) := by intro _; rfl) :
    HB X C (.Assign [.Subscript (.Name x px) ie p2] e pos :: rst) as (O s) ((m s).bind fun z => (mi z.2).bind fun y => (setR (sel y.2) y.1 z.1).bind fun l => kk (put y.2 l)) ι N T :=
  ⟨pss_weak (pss_cons (ps_asg he.pe (pg_sub (pe_var hN hvis hd hcd) hie.pe set_list ha) hs hw h1) (pss_ex fun s => (hr s).pss)) fun D σ H ⟨L, S, lL, st, sl, ow, q⟩ =>
    ⟨s, S, st, sl, ow, R.post_mono (R.post_bind.mp q) (fun z k _ v S1 H1 l1 st1 ow1 pv => by
      obtain ⟨u, g1, g2⟩ := sl.2 i _ h
      have g2 : u = .ref q0 := g2
      subst g2
      refine ⟨.ref q0, g1, z.2, S1, st1, sl.mono l1, ow1, R.post_mono (R.post_bind.mp k) (fun y k2 _ u S2 H2 l2 st2 ow2 pu => ?_) fun _ z => xq_le z⟩
      have pu : u = .int y.1 := pu
      subst pu
      obtain ⟨_, ⟨o', ho', vs', eo', hA⟩, _⟩ := ow2.get (hO y.2)
      subst eo'
      have k2 := R.post_bind.mp k2
      obtain ⟨jj, hj, k2⟩ := R.ofO_post.mp (R.post_bind.mp k2)
      obtain ⟨st3, ow3⟩ := mut_fin st2 ow2 (hO y.2) (hA.set (rp.mono l2.g pv) jj)
      have ow3 : OwL C.B S2 _ ((O y.2).set j ⟨q0, cLst rp ((sel y.2).set jj z.1), fl⟩) := ow3
      rw [hput] at ow3
      exact ⟨q0, vs', y.1, jj, rfl, rfl, ho', by rw [← hA.length]; exact hj, _, L, S2, (lL.trans l1).trans l2, st3, (sl.mono l1).mono l2, ow3, k2⟩) fun _ z => xq_le z⟩⟩
/-! ### dicts -/
section dicts
variable [DecidableEq κ] {kk : KK κ} {r : Rp β}
theorem ad_dget {H H' : Hp} {p : Addr} {d : List (κ × β)} {kvs : List (Key × V)} (hp : H' p = some (.dK kvs)) (h : AD kk.k r H d kvs) {k : κ} {v : V} {H0 : Hp} (hv : kk.rp.rep k v H0) : DGet H' p v (valV kvs (kk.k k)) := by
  rw [kk.law hv]
  exact .k hp
theorem hx_dget {m : SM ς (List (κ × β))} {mk : SM ς κ} (o : Ok X C kn) (ha : HX X C a as O m (VP.at w (rDic kk r))) (hb : HX X C b as O mk (VP.at w2 kk.rp)) (hs : NoSl b := by exact fun _ _ => rfl) : HX X C (.Subscript a b pos) as O (SM.bnd2 (fun d k => R.ofO (dget d k)) m mk) (VP.at w r) := ⟨pe_weak (pe_dget o.hu ha.pe hb.pe hs) fun σ H Q h => by
  obtain ⟨s, S, st, sl, ow, q⟩ := hg_two ha hb h
  refine ⟨s, S, st, sl, ow, R.post_mono q (fun z k u v S1 H1 l1 st1 ow1 p1 => ?_) fun _ z => xq_le z⟩
  obtain ⟨s', S', st', sl', ow', q'⟩ := k u v S1 H1 l1 st1 ow1 p1
  refine ⟨s', S', st', sl', ow', R.post_mono q' (fun z k u v S1 H1 l1 st1 ow1 p1 => ?_) fun _ z => xq_le z⟩
  obtain ⟨x, y, S2, os, st2, ow2, ⟨p, kvs, e1, hp, hA⟩, p2, q2⟩ := k u v S1 H1 l1 st1 ow1 p1
  obtain ⟨z, hz, q2⟩ := q2.ofO1
  obtain ⟨v', hv, hr⟩ := hA.get kk.inj hz
  refine ⟨p, v', e1, ?_, q2.imm st2 ow2 hr⟩
  rw [← hv]
  exact ad_dget (st2.atH w _ _ hp) hA p2⟩
theorem hx_din {m : SM ς (List (κ × β))} {mk : SM ς κ} (o : Ok X C kn) (hb : HX X C b as O mk (VP.at w2 kk.rp)) (ha : HX X C a as O m (VP.at w (rDic kk r))) (hm : behindInMarks .In a = false := by rfl) : HX X C (.Compare b [.In] [a] pos) as O (SM.map2 (fun k d => (dget d k).isSome) mk m) (VP.at true rBl) := ⟨pe_weak (pe_cmp (pc_din o.hu hb.pe ha.pe) hm) fun σ H Q h => by
  obtain ⟨s, S, st, sl, ow, q⟩ := hg_two hb ha (f := fun k d => .ok ((dget d k).isSome)) h
  refine ⟨s, S, st, sl, ow, R.post_mono q (fun z k u v S1 H1 l1 st1 ow1 p1 => ?_) fun _ z => xq_le z⟩
  obtain ⟨s', S', st', sl', ow', q'⟩ := k u v S1 H1 l1 st1 ow1 p1
  refine ⟨s', S', st', sl', ow', R.post_mono q' (fun z k u v S1 H1 l1 st1 ow1 p1 => ?_) fun _ z => xq_le z⟩
  obtain ⟨y, x, S2, os, st2, ow2, p2, ⟨p, kvs, e1, hp, hA⟩, q2⟩ := k u v S1 H1 l1 st1 ow1 p1
  exact ⟨p, _, e1, ad_dget (st2.atH w _ _ hp) hA p2, q2.imm st2 ow2 (by show V.bl _ = V.bl _; rw [hA.isSome kk.inj])⟩⟩
theorem hx_dni {m : SM ς (List (κ × β))} {mk : SM ς κ} (o : Ok X C kn) (hb : HX X C b as O mk (VP.at w2 kk.rp)) (ha : HX X C a as O m (VP.at w (rDic kk r))) (hm : behindInMarks .NotIn a = false := by rfl) : HX X C (.Compare b [.NotIn] [a] pos) as O (SM.map2 (fun k d => !(dget d k).isSome) mk m) (VP.at true rBl) := ⟨pe_weak (pe_cmp (pc_dnotin o.hu hb.pe ha.pe) hm) fun σ H Q h => by
  obtain ⟨s, S, st, sl, ow, q⟩ := hg_two hb ha (f := fun k d => .ok (!(dget d k).isSome)) h
  refine ⟨s, S, st, sl, ow, R.post_mono q (fun z k u v S1 H1 l1 st1 ow1 p1 => ?_) fun _ z => xq_le z⟩
  obtain ⟨s', S', st', sl', ow', q'⟩ := k u v S1 H1 l1 st1 ow1 p1
  refine ⟨s', S', st', sl', ow', R.post_mono q' (fun z k u v S1 H1 l1 st1 ow1 p1 => ?_) fun _ z => xq_le z⟩
  obtain ⟨y, x, S2, os, st2, ow2, p2, ⟨p, kvs, e1, hp, hA⟩, q2⟩ := k u v S1 H1 l1 st1 ow1 p1
  exact ⟨p, _, e1, ad_dget (st2.atH w _ _ hp) hA p2, q2.imm st2 ow2 (by show V.bl _ = V.bl _; rw [hA.isSome kk.inj])⟩⟩
theorem ht_din {m : SM ς (List (κ × β))} {mk : SM ς κ} (o : Ok X C kn) (hb : HX X C b as O mk (VP.at w2 kk.rp)) (ha : HX X C a as O m (VP.at w (rDic kk r))) (hm : behindInMarks .In a = false := by rfl) : HT X C (.Compare b [.In] [a] pos) as O (SM.map2 (fun k d => (dget d k).isSome) mk m) := ⟨pt_weak (pt_cmp (pc_din o.hu hb.pe ha.pe) hm) fun σ H Q ⟨s, S, st, sl, ow, q⟩ => by
  have h : tG (π := Unit) C as O (SM.map2 (fun k d => (dget d k).isSome) mk m) (fun b _ => VP.at true rBl b) (fun _ _ => []) σ H (fun x H' => ∃ k, x = .bl k ∧ Q k H') := ⟨s, S, st, sl, ow, R.post_mono q (fun z k _ v S' H' l' st' ow' pv => ⟨z.1, pv, k S' H' l' st' ow'⟩) fun _ z => xq_le z⟩
  obtain ⟨s, S, st, sl, ow, q⟩ := hg_two hb ha (f := fun k d => .ok ((dget d k).isSome)) h
  refine ⟨s, S, st, sl, ow, R.post_mono q (fun z k u v S1 H1 l1 st1 ow1 p1 => ?_) fun _ z => xq_le z⟩
  obtain ⟨s', S', st', sl', ow', q'⟩ := k u v S1 H1 l1 st1 ow1 p1
  refine ⟨s', S', st', sl', ow', R.post_mono q' (fun z k u v S1 H1 l1 st1 ow1 p1 => ?_) fun _ z => xq_le z⟩
  obtain ⟨y, x, S2, os, st2, ow2, p2, ⟨p, kvs, e1, hp, hA⟩, q2⟩ := k u v S1 H1 l1 st1 ow1 p1
  exact ⟨p, _, e1, ad_dget (st2.atH w _ _ hp) hA p2, q2.imm st2 ow2 (by show V.bl _ = V.bl _; rw [hA.isSome kk.inj])⟩⟩
theorem ht_dni {m : SM ς (List (κ × β))} {mk : SM ς κ} (o : Ok X C kn) (hb : HX X C b as O mk (VP.at w2 kk.rp)) (ha : HX X C a as O m (VP.at w (rDic kk r))) (hm : behindInMarks .NotIn a = false := by rfl) : HT X C (.Compare b [.NotIn] [a] pos) as O (SM.map2 (fun k d => !(dget d k).isSome) mk m) := ⟨pt_weak (pt_cmp (pc_dnotin o.hu hb.pe ha.pe) hm) fun σ H Q ⟨s, S, st, sl, ow, q⟩ => by
  have h : tG (π := Unit) C as O (SM.map2 (fun k d => !(dget d k).isSome) mk m) (fun b _ => VP.at true rBl b) (fun _ _ => []) σ H (fun x H' => ∃ k, x = .bl k ∧ Q k H') := ⟨s, S, st, sl, ow, R.post_mono q (fun z k _ v S' H' l' st' ow' pv => ⟨z.1, pv, k S' H' l' st' ow'⟩) fun _ z => xq_le z⟩
  obtain ⟨s, S, st, sl, ow, q⟩ := hg_two hb ha (f := fun k d => .ok (!(dget d k).isSome)) h
  refine ⟨s, S, st, sl, ow, R.post_mono q (fun z k u v S1 H1 l1 st1 ow1 p1 => ?_) fun _ z => xq_le z⟩
  obtain ⟨s', S', st', sl', ow', q'⟩ := k u v S1 H1 l1 st1 ow1 p1
  refine ⟨s', S', st', sl', ow', R.post_mono q' (fun z k u v S1 H1 l1 st1 ow1 p1 => ?_) fun _ z => xq_le z⟩
  obtain ⟨y, x, S2, os, st2, ow2, p2, ⟨p, kvs, e1, hp, hA⟩, q2⟩ := k u v S1 H1 l1 st1 ow1 p1
  exact ⟨p, _, e1, ad_dget (st2.atH w _ _ hp) hA p2, q2.imm st2 ow2 (by show V.bl _ = V.bl _; rw [hA.isSome kk.inj])⟩⟩
theorem hx_lenD {m : SM ς (List (κ × β))} (hm : X.mg "len" = none) (ha : HX X C e as O m (VP.at w (rDic kk r))) (hg : Gl X "len" := by rfl)
    (he : starEach [e] X.env = (false, eval e X.env) :: starEach [] X.env := by rfl) (hpl : (backTo pos (starEach [] X.env)).any (·.1) = false := by rfl) : HX X C (.Call (.Name "len" p) [e] [] pos) as O (SM.map1 (fun xs => (xs.length : Int)) m) (VP.at true rInt) :=
  hg_callB (f := fun xs => .ok (xs.length : Int)) call_lenD (fun x vs S H os Q st ow h q => by
    obtain ⟨v, e1, pv⟩ := av1 h
    subst e1
    obtain ⟨p, vs, e2, hl, h3⟩ := pv
    subst e2
    exact ⟨p, vs, rfl, st.atH w _ _ hl, q.imm st ow (by show V.int _ = V.int _; rw [h3.length])⟩) hm boot_len (ha_one ha he) hg (by decide) (by decide) he hpl
theorem hn_dnil : HN X C (.Dict [] [] pos) as O (SM.ret ([] : List (κ × β))) (cDic kk r) := ⟨pe_weak pe_dnewK fun σ H Q ⟨s, S, st, sl, ow, q⟩ p hp => q p (.ref p) S _ (.refl S) (st.grow hp) (ow.new st hp ⟨[], rfl, trivial⟩) rfl⟩
/-- {k: v} -/
theorem hn_done {mk : SM ς κ} {mv : SM ς β} (hk : ∀ B, HX X (C.at B) a as O mk (VP.at w kk.rp)) (hv : ∀ B, HX X (C.at B) b as O mv (VP.at true r)) : HN X C (.Dict [some a] [b] pos) as O (fun s => (SM.map2 (fun k v => [(k, v)]) mk mv s).calm) (cDic kk r) := ⟨pe_weak (pe_disp (pps_cons (pe_ex fun B => (hk B).pe) (pe_ex fun B => (hv B).pe) pps_nil) (by rfl) (by rfl) (fun z => by cases z) (by show 1 ≤ 15; decide)) fun σ H Q ⟨s, S, st, sl, ow, q⟩ p hp => by
  have ne : ∀ e ∈ O s, e.p ≠ p := fun e m z => by
    obtain ⟨_, ⟨u, e1, _⟩, _⟩ := ow.mem m
    rw [z, hp] at e1; cases e1
  have hkp := st.knone hp
  have hb := st.bnone hp
  have q0 : ((SM.map2 (fun k v => [(k, v)]) mk mv s).calm).post _ _ := q
  unfold SM.map2 at q0
  have q := R.calm_post q (fun _ => True)
  refine ⟨C.B.kpp p (.dK []), s, S, kp_ok (st.grow hp) (st.ynone hp) upd_same, sl, kp_ow (ow.grow hp) ne, ?_⟩
  have cl : ∀ {β : Type} {m : R β} {P : β → Prop} {x y : Er → Prop}, m.post P x → (∀ e, m ≠ .ex e) → m.post P y := fun {β m P x y} h n => by
    cases m with
    | no => exact h
    | ex e => exact (n e rfl).elim
    | ok a => exact h
  have q1 := q
  unfold SM.map2 at q1
  cases e1 : mk s with
  | no => rw [e1] at q1; exact q1.elim
  | ex e => rw [e1] at q0; exact q0.elim
  | ok z =>
    rw [e1] at q1
    show (R.ok z).post _ _
    intro _ u S1 H1 l1 st1 ow1 pu
    cases e2 : mv z.2 with
    | no => rw [R.bind_ok, e2] at q1; exact q1.elim
    | ex e => rw [e1, R.bind_ok, e2] at q0; exact q0.elim
    | ok y =>
      rw [R.bind_ok, e2, R.bind_ok] at q1
      refine ⟨C.B.kpp p (.dK []), z.2, S1, st1, sl.mono l1, ow1, ?_⟩
      rw [e2]
      intro _ v S2 H2 l2 st2 ow2 pv
      obtain ⟨st2', hy2, hp2⟩ := kp_un hkp st2
      obtain ⟨ow2', ne2⟩ := kp_uw ow2
      have pu := kk.law pu
      subst pu
      have pv : r.rep y.1 v S2.g := pv
      refine ⟨hp2, [(kk.k z.1, v)], rfl, (by show 1 ≤ 15; decide), ?_⟩
      refine q1 p (.ref p) S2 _ (l1.trans l2) (st2'.put hy2 hkp) ⟨hy2, ⟨_, upd_same, [(kk.k z.1, v)], rfl, rfl, pv, trivial⟩, ⟨fun _ => hb, hkp⟩, ne2, ow2'.move (.refl _) (fun e m => (ow2'.mem m).1) (fun e m o z => by rw [upd_ne (ne2 e m)]; exact z) (fun _ _ _ z => z) fun _ _ z => z⟩ rfl⟩
theorem mutD_fin {B : Bs} {S : Sv} {H : Hp} {os : OS} {i : Nat} {p : Addr} {xs ys : List (κ × β)} {fl : Bool} {ws : List (Key × V)} (st : StOk B S H) (ow : OwL B S H os) (hi : os[i]? = some ⟨p, cDic kk r xs, fl⟩) (h : AD kk.k r S.g ys ws) :
    StOk B S (upd H p (.dK ws)) ∧ OwL B S (upd H p (.dK ws)) (os.set i ⟨p, cDic kk r ys, fl⟩) := by
  obtain ⟨h1, _, _, h3⟩ := ow.get hi
  exact ⟨st.put h1 h3, ow.put (c := cDic kk r ys) hi ⟨ws, rfl, h⟩⟩
def dputR (d : List (κ × β)) (k : κ) (v : β) : R (List (κ × β)) := (R.guard (d.length < 16777216)).bind fun _ => .ok (dput d k v)
theorem hb_putD {m : SM ς β} {mi : SM ς κ} {q0 : Addr} {fl : Bool} {x : Str} {ie : Expr} {p2 : Pos} {kf : ς → R α} (o : Ok X C kn) (i j : Nat) (sel : ς → List (κ × β)) (put : ς → List (κ × β) → ς) (he : HX X C e as O m (VP.at true r)) (hie : HX X C ie as O mi (VP.at w kk.rp)) (s : ς) (hr : ∀ s, HB X C rst as (O s) (kf s) ι N T)
    (h : as[i]? = some (some (VP.ptr q0)) := by rfl) (hO : ∀ s, (O s)[j]? = some ⟨q0, cDic kk r (sel s), fl⟩ := by intro _; rfl) (hput : ∀ s d, (O s).set j ⟨q0, cDic kk r d, fl⟩ = O (put s d) := by intro _ _; rfl)
    (hN : X.N[i]? = some x := by rfl) (hvis : Vis X.env.scope x := by first | exact Or.inl rfl | exact Or.inr (Or.inl rfl) | exact Or.inr (Or.inr rfl)) (hd : (x == ("__debug__" : Str)) = false := by decide) (hcd : (x == ("__classdict__" : Str)) = false := by decide)
    (hs : swapsWith e (some (.Subscript (.Name x px) ie p2)) pos.line X.env = pure false := by rfl) :
    HB X C (.Assign [.Subscript (.Name x px) ie p2] e pos :: rst) as (O s) ((m s).bind fun z => (mi z.2).bind fun y => (dputR (sel y.2) y.1 z.1).bind fun l => kf (put y.2 l)) ι N T :=
  ⟨pss_weak (pss_cons (ps_dput o.hu (pe_var hN hvis hd hcd) hie.pe he.pe hs) (pss_ex fun s => (hr s).pss)) fun D σ H ⟨L, S, lL, st, sl, ow, q⟩ =>
    ⟨s, S, st, sl, ow, R.post_mono (R.post_bind.mp q) (fun z k _ v S1 H1 l1 st1 ow1 pv => by
      obtain ⟨u, g1, g2⟩ := sl.2 i _ h
      have g2 : u = .ref q0 := g2
      subst g2
      refine ⟨.ref q0, g1, z.2, S1, st1, sl.mono l1, ow1, R.post_mono (R.post_bind.mp k) (fun y k2 _ u S2 H2 l2 st2 ow2 pu => ?_) fun _ z => xq_le z⟩
      have pu := kk.law pu
      obtain ⟨_, ⟨o', ho', vs', eo', hA⟩, _⟩ := ow2.get (hO y.2)
      subst eo'
      have k2 := R.post_bind.mp k2
      obtain ⟨hz, k2⟩ := R.guard_post.mp (R.post_bind.mp k2)
      obtain ⟨st3, ow3⟩ := mutD_fin st2 ow2 (hO y.2) (hA.put kk.inj (k := y.1) (r.mono l2.g pv))
      have ow3 : OwL C.B S2 _ ((O y.2).set j ⟨q0, cDic kk r (dput (sel y.2) y.1 z.1), fl⟩) := ow3
      rw [hput] at ow3
      rw [pu]
      exact ⟨q0, _, rfl, .k ho' (by rw [← hA.length, sizeLine_eq]; exact hz), _, L, S2, (lL.trans l1).trans l2, st3, (sl.mono l1).mono l2, ow3, k2⟩) fun _ z => xq_le z⟩⟩
end dicts
end
end Y

/-! Y: tuples of any parts, deep ==, tuple keys, sorted, index, isinstance, reversed slices. -/
namespace Y
open PySem PySem.Spec PyProof.Rows L2

section
variable {ς α β γ δ κ μ ρ π τ π0 : Type} {X : Cx} {C : Cf} {as : SA} {O : ς → OS} {a b c e elt tg iter : Expr} {es : List Expr} {pos p apos px : Pos} {w w1 w2 : Bool} {kn k : Nat} {rst : List Stmt} {N : Sv → μ → L2.St → Hp → Prop} {T : ρ → V → Hp → Prop} {ι : α → Oc μ ρ}
theorem Ok.blk (o : Ok X C kn) {s : Shared} {H : Hp} {scope : Scope} {cl : List (Str × Addr)} {A : Addr} {fp : List Addr} {B : Bs} : Ok (blkX X s H scope cl A fp) (C.blk B) kn :=
  ⟨o.calm, o.nd, o.room, (fun u s' x => by
    obtain ⟨_, _, _, _, _, _, _, _, _, _, _, _, _, _, _, _, w⟩ := x
    exact w.elim), PassesOwn.never⟩

/-! ### tuples of any parts -/
def VP.tup (K : PySem.W.Frag) (Ps : List VP) : VP := ⟨fun v S => ∃ p vs, v = .ref p ∧ SqT K S.g p vs ∧ AV S vs Ps, fun h ⟨p, vs, e, h1, h2⟩ => ⟨p, vs, e, h.g.tup h1, h2.mono h⟩⟩
def PGos (Ps : List VP) : Prop := ∀ P ∈ Ps, PGo P
theorem pgs_n : PGos [] := fun _ m => by cases m
theorem pgs_c {P : VP} {Ps : List VP} (h : PGo P) (hs : PGos Ps) : PGos (P :: Ps) := fun Q m => by
  rcases List.mem_cons.mp m with e | e
  · subst e; exact h
  · exact hs Q e
theorem AV.go {S S' : Sv} (e : S.g = S'.g) : ∀ {Ps : List VP} {vs : List V}, PGos Ps → AV S vs Ps → AV S' vs Ps
  | [], [], _, _ => trivial
  | P :: Ps, v :: vs, g, h => ⟨g P List.mem_cons_self v S S' e h.1, AV.go e (fun Q m => g Q (List.mem_cons_of_mem _ m)) h.2⟩
  | [], _ :: _, _, h => h.elim
  | _ :: _, [], _, h => h.elim
theorem pg_tup {K : PySem.W.Frag} {Ps : List VP} (h : PGos Ps) : PGo (VP.tup K Ps) := fun v S S' e ⟨p, vs, e1, h1, h2⟩ => ⟨p, vs, e1, by rw [← e]; exact h1, h2.go e h⟩
theorem hx_tupV {m : SM ς α} {Ps : α → List VP} (h : HA X C es as O m Ps) (hn : ∀ x, (Ps x).length ≤ 16777216 := by intro _; show _ ≤ _; decide) : HX X C (.Tuple es 0 pos) as O m (fun x => VP.tup X.K (Ps x)) := ⟨pe_weak (pe_tup h.pa) fun σ H Q ⟨s, S, st, sl, ow, q⟩ =>
  ⟨s, S, st, sl, ow, R.post_mono q (fun z k vs S' H' l' st' ow' pv => by
    refine ⟨by rw [pv.length, sizeLine_eq]; exact hn _, fun p hp => ?_⟩
    have l2 : S'.le (S'.add p (.tup vs)) := st'.leF hp
    exact k () (.ref p) (S'.add p (.tup vs)) _ (l'.trans l2) (st'.newF hp) (ow'.newF st' hp) ⟨p, vs, rfl, .inl (.inl (Sv.add_at true)), pv.mono l2⟩) fun _ z => xq_le z⟩⟩
theorem htg_tupV {es : List Expr} {kk : Nat} {as as' : SA} {Ps : List VP} {ts : List Nat} (hc : X.calm = true) (h : HTgs X C es as Ps ts as')
    (hn : (assignEach es X.env).length = Ps.length := by rfl) (hst : (assignEach es X.env).findIdx? (·.1) = none := by rfl) : HTg X C (.Tuple es kk pos) as (VP.tup X.K Ps) ts as' := ⟨pg_weak (L2.pg_tup hc h.pgs hn hst) fun v σ H Q ⟨S, st, sl, pv, k⟩ => by
  obtain ⟨p, vs, e1, hq, hr⟩ := pv
  exact ⟨p, vs, e1, (st.atH true).tup hq, hr.length, S, st, sl, hr, k⟩⟩
/-- a part by its written place -/
theorem hx_tixV {Ps : α → List VP} {P : α → VP} {k : Nat} {m : SM ς α} {j : Nat} {pi : Pos} (hc : ∀ x, (Ps x)[k]? = some (P x)) (ha : HX X C a as O m (fun x => VP.tup X.K (Ps x))) :
    HX X C (.Subscript a (.Constant (.int (k : Int)) j pi) pos) as O m P := ⟨pe_weak (pe_ix ix_tup ha.pe pe_int (fun _ _ => rfl)) fun σ H Q ⟨s, S, st, sl, ow, q⟩ =>
  ⟨s, S, st, sl, ow, R.post_mono q (fun z k' _ v S' H' l' st' ow' pv => by
    obtain ⟨p, vs, e1, hl, h3⟩ := pv
    obtain ⟨v', hv, hr⟩ := h3.get (hc z.1)
    exact ⟨p, vs, k, v', e1, rfl, (st'.atH true).tup hl, atI_nat hv, k' () v' S' H' l' st' ow' hr⟩) fun _ z => xq_le z⟩⟩
theorem hx_lenTV {Ps : α → List VP} {n : Nat} {m : SM ς α} (hn : ∀ x, (Ps x).length = n) (hm : X.mg "len" = none) (ha : HX X C e as O m (fun x => VP.tup X.K (Ps x))) (hg : Gl X "len" := by rfl)
    (he : starEach [e] X.env = (false, eval e X.env) :: starEach [] X.env := by rfl) (hpl : (backTo pos (starEach [] X.env)).any (·.1) = false := by rfl) : HX X C (.Call (.Name "len" p) [e] [] pos) as O (SM.map1 (fun _ => (n : Int)) m) (VP.at true rInt) :=
  hg_callB (f := fun _ => .ok (n : Int)) call_len_seq (fun x vs S H os Q st ow h q => by
    obtain ⟨v, e1, pv⟩ := av1 h
    subst e1
    obtain ⟨p, vs, e2, hl, h3⟩ := pv
    subst e2
    exact ⟨p, vs, rfl, .inr ((st.atH true).tup hl), q.imm st ow (by show V.int _ = V.int _; rw [h3.length, hn])⟩) hm boot_len (ha_one ha he) hg (by decide) (by decide) he hpl
/-- a variable's value as it is -/
theorem hx_varV {P : VP} (i : Nat) {x : Str} (h : as[i]? = some (some P) := by rfl) (hN : X.N[i]? = some x := by rfl) (hv : Vis X.env.scope x := by first | exact Or.inl rfl | exact Or.inr (Or.inl rfl) | exact Or.inr (Or.inr rfl))
    (hd : (x == ("__debug__" : Str)) = false := by decide) (hcd : (x == ("__classdict__" : Str)) = false := by decide) : HX X C (.Name x pos) as O (SM.ret ()) (fun _ => P) := hx_at h hN hv rfl hd hcd

/-! ### a comprehension assigned and left as it is -/
theorem hb_lcF {ifs : List Expr} {scope : Scope} {own : List (Str × Nat)} {m : SM ς (List γ)} {t : γ → SM ς Bool} {f : γ → SM ς β} {r : Rp β} {kk : List β × ς → R α} (i : Nat) {x : Str} {ps2 : Pos} (o : Ok X C kn) (h : Lcp X C elt tg iter ifs scope own as O m t f r) (s : ς) (hr : ∀ (z : List β × ς), HB X C rst (as.set i (some (VP.at true (rLst X.K r) z.1))) (O z.2) (kk z) ι N T)
    (hi : X.N[i]? = some x := by rfl) (hyl : X.env.scope.names.lookup x = some .local := by rfl) (hsw : swapsWith (.ListComp elt [⟨tg, iter, ifs, 0⟩] scope pos) (some (.Name x px)) ps2.line X.env = pure true := by exact sw_true rfl rfl rfl (by decide +kernel)) (hs : ∀ x, foldedSetIterable iter X.env x = pure x := by intro _; rfl) :
    HB X C (.Assign [.Name x px] (.ListComp elt [⟨tg, iter, ifs, 0⟩] scope pos) ps2 :: rst) as (O s) ((SM.lc m t f s).bind kk) ι N T :=
  hb_lcT i o h s (fun z q => ⟨pss_weak (hr z).pss fun D σ H ⟨L, S, lL, st, sl, ow, q2⟩ => by
    obtain ⟨h1, ⟨ob, h2, h3⟩, h4, h5, h6⟩ := ow
    obtain ⟨vs, e1, hA⟩ := h3
    have e1 : ob = .lst vs := e1
    subst e1
    have h2 : H q = some (.lst vs) := h2
    have l2 : S.le (S.add q (.lst vs)) := Sv.le_add h1 (st.gnone h1)
    refine ⟨L, S.add q (.lst vs), lL.trans l2, st.frz h1 (h4.1 rfl) h4.2 h2, ?_, h6.add h1 (st.gnone h1) fun e m => h5 e m, q2⟩
    refine ⟨by rw [List.length_set]; have z := sl.1; rw [List.length_set] at z; exact z, fun j Q e => ?_⟩
    by_cases hj : i = j
    · subst hj
      have hi : i < as.length := by
        have z := (List.getElem?_eq_some_iff.mp e).1
        rw [List.length_set] at z
        exact z
      rw [List.getElem?_set_self hi] at e
      have e' : VP.at true (rLst X.K r) z.1 = Q := by injection e with e; injection e
      subst e'
      obtain ⟨v, g1, g2⟩ := sl.2 i (VP.ptr q) (List.getElem?_set_self hi)
      have g2 : v = .ref q := g2
      subst g2
      exact ⟨_, g1, q, vs, rfl, SqL.of (Sv.add_at true), A2.mono l2.g hA⟩
    · rw [List.getElem?_set_ne hj] at e
      obtain ⟨v, g1, g2⟩ := sl.2 j Q (by rw [List.getElem?_set_ne hj]; exact e)
      exact ⟨v, g1, Q.mono l2 g2⟩⟩) hi hyl hsw hs

/-! ### an owned list read in place -/
theorem hx_idxO {rp : Rp δ} {q0 : Addr} {fl : Bool} {x : Str} {mb : SM ς Int} (i j : Nat) (sel : ς → List δ) (hb : HX X C b as O mb (VP.at w rInt)) (h : as[i]? = some (some (VP.ptr q0)) := by rfl) (hO : ∀ s, (O s)[j]? = some ⟨q0, cLst rp (sel s), fl⟩ := by intro _; rfl)
    (hN : X.N[i]? = some x := by rfl) (hvis : Vis X.env.scope x := by first | exact Or.inl rfl | exact Or.inr (Or.inl rfl) | exact Or.inr (Or.inr rfl)) (hd : (x == ("__debug__" : Str)) = false := by decide) (hcd : (x == ("__classdict__" : Str)) = false := by decide) (hs : PlainIx b := by exact fun _ _ => rfl) :
    HX X C (.Subscript (.Name x px) b pos) as O (fun s => (mb s).bind fun z => (getI (sel z.2) z.1).bind fun y => .ok (y, z.2)) (VP.at true rp) := ⟨pe_weak (pe_ix ix_list (hx_ptr (O := O) i h hN hvis hd hcd).pe hb.pe hs) fun σ H Q ⟨s, S, st, sl, ow, q⟩ =>
  ⟨s, S, st, sl, ow, fun _ v S1 H1 l1 st1 ow1 p1 => ⟨s, S1, st1, sl.mono l1, ow1, R.post_mono (R.post_bind.mp q) (fun z k _ u S2 H2 l2 st2 ow2 pu => by
    have p1 : v = .ref q0 := p1
    have pu : u = .int z.1 := pu
    subst p1; subst pu
    obtain ⟨_, ⟨o, ho, vs0, eo, hA⟩, _⟩ := ow2.get (hO z.2)
    have eo : o = .lst vs0 := eo
    subst eo
    obtain ⟨y, hy, k⟩ := R.ofO_post.mp (R.post_bind.mp k)
    obtain ⟨v', hv, hr⟩ := A2.atI hA hy
    exact ⟨q0, vs0, z.1, v', rfl, rfl, SqL.of ho, hv, k () v' S2 H2 (l1.trans l2) st2 ow2 hr⟩) fun _ z => xq_le z⟩⟩⟩
theorem hx_lenO {rp : Rp δ} {q0 : Addr} {fl : Bool} {x : Str} (i j : Nat) (sel : ς → List δ) (hm : X.mg "len" = none) (h : as[i]? = some (some (VP.ptr q0)) := by rfl) (hO : ∀ s, (O s)[j]? = some ⟨q0, cLst rp (sel s), fl⟩ := by intro _; rfl)
    (hN : X.N[i]? = some x := by rfl) (hvis : Vis X.env.scope x := by first | exact Or.inl rfl | exact Or.inr (Or.inl rfl) | exact Or.inr (Or.inr rfl)) (hd : (x == ("__debug__" : Str)) = false := by decide) (hcd : (x == ("__classdict__" : Str)) = false := by decide) (hg : Gl X "len" := by rfl)
    (he : starEach [(.Name x px : Expr)] X.env = (false, eval (.Name x px) X.env) :: starEach [] X.env := by rfl) (hpl : (backTo pos (starEach [] X.env)).any (·.1) = false := by rfl) :
    HX X C (.Call (.Name "len" p) [.Name x px] [] pos) as O (fun s => .ok (((sel s).length : Int), s)) (VP.at true rInt) := ⟨pe_weak (pe_callB call_len_seq hg hm boot_len (ha_one (hx_ptr (O := O) (C := C) (as := as) i h hN hvis hd hcd) he).pa (by decide) (by decide) he hpl) fun σ H Q ⟨s, S, st, sl, ow, q⟩ =>
  ⟨s, S, st, sl, ow, fun vs S1 H1 l1 st1 ow1 p1 => by
    obtain ⟨v, e1, pv⟩ := av1 p1
    have pv : v = .ref q0 := pv
    subst pv; subst e1
    obtain ⟨_, ⟨o, ho, vs0, eo, hA⟩, _⟩ := ow1.get (hO s)
    have eo : o = .lst vs0 := eo
    subst eo
    refine ⟨q0, vs0, rfl, .inl (SqL.of ho), ?_⟩
    rw [← A2.length hA]
    exact q () _ S1 H1 l1 st1 ow1 rfl⟩⟩
end
end Y

/-! Y: deep ==, sorted texts, index, isinstance, reversed slices. -/
namespace Y
open PySem PySem.Spec PyProof.Rows L2

section
variable {ς α β γ δ κ μ ρ π τ π0 : Type} {X : Cx} {C : Cf} {as : SA} {O : ς → OS} {a b c e elt tg iter : Expr} {es : List Expr} {pos p apos px : Pos} {w w1 w2 : Bool} {kn k : Nat} {rst : List Stmt} {N : Sv → μ → L2.St → Hp → Prop} {T : ρ → V → Hp → Prop} {ι : α → Oc μ ρ}
/-! ### == of data at any depth -/
structure DQ (K : PySem.W.Frag) (r : Rp α) where
  d : α → PyData
  can : α → Bool
  n : Nat
  dp : ∀ {a v H}, r.rep a v H → Dp K H v (d a)
  eq : ∀ a b, PyData.eqv (d a) (d b) = true ↔ a = b
  canl : ∀ {a}, can a = true → (d a).canLay0 = true
  dep : ∀ a, (d a).depth ≤ n
variable {K : PySem.W.Frag}
def dqInt : DQ K rInt := ⟨PyData.int, fun _ => true, 0, fun {a v H} h => by
  have h : v = .int a := h
  subst h; exact .int a, fun a b => by simp [PyData.eqv], fun _ => by simp [PyData.canLay0], fun _ => by simp [PyData.depth]⟩
def dqBl : DQ K rBl := ⟨PyData.bool, fun _ => true, 0, fun {a v H} h => by
  have h : v = .bl a := h
  subst h; exact .bl a, fun a b => by simp [PyData.eqv], fun _ => by simp [PyData.canLay0], fun _ => by simp [PyData.depth]⟩
def dqStr : DQ K rStr := ⟨PyData.str, fun x => PyData.strOk x, 0, fun {a v H} h => by
  have h : v = .str a := h
  subst h; exact .str a, fun a b => by simp [PyData.eqv], fun h => by simpa [PyData.canLay0] using h, fun _ => by simp [PyData.depth]⟩
theorem dq_all {r : Rp α} (q : DQ K r) {H : Hp} : ∀ {xs : List α} {vs : List V}, A2 r H xs vs → DpAll K H vs (xs.map q.d)
  | [], [], _ => .nil
  | _ :: _, _ :: _, h => .cons (q.dp h.1) (dq_all q h.2)
  | [], _ :: _, h => h.elim
  | _ :: _, [], h => h.elim
theorem dq_eqa {r : Rp α} (q : DQ K r) : ∀ (xs ys : List α), PyData.eqvAll (xs.map q.d) (ys.map q.d) = true ↔ xs = ys
  | [], [] => by simp [PyData.eqvAll]
  | x :: xs, y :: ys => by
    rw [List.map_cons, List.map_cons, PyData.eqvAll, Bool.and_eq_true, q.eq, dq_eqa q xs ys]
    simp
  | [], _ :: _ => by simp [PyData.eqvAll]
  | _ :: _, [] => by simp [PyData.eqvAll]
theorem dq_can {r : Rp α} (q : DQ K r) : ∀ {xs : List α}, xs.all q.can = true → PyData.canLayAll0 (xs.map q.d) = true
  | [], _ => by simp [PyData.canLayAll0]
  | x :: xs, h => by
    rw [List.all_cons, Bool.and_eq_true] at h
    rw [List.map_cons, PyData.canLayAll0, q.canl h.1, dq_can q h.2]
    rfl
theorem dq_dep {r : Rp α} (q : DQ K r) : ∀ (xs : List α), PyData.depthAll (xs.map q.d) ≤ q.n
  | [] => by simp [PyData.depthAll]
  | x :: xs => by
    rw [List.map_cons, PyData.depthAll]
    exact Nat.max_le.mpr ⟨q.dep x, dq_dep q xs⟩
def dqLst {r : Rp α} (q : DQ K r) : DQ K (rLst K r) := ⟨fun xs => .list (xs.map q.d), fun xs => xs.all q.can, q.n + 1, fun {a v H} h => by
  obtain ⟨p, vs, e, h1, h2⟩ := h
  subst e
  exact .lst h1 (dq_all q h2), fun xs ys => by rw [PyData.eqv]; exact dq_eqa q xs ys, fun h => by simpa [PyData.canLay0] using dq_can q h, fun xs => by
    show PyData.depth (.list _) ≤ _
    rw [PyData.depth]
    exact Nat.succ_le_succ (dq_dep q xs)⟩
/-- .. of parts -/
structure DT (K : PySem.W.Frag) (t : RT α) where
  d : α → List PyData
  can : α → Bool
  n : Nat
  dp : ∀ {a vs H}, t.rep a vs H → DpAll K H vs (d a)
  eq : ∀ a b, PyData.eqvAll (d a) (d b) = true ↔ a = b
  canl : ∀ {a}, can a = true → PyData.canLayAll0 (d a) = true
  dep : ∀ a, PyData.depthAll (d a) ≤ n
def dtOne {r : Rp α} (q : DQ K r) : DT K (RT.one r) := ⟨fun x => [q.d x], q.can, q.n, fun {a vs H} ⟨v, e, h⟩ => by subst e; exact .cons (q.dp h) .nil, fun a b => by simp [PyData.eqvAll, q.eq], fun h => by simp [PyData.canLayAll0, q.canl h], fun a => by simp [PyData.depthAll]; exact q.dep a⟩
def dtCons {r : Rp α} {t : RT β} (q : DQ K r) (u : DT K t) : DT K (RT.cons r t) := ⟨fun x => q.d x.1 :: u.d x.2, fun x => q.can x.1 && u.can x.2, max q.n u.n, fun {a vs H} ⟨v, ws, e, h1, h2⟩ => by subst e; exact .cons (q.dp h1) (u.dp h2), fun a b => by
  rw [PyData.eqvAll, Bool.and_eq_true, q.eq, u.eq]
  exact ⟨fun ⟨h1, h2⟩ => Prod.ext h1 h2, fun h => by subst h; exact ⟨rfl, rfl⟩⟩, fun {a} h => by
  rw [Bool.and_eq_true] at h
  rw [PyData.canLayAll0, q.canl h.1, u.canl h.2]; rfl, fun a => by
  rw [PyData.depthAll]
  have h1 := q.dep a.1
  have h2 := u.dep a.2
  omega⟩
def dqTup {t : RT α} (u : DT K t) : DQ K (rTup K t) := ⟨fun x => .tuple (u.d x), u.can, u.n + 1, fun {a v H} h => by
  obtain ⟨p, vs, e, h1, h2⟩ := h
  subst e
  exact .tup h1 (u.dp h2), fun a b => by rw [PyData.eqv]; exact u.eq a b, fun h => by simpa [PyData.canLay0] using u.canl h, fun a => by
    show PyData.depth (.tuple _) ≤ _
    rw [PyData.depth]
    exact Nat.succ_le_succ (u.dep a)⟩
/-- a list of parts of several sorts -/
def rLsH (K : PySem.W.Frag) (t : RT α) : Rp α := ⟨fun x v H => ∃ p vs, v = .ref p ∧ SqL K H p vs ∧ t.rep x vs H, fun e ⟨p, vs, h1, h2, h3⟩ => ⟨p, vs, h1, e.seq h2, t.mono e h3⟩⟩
def dqLsH {t : RT α} (u : DT K t) : DQ K (rLsH K t) := ⟨fun x => .list (u.d x), u.can, u.n + 1, fun {a v H} h => by
  obtain ⟨p, vs, e, h1, h2⟩ := h
  subst e
  exact .lst h1 (u.dp h2), fun a b => by rw [PyData.eqv]; exact u.eq a b, fun h => by simpa [PyData.canLay0] using u.canl h, fun a => by
    show PyData.depth (.list _) ≤ _
    rw [PyData.depth]
    exact Nat.succ_le_succ (u.dep a)⟩
def hx_lsH {m : SM ς α} {t : RT α} {w : Bool} (h : HA X C es as O m (t.vps w)) (hn : t.n ≤ 16777216 := by decide) : HX X C (.List es pos) as O m (VP.at w (rLsH X.K t)) := ⟨pe_weak (pe_lst h.pa) fun σ H Q ⟨s, S, st, sl, ow, q⟩ =>
  ⟨s, S, st, sl, ow, R.post_mono q (fun z k vs S' H' l' st' ow' pv => by
    have hr := t.law pv
    refine ⟨by rw [t.len hr, sizeLine_eq]; exact hn, fun p hp => ?_⟩
    have l2 : S'.le (S'.add p (.lst vs)) := st'.leF hp
    exact k () (.ref p) (S'.add p (.lst vs)) _ (l'.trans l2) (st'.newF hp) (ow'.newF st' hp) ⟨p, vs, rfl, SqL.of (Sv.add_at w), t.mono (l2.at w) hr⟩) fun _ z => xq_le z⟩⟩
theorem hx_lix {t : RT τ} {r : Rp β} {f : τ → β} {k : Nat} {m : SM ς τ} {j : Nat} {pi : Pos} (hc : ∀ x vs H, t.rep x vs H → ∃ v, vs[k]? = some v ∧ r.rep (f x) v H) (ha : HX X C a as O m (VP.at w (rLsH X.K t))) :
    HX X C (.Subscript a (.Constant (.int (k : Int)) j pi) pos) as O (SM.map1 f m) (VP.at w r) := ⟨pe_weak (pe_ix ix_list ha.pe pe_int (fun _ _ => rfl)) fun σ H Q ⟨s, S, st, sl, ow, q⟩ =>
  ⟨s, S, st, sl, ow, R.post_mono (R.post_bind.mp q) (fun z k' _ v S' H' l' st' ow' pv => by
    obtain ⟨p, vs, e1, hl, h3⟩ := pv
    obtain ⟨v', hv, hr⟩ := hc _ _ _ h3
    exact ⟨p, vs, k, v', e1, rfl, (st'.atH w).seq hl, atI_nat hv, k' () v' S' H' l' st' ow' hr⟩) fun _ z => xq_le z⟩⟩
def eqD [DecidableEq α] (can : α → Bool) (x y : α) : R Bool := (R.guard (can x = true ∧ can y = true)).bind fun _ => .ok (decide (x = y))
def neD [DecidableEq α] (can : α → Bool) (x y : α) : R Bool := (R.guard (can x = true ∧ can y = true)).bind fun _ => .ok (!decide (x = y))
theorem dq_b [DecidableEq α] {r : Rp α} (q : DQ K r) (x y : α) : PyData.eqv (q.d x) (q.d y) = decide (x = y) := by
  rw [Bool.eq_iff_iff, q.eq, decide_eq_true_iff]
theorem dq_sh {r : Rp α} (q : DQ K r) (hn : q.n ≤ 64) {x : α} (h : q.can x = true) : SeqAt.shaped (q.d x) = true := by
  unfold SeqAt.shaped
  rw [q.canl h, decide_eq_true (Nat.le_trans (q.dep x) hn)]; rfl
theorem Ok.u64 (o : Ok X C kn) : X.A.units + 64 < cLine := by have := o.room.un; omega
theorem ov_eqD [DecidableEq α] {r : Rp α} (q : DQ X.K r) (hn : q.n ≤ 64) : OV2 (π := Unit) C (rEqD X.K) (VP.at w1 r) (VP.at w2 r) (eqD q.can) (fun z _ => VP.at true rBl z) (fun _ _ => []) := fun x y v u S H os Q st ow h1 h2 z => by
  obtain ⟨⟨c1, c2⟩, z⟩ := z.guard
  refine ⟨_, _, q.dp (r.mono (st.atH w1) h1), q.dp (r.mono (st.atH w2) h2), dq_sh q hn c1, dq_sh q hn c2, ?_⟩
  rw [dq_b]
  exact z.imm st ow rfl
theorem ov_neD [DecidableEq α] {r : Rp α} (q : DQ X.K r) (hn : q.n ≤ 64) : OV2 (π := Unit) C (rNeD X.K) (VP.at w1 r) (VP.at w2 r) (neD q.can) (fun z _ => VP.at true rBl z) (fun _ _ => []) := fun x y v u S H os Q st ow h1 h2 z => by
  obtain ⟨⟨c1, c2⟩, z⟩ := z.guard
  refine ⟨_, _, q.dp (r.mono (st.atH w1) h1), q.dp (r.mono (st.atH w2) h2), dq_sh q hn c1, dq_sh q hn c2, ?_⟩
  rw [dq_b]
  exact z.imm st ow rfl
section
variable [DecidableEq α] {m1 m2 : SM ς α} {r : Rp α}
theorem hx_eqD (o : Ok X C kn) (q : DQ X.K r) (ha : HX X C a as O m1 (VP.at w1 r)) (hb : HX X C b as O m2 (VP.at w2 r)) (hn : q.n ≤ 64 := by decide) (hm : behindInMarks .Eq b = false := by rfl) : HX X C (.Compare a [.Eq] [b] pos) as O (SM.bnd2 (eqD q.can) m1 m2) (VP.at true rBl) := hx_cmp (op_eqD o.u64) (ov_eqD q hn) ha hb hm
theorem ht_eqD (o : Ok X C kn) (q : DQ X.K r) (ha : HX X C a as O m1 (VP.at w1 r)) (hb : HX X C b as O m2 (VP.at w2 r)) (hn : q.n ≤ 64 := by decide) (hm : behindInMarks .Eq b = false := by rfl) : HT X C (.Compare a [.Eq] [b] pos) as O (SM.bnd2 (eqD q.can) m1 m2) := ht_cmp (op_eqD o.u64) (ov_eqD q hn) ha hb hm
theorem hx_neD (o : Ok X C kn) (q : DQ X.K r) (ha : HX X C a as O m1 (VP.at w1 r)) (hb : HX X C b as O m2 (VP.at w2 r)) (hn : q.n ≤ 64 := by decide) (hm : behindInMarks .NotEq b = false := by rfl) : HX X C (.Compare a [.NotEq] [b] pos) as O (SM.bnd2 (neD q.can) m1 m2) (VP.at true rBl) := hx_cmp (op_neD o.u64) (ov_neD q hn) ha hb hm
theorem ht_neD (o : Ok X C kn) (q : DQ X.K r) (ha : HX X C a as O m1 (VP.at w1 r)) (hb : HX X C b as O m2 (VP.at w2 r)) (hn : q.n ≤ 64 := by decide) (hm : behindInMarks .NotEq b = false := by rfl) : HT X C (.Compare a [.NotEq] [b] pos) as O (SM.bnd2 (neD q.can) m1 m2) := ht_cmp (op_neD o.u64) (ov_neD q hn) ha hb hm
end
/-! ### sorted(texts) -/
def leT (x y : Str) : Bool := decide (x.cps.toList ≤ y.cps.toList)
def sortS (xs : List Str) : R (List Str) := (R.guard (xs.length < 64)).bind fun _ => .ok (xs.mergeSort leT)
theorem leT_of {x y : Str} (h : ltCps y.cps.toList x.cps.toList = false) : leT x y = true := by
  rw [ltCps_eq, decide_eq_false_iff_not] at h
  unfold leT
  rw [decide_eq_true_iff]
  exact List.not_lt.mp h
theorem leT_anti {x y : Str} (h1 : leT x y = true) (h2 : leT y x = true) : x = y := by
  unfold leT at h1 h2
  rw [decide_eq_true_iff] at h1 h2
  have e : x.cps.toList = y.cps.toList := List.le_antisymm h1 h2
  obtain ⟨⟨x⟩⟩ := x
  obtain ⟨⟨y⟩⟩ := y
  simp only at e
  subst e
  rfl
theorem leT_trans (x y z : Str) (h1 : leT x y = true) (h2 : leT y z = true) : leT x z = true := by
  unfold leT at *
  rw [decide_eq_true_iff] at *
  exact List.le_trans h1 h2
theorem leT_tot (x y : Str) : (leT x y || leT y x) = true := by
  unfold leT
  rw [Bool.or_eq_true, decide_eq_true_iff, decide_eq_true_iff]
  exact List.le_total _ _
theorem rising_pw : ∀ (xs : List Str) (x : Str), risingS x xs = true → (x :: xs).Pairwise fun a b => leT a b = true
  | [], x, _ => List.pairwise_singleton _ _
  | y :: ys, x, h => by
    unfold risingS at h
    rw [Bool.and_eq_true] at h
    have h1 : leT x y = true := leT_of (by simpa using h.1)
    have ih := rising_pw ys y h.2
    refine List.pairwise_cons.mpr ⟨fun z hz => ?_, ih⟩
    rcases List.mem_cons.mp hz with e | e
    · subst e; exact h1
    · exact leT_trans _ _ _ h1 (List.rel_of_pairwise_cons ih e)
theorem sorted_uniq {xs ys : List Str} (h : ys.Perm xs) (s : sortedS ys = true) : ys = xs.mergeSort leT := by
  have h1 : ys.Pairwise fun a b => leT a b = true := by
    cases ys with
    | nil => exact .nil
    | cons y ys => exact rising_pw ys y s
  exact List.Perm.eq_of_pairwise (fun a b _ _ => leT_anti) h1 (List.pairwise_mergeSort leT_trans leT_tot xs) (h.trans (List.mergeSort_perm xs leT).symm)
theorem hn_sortS {m : SM ς (List Str)} (hm : X.mg "sorted" = none) (ha : HX X C e as O m (VP.at w (rLst X.K rStr))) (hg : Gl X "sorted" := by rfl)
    (he : starEach [e] X.env = (false, eval e X.env) :: starEach [] X.env := by rfl) (hpl : (backTo pos (starEach [] X.env)).any (·.1) = false := by rfl) : HN X C (.Call (.Name "sorted" p) [e] [] pos) as O (SM.bnd1 sortS m) (cLst rStr) :=
  hg_callB cr_sortedS (fun x vs S H os Q st ow h q => by
    obtain ⟨v, e1, pv⟩ := av1 h
    subst e1
    obtain ⟨p, vs, e2, hl, h3⟩ := pv
    subst e2
    have e3 := h3.str
    subst e3
    obtain ⟨hz, q⟩ := q.guard
    refine ⟨p, x, rfl, (st.atH w).seq hl, hz, fun ys p' hp hs hn => ?_⟩
    have e4 := sorted_uniq hp hs
    subst e4
    exact q.newO st ow hn ⟨_, rfl, A2.ofStr _⟩) hm (by decide +kernel) (ha_one ha he) hg (by decide) (by decide) he hpl
end
end Y

/-! Y: list methods that read, isinstance, slices with a step, tuple keys, dict.clear. -/
namespace Y
open PySem PySem.Spec PyProof.Rows L2

section
variable {ς α β γ δ κ μ ρ π τ π0 : Type} {X : Cx} {C : Cf} {as : SA} {O : ς → OS} {a b c e elt tg iter : Expr} {es : List Expr} {pos p apos px : Pos} {w w1 w2 : Bool} {kn k : Nat} {rst : List Stmt} {N : Sv → μ → L2.St → Hp → Prop} {T : ρ → V → Hp → Prop} {ι : α → Oc μ ρ}
/-! ### methods of a list that read it -/
theorem hg_mtL {id : String} {name : Str} {r : V → List V → Hp → VK → Prop} {rp : Rp δ} {m : SM ς (List δ)} {Ps : β → List VP} {f : List δ → β → R γ} {P : γ → π → VP} {nw : γ → π → OS} {ma : SM ς β} (slot : Slot "list" name id) (hty : typeOf (.builtin id) = pure (.type "method_descriptor")) (hm : MtR X id r) (hv : OVM C r (VP.at w (rLst X.K rp)) Ps f P nw)
    (ho : HX X C a as O m (VP.at w (rLst X.K rp))) (ha : HA X C (e :: es) as O ma Ps)
    (hbase : attributeBase a name X.env (eval a X.env) = eval a X.env := by rfl)
    (hfew : ((backTo pos (starEach (e :: es) X.env)).all (fun x => !x.1) && (backToKw pos (keywordEach [] X.env)).all (fun x => x.1.isSome)
      && decide ((e :: es).length + ([] : List Keyword).length + (if ([] : List Keyword).isEmpty then 0 else 1) < 30)) = true := by rfl)
    (hline : (apos.endLine == pos.line) = true := by rfl) (hs : starEach (e :: es) X.env = (false, eval e X.env) :: starEach es X.env := by rfl) (hplain : (backTo pos (starEach es X.env)).any (·.1) = false := by rfl) :
    HG X C (.Call (.Attribute a name apos) (e :: es) [] pos) as O (SM.bnd2 f m ma) P nw :=
  ⟨pe_weak (pe_bm PySem.F.plainAttrs_list slot hty hm ho.pe ha.pa hbase hfew hline hs hplain) fun σ H Q ⟨s, S, st, sl, ow, q⟩ =>
    ⟨s, S, st, sl, ow, R.post_mono (R.post_bind.mp q) (fun z k _ v S1 H1 l1 st1 ow1 pv => by
      obtain ⟨p, vs, e1, hq, hA⟩ := pv
      subst e1
      refine ⟨.inl ⟨rfl, vs, (st1.atH w).seq hq⟩, z.2, S1, st1, sl.mono l1, ow1, R.post_mono (R.post_bind.mp k) (fun y k2 us S2 H2 l2 st2 ow2 pus => ?_) fun _ z => xq_le z⟩
      exact hv z.1 y.1 (.ref p) us S2 H2 (O y.2) Q st2 ow2 ((VP.at w (rLst X.K rp) z.1).mono l2 ⟨p, vs, rfl, hq, hA⟩) pus (R.post_mono (R.post_bind.mp k2) (fun c k3 q v S3 H3 l3 st3 ow3 p3 => k3 q v S3 H3 ((l1.trans l2).trans l3) st3 ow3 p3) fun _ z => xq_le z)) fun _ z => xq_le z⟩⟩
/-- flat items -/
structure FR (r : Rp α) where
  f : α → V
  law : ∀ {a v H}, r.rep a v H → v = f a
  flat : ∀ a, flatV (f a) = true
  eqv : ∀ a b, eqV (f a) (f b) = true ↔ a = b
def frInt : FR rInt := ⟨V.int, fun h => h, fun _ => rfl, fun a b => by simp [eqV]⟩
def frStr : FR rStr := ⟨V.str, fun h => h, fun _ => rfl, fun a b => by simp [eqV]⟩
theorem fr_all {r : Rp α} (F : FR r) {H : Hp} : ∀ {xs : List α} {vs : List V}, A2 r H xs vs → vs = xs.map F.f
  | [], [], _ => rfl
  | x :: xs, v :: vs, h => by rw [F.law h.1, fr_all F h.2]; rfl
  | [], _ :: _, h => h.elim
  | _ :: _, [], h => h.elim
def idxR [DecidableEq α] (xs : List α) (y : α) : R Int := (R.ofO (xs.findIdx? fun z => decide (z = y))).bind fun j => .ok (j : Int)
theorem hx_index [DecidableEq α] {r : Rp α} {m : SM ς (List α)} {ma : SM ς α} (F : FR r) (ho : HX X C a as O m (VP.at w (rLst X.K r))) (hb : HX X C e as O ma (VP.at w2 r))
    (hbase : attributeBase a "index" X.env (eval a X.env) = eval a X.env := by rfl)
    (hfew : ((backTo pos (starEach [e] X.env)).all (fun x => !x.1) && (backToKw pos (keywordEach [] X.env)).all (fun x => x.1.isSome)
      && decide ([e].length + ([] : List Keyword).length + (if ([] : List Keyword).isEmpty then 0 else 1) < 30)) = true := by rfl)
    (hline : (apos.endLine == pos.line) = true := by rfl) (hs : starEach [e] X.env = (false, eval e X.env) :: starEach [] X.env := by rfl) (hplain : (backTo pos (starEach [] X.env)).any (·.1) = false := by rfl) :
    HX X C (.Call (.Attribute a "index" apos) [e] [] pos) as O (SM.bnd2 idxR m ma) (VP.at true rInt) :=
  hg_mtL PySem.F.slot_list_index PySem.F.type_list_index mt_index (fun xs y v vs S H os Q st ow hx hy q => by
    obtain ⟨p, ws, e1, hq, hA⟩ := hx
    subst e1
    obtain ⟨u, e2, pu⟩ := av1 hy
    subst e2
    have e3 := F.law pu
    subst e3
    have e4 := fr_all F hA
    subst e4
    obtain ⟨j, hj, q⟩ := q.ofO
    obtain ⟨hlt, hj1, hj2⟩ := List.findIdx?_eq_some_iff_getElem.mp hj
    have ej : xs[j] = y := of_decide_eq_true hj1
    refine ⟨p, _, F.f y, j, F.f y, rfl, rfl, (st.atH w).seq hq, F.flat y, ?_, ?_, (F.eqv y y).mpr rfl, fun mm z' hm hz => ?_, q.imm st ow rfl⟩
    · rw [List.all_map, List.all_eq_true]
      exact fun x _ => F.flat x
    · rw [List.getElem?_map, List.getElem?_eq_getElem hlt, ej]; rfl
    · rw [List.getElem?_map, List.getElem?_eq_getElem (Nat.lt_trans hm hlt)] at hz
      have hz : F.f xs[mm] = z' := Option.some.inj hz
      have n := hj2 mm hm
      have n : xs[mm] ≠ y := by simpa using n
      cases hq : eqV z' (F.f y) with
      | false => rfl
      | true => rw [← hz, F.eqv] at hq; exact (n hq).elim) ho (ha_one hb hs) hbase hfew hline hs hplain

/-! ### isinstance -/
theorem tyx_l {K : PySem.W.Frag} {H : Hp} {p : Addr} {vs : List V} (h : SqL K H p vs) : TyX K H (.ref p) (.type "list") := by
  rcases h with (h | ⟨o, h⟩) | ⟨o, _, _, h, c, _⟩
  · exact .base (.lst h)
  · exact .base (.frz h)
  · exact .kList h c
theorem tyx_t {K : PySem.W.Frag} {H : Hp} {p : Addr} {vs : List V} (h : SqT K H p vs) : TyX K H (.ref p) (.type "tuple") := by
  rcases h with (h | ⟨o, h⟩) | ⟨o, _, _, h, c, _⟩
  · exact .base (.tup h)
  · exact .fTuple h
  · exact .kTuple h c
def TyP (K : PySem.W.Frag) (P : VP) (T : String) : Prop := ∀ v S H, Ex S.g H → Ex S.y H → P.p v S → TyX K H v (.type T)
variable {K : PySem.W.Frag}
theorem ex_at {S : Sv} {H : Hp} (h1 : Ex S.g H) (h2 : Ex S.y H) (w : Bool) : Ex (S.at w) H := by
  cases w
  · exact h2
  · exact h1
theorem ty_int {x : Int} : TyP K (VP.at w rInt x) "int" := fun v S H _ _ h => by
  have h : v = .int x := h
  subst h; exact .base (.int x)
theorem ty_str {x : Str} : TyP K (VP.at w rStr x) "str" := fun v S H _ _ h => by
  have h : v = .str x := h
  subst h; exact .base (.str x)
theorem ty_bl {x : Bool} : TyP K (VP.at w rBl x) "bool" := fun v S H _ _ h => by
  have h : v = .bl x := h
  subst h; exact .base (.bl x)
theorem ty_lst {r : Rp α} {x : List α} : TyP K (VP.at w (rLst K r) x) "list" := fun v S H g y h => by
  obtain ⟨p, vs, e, h1, _⟩ := h
  subst e; exact tyx_l ((ex_at g y w).seq h1)
theorem ty_tup {r : RT α} {x : α} : TyP K (VP.at w (rTup K r) x) "tuple" := fun v S H g y h => by
  obtain ⟨p, vs, e, h1, _⟩ := h
  subst e; exact tyx_t ((ex_at g y w).tup h1)
theorem ty_tupV {Ps : List VP} : TyP K (VP.tup K Ps) "tuple" := fun v S H g y h => by
  obtain ⟨p, vs, e, h1, _⟩ := h
  subst e; exact tyx_t (g.tup h1)
theorem ty_dic {κ : Type} {kk : KK κ} {r : Rp α} {x : List (κ × α)} : TyP K (VP.at w (rDic kk r) x) "dict" := fun v S H g y h => by
  obtain ⟨p, vs, e, h1, _⟩ := h
  subst e; exact .base (.dK (ex_at g y w _ _ h1))
theorem hx_isi {m : SM ς α} {P : α → VP} {A T' : String} {tx : Str} {ti : Bool} {p3 : Pos} (hty : ∀ x, TyP X.K (P x) A) (hk : kitB A T' = some ti) (hm : X.mg "isinstance" = none) (hmT : X.mg tx = none) (hT : bootBuiltins tx = some (.type T')) (ha : HX X C e as O m P) (hg : Gl X "isinstance" := by rfl) (hgT : Gl X tx := by rfl)
    (hnT : tx ≠ "__name__" := by decide) (hdT : (tx == ("__debug__" : Str)) = false := by decide)
    (he1 : starEach [e, .Name tx p3] X.env = (false, eval e X.env) :: starEach [.Name tx p3] X.env := by rfl) (he2 : starEach [(.Name tx p3 : Expr)] X.env = (false, eval (.Name tx p3) X.env) :: starEach [] X.env := by rfl)
    (hpl : (backTo pos (starEach [(.Name tx p3 : Expr)] X.env)).any (·.1) = false := by rfl) :
    HX X C (.Call (.Name "isinstance" p) [e, .Name tx p3] [] pos) as O (SM.map1 (fun _ => ti) m) (VP.at true rBl) := by
  have h2 : HX X C (.Name tx p3) as O (SM.ret ()) (fun _ => VP.is (.ty T')) := hx_tc (pe_bltn hgT hmT hT (show RelV (.ty T') _ from rfl) hnT hdT) fun _ => rfl
  have hA := ha_cons ha (ha_one h2 he2) he1
  exact ⟨pe_weak (pe_callB call_isi hg hm (by decide +kernel) hA.pa (by decide) (by decide) he1 hpl) fun σ H Q ⟨s, S, st, sl, ow, q⟩ =>
    ⟨s, S, st, sl, ow, by
      have q' := R.post_bind.mp q
      refine R.post_bind.mpr (R.post_mono q' (fun z k => ?_) fun _ z => z)
      show ∀ (vs : List V) (S' : Sv) (H' : Hp), S.le S' → StOk C.B S' H' → OwL C.B S' H' (O z.2) → AV S' vs [P z.1, VP.is (.ty T')] → rIsi X.K vs H' Q
      intro vs S' H' l' st' ow' pv
      obtain ⟨v, u, e1, p1, p2⟩ := av2 pv
      have p2 : u = .ty T' := p2
      subst e1; subst p2
      exact ⟨v, .ty T', .type A, .type T', ti, rfl, .ty T', hty z.1 v S' H' (st'.gy.trans st'.yh) st'.yh p1, kit_ty hk, k () _ S' H' l' st' ow' rfl⟩⟩⟩

/-! ### xs[::k], k one or minus one -/
def stepL (xs : List α) (k : Int) : R (List α) := if k = 1 then .ok xs else if k = -1 then .ok xs.reverse else .no
theorem pick1 (items : Array Value) : slicePick items none none (some 1) = items := by
  have h : slicePick items none none (some 1) = slicePick items none none none := rfl
  obtain ⟨its⟩ := items
  rw [h, slicePick_cut]
  simp [HT.sIx]
def tStepL (K : PySem.W.Frag) (te tk : TE) : TE := fun σ H Q => te σ H fun x H1 => tk σ H1 fun y H2 => ∃ k, y = .int k ∧ ∃ k', (some k : Option Int) = some k' ∧ ∃ a xs, x = .ref a ∧ SqL K H2 a xs ∧ ((k' = 1 ∧ ∀ p, H2 p = none → Q (.ref p) (upd H2 p (.lst xs))) ∨ (k' = -1 ∧ ∀ p, H2 p = none → Q (.ref p) (upd H2 p (.lst xs.reverse))))
theorem pe_stepL {e ke : Expr} {te tk : TE} {p3 pos : Pos} (he : PE X e te) (hk : PE X ke tk) : PE X (.Subscript e (.Slice none none (some ke) p3) pos) (tStepL X.K te tk) := by
  refine ⟨fun pins s σ H Q I h => ?_⟩
  refine Subscript_ (thn (he.run pins s σ H _ I h) fun v s1 ⟨x, H1, I1, r1, q1⟩ => ?_)
  have hst : PO X (some ke) (tPart tk) := po_some hk
  refine wpAny_Slice (thn (po_none.run pins s1 σ H1 (fun o H2 => o = none ∧ H2 = H1) I1 ⟨rfl, rfl⟩) fun vl s2 ⟨l, H2, I2, pl, el, e2⟩ => ?_)
  subst el e2
  refine thn (po_none.run pins s2 σ H2 (fun o H3 => o = none ∧ H3 = H2) I2 ⟨rfl, rfl⟩) fun vu s3 ⟨u, H3, I3, pu, eu, e3⟩ => ?_
  subst eu e3
  refine thn (hst.run pins s3 σ H3 (fun o H4 => ∃ k, o = some k ∧ ∃ a xs, x = .ref a ∧ SqL X.K H4 a xs ∧ ((k = 1 ∧ ∀ p, H4 p = none → Q (.ref p) (upd H4 p (.lst xs))) ∨ (k = -1 ∧ ∀ p, H4 p = none → Q (.ref p) (upd H4 p (.lst xs.reverse))))) I3 q1) fun vs s4 ⟨o, H4, I4, ps, kk, eo, a, xs, ex, hx, q⟩ => ?_
  subst eo ex
  cases r1
  have I5 : Inv X pins σ H4 { s4 with heap := s4.heap.push { cls := .type "slice", data := .fields #[vl, vu, vs] } } := I4.kept (t' := s4.toks) fun b ob q => Heap.get?_push_of_some _ q
  obtain ⟨its, r, ht, hz⟩ := I5.list hx
  have hlen := r.length
  show wpAny (model X.prog X.w) X.A (subscriptTail e (.Slice none none (some ke) p3) (.ref a) (.ref s4.heap.objs.size)) (EP X pins σ Q) X.xe { s4 with heap := s4.heap.push { cls := .type "slice", data := .fields #[vl, vu, vs] } }
  refine tail_any (ops := [.ref a, .ref s4.heap.objs.size]) ht.isList.typeIs (PySem.slot_list_getitem.lookup) ?_ (by with_unfolding_all rfl)
  rcases q with ⟨e1, q⟩ | ⟨e1, q⟩
  · subst e1
    refine wpAny_getItem_list_slice ht.isList (Heap.IsSliceOf.new _ vl vu vs) pl pu ps (by decide) ?_ (by rw [List.size_toArray]; omega)
    rw [pick1]
    refine ⟨.ref _, _, I5.laid (t' := s4.toks) (o := .lst xs) (fun b ob q => Heap.get?_push_of_some _ q) (Nat.le_refl _) ?_, rfl, q _ (I5.hok.fresh (Nat.le_refl _))⟩
    exact ⟨hz, _, 0, r, Heap.get?_push_size _ rfl⟩
  · subst e1
    refine wpAny_getItem_list_slice ht.isList (Heap.IsSliceOf.new _ vl vu vs) pl pu ps (by decide) ?_ (by rw [List.size_toArray]; omega)
    rw [PySem.W.krv_pick]
    refine ⟨.ref _, _, I5.laid (t' := s4.toks) (o := .lst xs.reverse) (fun b ob q => Heap.get?_push_of_some _ q) (Nat.le_refl _) ?_, rfl, q _ (I5.hok.fresh (Nat.le_refl _))⟩
    exact ⟨by rw [List.length_reverse]; exact hz, _, 0, r.reverse, Heap.get?_push_size _ rfl⟩
theorem hn_step {r : Rp δ} {m : SM ς (List δ)} {mk : SM ς Int} {p3 : Pos} (ha : HX X C a as O m (VP.at true (rLst X.K r))) (hb : HX X C b as O mk (VP.at w2 rInt)) : HN X C (.Subscript a (.Slice none none (some b) p3) pos) as O (SM.bnd2 stepL m mk) (cLst r) :=
  ⟨pe_weak (pe_stepL ha.pe hb.pe) fun σ H Q ⟨s, S, st, sl, ow, q⟩ =>
  ⟨s, S, st, sl, ow, R.post_mono (R.post_bind.mp q) (fun z k _ v S1 H1 l1 st1 ow1 pv =>
    ⟨z.2, S1, st1, sl.mono l1, ow1, R.post_mono (R.post_bind.mp k) (fun y k2 _ u S2 H2 l2 st2 ow2 pu => by
      obtain ⟨p, vs, e1, hl, h3⟩ := pv
      have pu : u = .int y.1 := pu
      subst e1; subst pu
      refine ⟨y.1, rfl, y.1, rfl, p, vs, rfl, (st2.atH true).seq ((l2.at true).seq hl), ?_⟩
      have k2 := R.post_bind.mp k2
      unfold stepL at k2
      by_cases h1 : y.1 = 1
      · rw [if_pos h1] at k2
        refine .inl ⟨h1, fun p' hp => k2 p' (.ref p') S2 _ (l1.trans l2) (st2.grow hp) (ow2.new st2 hp ⟨vs, rfl, h3.mono l2.g⟩) rfl⟩
      · rw [if_neg h1] at k2
        by_cases h2 : y.1 = -1
        · rw [if_pos h2] at k2
          exact .inr ⟨h2, fun p' hp => k2 p' (.ref p') S2 _ (l1.trans l2) (st2.grow hp) (ow2.new st2 hp ⟨_, rfl, (h3.mono l2.g).reverse⟩) rfl⟩
        · rw [if_neg h2] at k2; exact k2.elim) fun _ z => xq_le z⟩) fun _ z => xq_le z⟩⟩
end
end Y

/-! Y: tuple keys, dict.clear, single statements, loops over owned lists, raise, try. -/
namespace Y
open PySem PySem.Spec PyProof.Rows L2

section
variable {ς α β γ δ κ μ ρ π τ π0 : Type} {X : Cx} {C : Cf} {as : SA} {O : ς → OS} {a b c e elt tg iter : Expr} {es : List Expr} {pos p apos px : Pos} {w w1 w2 : Bool} {kn k : Nat} {rst body : List Stmt} {N : Sv → μ → L2.St → Hp → Prop} {T : ρ → V → Hp → Prop} {ι : α → Oc μ ρ} {os : OS}
/-! ### tuples as keys -/
def rTupX (t : RT α) : Rp α := ⟨fun x v H => ∃ p vs, v = .ref p ∧ H p = some (.tup vs) ∧ t.rep x vs H, fun e ⟨p, vs, h1, h2, h3⟩ => ⟨p, vs, h1, e _ _ h2, t.mono e h3⟩⟩
theorem hx_tupX {m : SM ς α} {t : RT α} {w : Bool} (h : HA X C es as O m (t.vps w)) (hn : t.n ≤ 16777216 := by decide) : HX X C (.Tuple es 0 pos) as O m (VP.at w (rTupX t)) := ⟨pe_weak (pe_tup h.pa) fun σ H Q ⟨s, S, st, sl, ow, q⟩ =>
  ⟨s, S, st, sl, ow, R.post_mono q (fun z k vs S' H' l' st' ow' pv => by
    have hr := t.law pv
    refine ⟨by rw [t.len hr, sizeLine_eq]; exact hn, fun p hp => ?_⟩
    have l2 : S'.le (S'.add p (.tup vs)) := st'.leF hp
    exact k () (.ref p) (S'.add p (.tup vs)) _ (l'.trans l2) (st'.newF hp) (ow'.newF st' hp) ⟨p, vs, rfl, Sv.add_at w, t.mono (l2.at w) hr⟩) fun _ z => xq_le z⟩⟩
structure KT (κ : Type) where
  k : κ → List Key
  inj : ∀ {a b}, k a = k b → a = b
  t : RT κ
  law : ∀ {a vs H}, t.rep a vs H → vs = (k a).map kV
def ktOne (kk : KK κ) : KT κ := ⟨fun a => [kk.k a], fun h => kk.inj (List.cons.inj h).1, RT.one kk.rp, fun ⟨v, e, h⟩ => by rw [e, kk.law h]; rfl⟩
def ktCons {κ' : Type} (kk : KK κ) (kt : KT κ') : KT (κ × κ') := ⟨fun a => kk.k a.1 :: kt.k a.2, fun h => Prod.ext (kk.inj (List.cons.inj h).1) (kt.inj (List.cons.inj h).2), RT.cons kk.rp kt.t, fun ⟨v, ws, e, h1, h2⟩ => by rw [e, kk.law h1, kt.law h2]; rfl⟩
def rDicT (kt : KT κ) (r : Rp β) : Rp (List (κ × β)) := ⟨fun xs v H => ∃ p kvs, v = .ref p ∧ H p = some (.dT kvs) ∧ AD kt.k r H xs kvs, fun e ⟨p, vs, h1, h2, h3⟩ => ⟨p, vs, h1, e _ _ h2, h3.mono e⟩⟩
def cDicT (kt : KT κ) (r : Rp β) (xs : List (κ × β)) : Ct := ⟨fun o G => ∃ kvs, o = .dT kvs ∧ AD kt.k r G xs kvs, fun h ⟨vs, e, q⟩ => ⟨vs, e, q.mono h⟩⟩
theorem pk_dicT {K : PySem.W.Frag} {os : OS} {kt : KT κ} {r : Rp β} {xs : List (κ × β)} {p : Addr} (i : Nat) {f : Bool} (h : os[i]? = some ⟨p, cDicT kt r xs, f⟩ := by rfl) : Pk K os (some (VP.ptr p)) (some (VP.at false (rDicT kt r) xs)) := .rd i f h fun o S ⟨vs, e, q⟩ hy hg => ⟨p, vs, rfl, by subst e; exact hy, q.mono hg⟩
section dicts
variable [DecidableEq κ] {kt : KT κ} {r : Rp β}
theorem hx_dgetT {m : SM ς (List (κ × β))} {mk : SM ς κ} (o : Ok X C kn) (ha : HX X C a as O m (VP.at w (rDicT kt r))) (hb : HX X C b as O mk (VP.at w2 (rTupX kt.t))) (hs : NoSl b := by exact fun _ _ => rfl) : HX X C (.Subscript a b pos) as O (SM.bnd2 (fun d k => R.ofO (dget d k)) m mk) (VP.at w r) := ⟨pe_weak (pe_dget o.hu ha.pe hb.pe hs) fun σ H Q h => by
  obtain ⟨s, S, st, sl, ow, q⟩ := hg_two ha hb h
  refine ⟨s, S, st, sl, ow, R.post_mono q (fun z k u v S1 H1 l1 st1 ow1 p1 => ?_) fun _ z => xq_le z⟩
  obtain ⟨s', S', st', sl', ow', q'⟩ := k u v S1 H1 l1 st1 ow1 p1
  refine ⟨s', S', st', sl', ow', R.post_mono q' (fun z k u v S1 H1 l1 st1 ow1 p1 => ?_) fun _ z => xq_le z⟩
  obtain ⟨x, y, S2, os, st2, ow2, ⟨p, kvs, e1, hp, hA⟩, ⟨pk, vs, e2, hk, hrep⟩, q2⟩ := k u v S1 H1 l1 st1 ow1 p1
  obtain ⟨z, hz, q2⟩ := q2.ofO1
  obtain ⟨v', hv, hr⟩ := hA.get kt.inj hz
  have e3 := kt.law hrep
  subst e3; subst e2
  refine ⟨p, v', e1, ?_, q2.imm st2 ow2 hr⟩
  rw [← hv]
  exact .t (st2.atH w _ _ hp) (st2.atH w2 _ _ hk)⟩
theorem hb_putDT {m : SM ς β} {mi : SM ς κ} {q0 : Addr} {fl : Bool} {x : Str} {ie : Expr} {p2 : Pos} {kf : ς → R α} (o : Ok X C kn) (i j : Nat) (sel : ς → List (κ × β)) (put : ς → List (κ × β) → ς) (he : HX X C e as O m (VP.at true r)) (hie : HX X C ie as O mi (VP.at w (rTupX kt.t))) (s : ς) (hr : ∀ s, HB X C rst as (O s) (kf s) ι N T)
    (h : as[i]? = some (some (VP.ptr q0)) := by rfl) (hO : ∀ s, (O s)[j]? = some ⟨q0, cDicT kt r (sel s), fl⟩ := by intro _; rfl) (hput : ∀ s d, (O s).set j ⟨q0, cDicT kt r d, fl⟩ = O (put s d) := by intro _ _; rfl)
    (hN : X.N[i]? = some x := by rfl) (hvis : Vis X.env.scope x := by first | exact Or.inl rfl | exact Or.inr (Or.inl rfl) | exact Or.inr (Or.inr rfl)) (hd : (x == ("__debug__" : Str)) = false := by decide) (hcd : (x == ("__classdict__" : Str)) = false := by decide)
    (hs : swapsWith e (some (.Subscript (.Name x px) ie p2)) pos.line X.env = pure false := by rfl) :
    HB X C (.Assign [.Subscript (.Name x px) ie p2] e pos :: rst) as (O s) ((m s).bind fun z => (mi z.2).bind fun y => (dputR (sel y.2) y.1 z.1).bind fun l => kf (put y.2 l)) ι N T :=
  ⟨pss_weak (pss_cons (ps_dput o.hu (pe_var hN hvis hd hcd) hie.pe he.pe hs) (pss_ex fun s => (hr s).pss)) fun D σ H ⟨L, S, lL, st, sl, ow, q⟩ =>
    ⟨s, S, st, sl, ow, R.post_mono (R.post_bind.mp q) (fun z k _ v S1 H1 l1 st1 ow1 pv => by
      obtain ⟨u, g1, g2⟩ := sl.2 i _ h
      have g2 : u = .ref q0 := g2
      subst g2
      refine ⟨.ref q0, g1, z.2, S1, st1, sl.mono l1, ow1, R.post_mono (R.post_bind.mp k) (fun y k2 _ u S2 H2 l2 st2 ow2 pu => ?_) fun _ z => xq_le z⟩
      obtain ⟨pk, vs, e2, hk, hrep⟩ := pu
      have e3 := kt.law hrep
      subst e3; subst e2
      obtain ⟨h1, ⟨o', ho', vs', eo', hA⟩, _, h3⟩ := ow2.get (hO y.2)
      subst eo'
      have k2 := R.post_bind.mp k2
      obtain ⟨hz, k2⟩ := R.guard_post.mp (R.post_bind.mp k2)
      have st3 : StOk C.B S2 (upd H2 q0 (.dT (putK vs' (kt.k y.1) v))) := st2.put h1 h3
      have ow3 := ow2.put (c := cDicT kt r (dput (sel y.2) y.1 z.1)) (hO y.2) ⟨_, rfl, hA.put kt.inj (k := y.1) (r.mono l2.g pv)⟩
      have ow3 : OwL C.B S2 _ ((O y.2).set j ⟨q0, cDicT kt r (dput (sel y.2) y.1 z.1), fl⟩) := ow3
      rw [hput] at ow3
      exact ⟨q0, _, rfl, .t ho' (st2.atH w _ _ hk) (by rw [← hA.length, sizeLine_eq]; exact hz), _, L, S2, (lL.trans l1).trans l2, st3, (sl.mono l1).mono l2, ow3, k2⟩) fun _ z => xq_le z⟩⟩
end dicts
/-- an empty dict for tuple keys: its first pair makes it one -/
theorem hx_dclear [DecidableEq κ] {kk : KK κ} {r : Rp β} {x : Str} {q0 : Addr} {fl : Bool} (i j : Nat) (sel : ς → List (κ × β)) (put : ς → List (κ × β) → ς) (h : as[i]? = some (some (VP.ptr q0)) := by rfl) (hO : ∀ s, (O s)[j]? = some ⟨q0, cDic kk r (sel s), fl⟩ := by intro _; rfl) (hput : ∀ s d, (O s).set j ⟨q0, cDic kk r d, fl⟩ = O (put s d) := by intro _ _; rfl)
    (hN : X.N[i]? = some x := by rfl) (hvis : Vis X.env.scope x := by first | exact Or.inl rfl | exact Or.inr (Or.inl rfl) | exact Or.inr (Or.inr rfl)) (hd : (x == ("__debug__" : Str)) = false := by decide) (hcd : (x == ("__classdict__" : Str)) = false := by decide)
    (hbase : attributeBase (.Name x px) "clear" X.env (eval (.Name x px) X.env) = eval (.Name x px) X.env := by rfl) (hline : (apos.endLine == pos.line) = true := by rfl) :
    HX X C (.Call (.Attribute (.Name x px) "clear" apos) [] [] pos) as O (fun s => .ok ((), put s [])) (VP.at true rNon) :=
  ⟨pe_weak (pe_dclear (pe_var hN hvis hd hcd) hbase hline) fun σ H Q ⟨s, S, st, sl, ow, q⟩ => by
    obtain ⟨v, h1, h2⟩ := sl.2 i _ h
    have h2 : v = .ref q0 := h2
    subst h2
    obtain ⟨_, ⟨o, ho, vs0, eo, hA⟩, _⟩ := ow.get (hO s)
    subst eo
    refine ⟨.ref q0, h1, .inr (.inr (.inl ⟨rfl, .inl ⟨_, ho⟩⟩)), q0, vs0, rfl, rfl, ho, ?_⟩
    obtain ⟨st2, ow2⟩ := mutD_fin (ws := []) (ys := []) st ow (hO s) trivial
    rw [hput] at ow2
    exact q () .non S _ (.refl S) st2 ow2 rfl⟩

/-! ### a single statement -/
structure HS (X : Cx) (C : Cf) (st : Stmt) (as : SA) (os : OS) (m : R α) (ι : α → Oc μ ρ) (N : Sv → μ → L2.St → Hp → Prop) (T : ρ → V → Hp → Prop) : Prop where
  ps : PS X st (tB C as os m ι N T)
theorem hb_seq {μ' : Type} {st : Stmt} {m : R (Oc μ' ρ)} {as1 : μ' → SA} {os1 : μ' → OS} {k : μ' → R α} {kr : ρ → α} (h : HS X C st as os m id (NS C as1 os1) T) (hr : ∀ l, HB X C rst (as1 l) (os1 l) (k l) ι N T) (hk : ∀ r, ι (kr r) = .rt r) :
    HB X C (st :: rst) as os (m.bind fun o => match o with | .nx l => k l | .rt r => .ok (kr r)) ι N T :=
  ⟨pss_weak (pss_cons h.ps (pss_ex fun l => (hr l).pss)) fun D σ H ⟨L, S, lL, st, sl, ow, q⟩ => ⟨L, S, lL, st, sl, ow, R.post_mono (R.post_bind.mp q) (fun o k2 => by
    cases o with
    | nx l =>
      rintro σ' H' ⟨S', l', st', sl', ow'⟩
      exact ⟨l, L, S', l', st', sl', ow', k2⟩
    | rt r =>
      have k2 : goes (N L) T D (ι (kr r)) := k2
      rw [hk] at k2
      exact k2) fun _ z => z⟩⟩
theorem hb_seqN {μ' : Type} {st : Stmt} {m : R μ'} {as1 : μ' → SA} {os1 : μ' → OS} {k : μ' → R α} (h : HS X C st as os m Oc.nx (NS C as1 os1) T) (hr : ∀ l, HB X C rst (as1 l) (os1 l) (k l) ι N T) :
    HB X C (st :: rst) as os (m.bind k) ι N T :=
  ⟨pss_weak (pss_cons h.ps (pss_ex fun l => (hr l).pss)) fun D σ H ⟨L, S, lL, st, sl, ow, q⟩ => ⟨L, S, lL, st, sl, ow, R.post_mono (R.post_bind.mp q) (fun l k2 => by
      rintro σ' H' ⟨S', l', st', sl', ow'⟩
      exact ⟨l, L, S', l', st', sl', ow', k2⟩) fun _ z => z⟩⟩
/-- a for loop as a single statement -/
theorem hs_for {m : SM ς (List β)} {P : β → VP} {μ' : Type} {f : μ' → β → R (Oc μ' ρ)} {l0 : ς → μ'} {asL : μ' → SA} {osL : μ' → OS} {asT : μ' → β → SA} {ts : List Nat} (o : Ok X C kn) (hi : HI X C tg e as O m P) (s : ς)
    (h0 : ∀ s', Wk as (asL (l0 s'))) (h1 : ∀ s', O s' = osL (l0 s')) (ht : ∀ l a, HTg X C tg (asL l) (P a) ts (asT l a)) (hb : ∀ l a, HB X C body (asT l a) (osL l) (f l a) id (NS C asL osL) T)
    (hs : ∀ x, foldedSetIterable e X.env x = pure x := by intro _; rfl) :
    HS X C (.For tg e body [] pos) as (O s) ((m s).bind fun z => forR f (l0 z.2) z.1) id (NS C asL osL) T :=
  ⟨ps_weak (ps_for o.po o.calm hi.pi (pg_ex fun (la : μ' × β) => (ht la.1 la.2).pg) (pss_ex fun (la : μ' × β) => (hb la.1 la.2).pss) hs) fun D σ H ⟨L, S, lL, st, sl, ow, q⟩ => by
    refine ⟨s, S, st, sl, ow, R.post_mono (R.post_bind.mp q) (fun z k' J S0 H0 l' st' ow' it => ?_) fun _ z => xq_le z⟩
    have lL0 := lL.trans l'
    let fin : Oc μ' ρ → Prop := fun o => goes (NS C asL osL L) T D o
    refine ⟨fun i n σ1 H1 => ∃ l S1, n = z.1.length - i ∧ S0.le S1 ∧ StOk C.B S1 H1 ∧ Sl S1 σ1 (asL l) ∧ OwL C.B S1 H1 (osL l) ∧ (forR f l (z.1.drop i)).post fin (C.xq L),
      ⟨z.1.length - 0, l0 z.2, S0, rfl, .refl _, st', (sl.mono l').wk (h0 _), by rw [← h1]; exact ow', k'⟩, ?_⟩
    rintro i n σ1 H1 ⟨l, S1, en, l1, st1, sl1, ow1, q1⟩
    by_cases hi : i < z.1.length
    · refine .inr ⟨it.go i S1 H1 l1 st1 hi, fun σ2 H2 => ∃ l S2, S0.le S2 ∧ StOk C.B S2 H2 ∧ Sl S2 σ2 (asL l) ∧ OwL C.B S2 H2 (osL l) ∧ (forR f l (z.1.drop (i + 1))).post fin (C.xq L), ?_, ?_⟩
      · rintro σ2 H2 ⟨l, S2, l2, st2, sl2, ow2, q2⟩
        exact ⟨n - 1, by omega, l, S2, by omega, l2, st2, sl2, ow2, q2⟩
      · intro x H2 hy
        obtain ⟨S2, l2, st2, ow2, p2⟩ := it.yld i z.1[i] S1 H1 x H2 l1 st1 (List.getElem?_eq_getElem hi) hy
        refine ⟨(l, z.1[i]), S2, st2, sl1.mono l2, p2, fun σ3 sl3 _ _ => ⟨(l, z.1[i]), S0, S2, l1.trans l2, st2, sl3, ow2 _ ow1, ?_⟩⟩
        rw [List.drop_eq_getElem_cons hi] at q1
        refine R.post_mono (R.post_bind.mp q1) (fun o3 q3 => ?_) fun _ z => xq_le z
        cases o3 with
        | nx l3 =>
          rintro σ4 H4 ⟨S4, l4, st4, sl4, ow4⟩
          exact ⟨l3, S4, l4, st4, sl4, ow4, q3⟩
        | rt r => exact q3
    · rw [List.drop_eq_nil_of_le (by omega)] at q1
      have q1 : goes (NS C asL osL L) T D (.nx l) := q1
      exact .inl ⟨it.stop i S1 H1 l1 st1 (by omega), q1 σ1 H1 ⟨S1, lL0.trans l1, st1, sl1, ow1⟩⟩⟩

/-! ### a statement under which owned things are only read -/
/-- a pointer whose object is read -/
def VP.bo (p : Addr) (Q : VP) : VP := ⟨fun v S => v = .ref p ∧ Q.p v S, fun l h => ⟨h.1, Q.mono l h.2⟩⟩
theorem hx_bo {r : Rp α} {z : α} {q0 : Addr} (i : Nat) {x : Str} (h : as[i]? = some (some (VP.bo q0 (VP.at w r z))) := by rfl) (hN : X.N[i]? = some x := by rfl) (hv : Vis X.env.scope x := by first | exact Or.inl rfl | exact Or.inr (Or.inl rfl) | exact Or.inr (Or.inr rfl))
    (hd : (x == ("__debug__" : Str)) = false := by decide) (hcd : (x == ("__classdict__" : Str)) = false := by decide) : HX X C (.Name x pos) as O (SM.ret z) (VP.at w r) := ⟨pe_weak (pe_var hN hv hd hcd) fun σ H Q ⟨s, S, st, sl, ow, q⟩ => by
  obtain ⟨v, h1, _, h2⟩ := sl.2 i _ h
  exact ⟨v, h1, q () v S H (.refl S) st ow h2⟩⟩
theorem pb_lst {K : PySem.W.Frag} {os : OS} {r : Rp β} {xs : List β} {p : Addr} (i : Nat) {f : Bool} (h : os[i]? = some ⟨p, cLst r xs, f⟩ := by rfl) : Pk K os (some (VP.ptr p)) (some (VP.bo p (VP.at false (rLst K r) xs))) := .rd i f h fun o S ⟨vs, e, q⟩ hy hg => ⟨rfl, p, vs, rfl, by subst e; exact SqL.of hy, q.mono hg⟩
theorem pb_dic {K : PySem.W.Frag} {os : OS} {k : KK κ} {r : Rp β} {xs : List (κ × β)} {p : Addr} (i : Nat) {f : Bool} (h : os[i]? = some ⟨p, cDic k r xs, f⟩ := by rfl) : Pk K os (some (VP.ptr p)) (some (VP.bo p (VP.at false (rDic k r) xs))) := .rd i f h fun o S ⟨vs, e, q⟩ hy hg => ⟨rfl, p, vs, rfl, by subst e; exact hy, q.mono hg⟩
theorem pb_dicT {K : PySem.W.Frag} {os : OS} {kt : KT κ} {r : Rp β} {xs : List (κ × β)} {p : Addr} (i : Nat) {f : Bool} (h : os[i]? = some ⟨p, cDicT kt r xs, f⟩ := by rfl) : Pk K os (some (VP.ptr p)) (some (VP.bo p (VP.at false (rDicT kt r) xs))) := .rd i f h fun o S ⟨vs, e, q⟩ hy hg => ⟨rfl, p, vs, rfl, by subst e; exact hy, q.mono hg⟩
/-- .. within a tuple -/
def PkL (os : OS) (Ps Qs : List VP) : Prop := ∀ (B : Bs) (S : Sv) (H : Hp) (vs : List V), StOk B S H → OwL B S H os → AV S vs Ps → AV (S.lend H []) vs Qs
theorem pkl_nil {os : OS} : PkL os [] [] := fun B S H vs st ow h => match vs, h with
  | [], _ => trivial
theorem pkl_same {os : OS} {P : VP} {Ps Qs : List VP} (hs : PkL os Ps Qs) : PkL os (P :: Ps) (P :: Qs) := fun B S H vs st ow h => match vs, h with
  | v :: vs, h => ⟨P.mono (lend_le st fun _ m => by cases m) h.1, hs B S H vs st ow h.2⟩
theorem pkl_rd {K : PySem.W.Frag} {os : OS} {q : Addr} {Q : VP} {Ps Qs : List VP} (h : Pk K os (some (VP.ptr q)) (some Q)) (hs : PkL os Ps Qs) : PkL os (VP.ptr q :: Ps) (Q :: Qs) := fun B S H vs st ow hv => match vs, hv with
  | v :: vs, hv => by
    have sl : Sl S [some v] [some (VP.ptr q)] := ⟨Nat.le_refl _, fun i P e => by
      cases i with
      | zero =>
        have e : VP.ptr q = P := by simpa using e
        subst e
        exact ⟨v, rfl, hv.1⟩
      | succ i => simp at e⟩
    obtain ⟨v', h1, h2⟩ := (pks_sl (K := K) (as := [some (VP.ptr q)]) (bs := [some Q]) st ow ⟨h, trivial⟩ sl).2 0 Q rfl
    have e : v = v' := by simpa using h1
    subst e
    exact ⟨h2, hs B S H vs st ow hv.2⟩
theorem pk_tup {K K' : PySem.W.Frag} {os : OS} {Ps Qs : List VP} (h : PkL os Ps Qs) : Pk K' os (some (VP.tup K Ps)) (some (VP.tup K Qs)) := .mp fun B S H v st ow ⟨p, vs, e, h1, h2⟩ => ⟨p, vs, e, h1, h B S H vs st ow h2⟩
/-- back from the reading -/
inductive Bk1 : Option VP → Option VP → Prop where
  | no {va : Option VP} : Bk1 va none
  | go {PP : VP} (h : PGo PP) : Bk1 (some PP) (some PP)
  | bo {ad : Addr} {QQ : VP} : Bk1 (some (VP.bo ad QQ)) (some (VP.ptr ad))
def Bks : SA → SA → Prop
  | _, [] => True
  | a :: as, b :: bs => Bk1 a b ∧ Bks as bs
  | [], _ :: _ => False
theorem Bks.len : ∀ {as bs : SA}, Bks as bs → bs.length ≤ as.length
  | _, [], _ => Nat.zero_le _
  | _ :: _, _ :: _, h => Nat.succ_le_succ (Bks.len h.2)
  | [], _ :: _, h => h.elim
theorem Bks.at : ∀ {as bs : SA} {i : Nat} {Q : VP}, Bks as bs → bs[i]? = some (some Q) → ∃ a, as[i]? = some a ∧ Bk1 a (some Q)
  | _, [], _, _, _, h => by simp at h
  | a :: _, b :: _, 0, Q, h, e => by
    have e' : b = some Q := Option.some.inj e
    exact ⟨a, rfl, by rw [← e']; exact h.1⟩
  | _ :: as, _ :: bs, i + 1, Q, h, e => Bks.at (i := i) h.2 e
  | [], _ :: _, _, _, h, _ => h.elim
theorem bks_sl {S S1 : Sv} {as bs : SA} {σ : L2.St} (h : Bks as bs) (sl : Sl S1 σ as) : Sl (S.back S1) σ bs := by
  refine ⟨Nat.le_trans h.len sl.1, fun i Q e => ?_⟩
  obtain ⟨a, ha, k⟩ := h.at e
  cases k with
  | go hg =>
    obtain ⟨v, h1, h2⟩ := sl.2 i Q ha
    exact ⟨v, h1, hg v S1 _ rfl h2⟩
  | bo =>
    obtain ⟨v, h1, h2⟩ := sl.2 i _ ha
    exact ⟨v, h1, h2.1⟩
/-- what such a statement may hand back -/
def TV {ρ : Type} (B : Bs) (PR : ρ → VP) : ρ → V → Hp → Prop := fun r v H => ∃ S, StOk B S H ∧ (PR r).p v S
theorem hs_pk {st : Stmt} {μ' : Type} {m : R (Oc μ' ρ)} {PR : ρ → VP} {as' : SA} {as1 as2 : μ' → SA} (hk : Pks X.K os as as')
    (h : ∀ B, HS X (C.pk B) st as' [] m id (NS (C.pk B) as1 fun _ => []) (TV B PR)) (hb : ∀ l, Bks (as1 l) (as2 l)) (hP : ∀ r, PGo (PR r)) (hT : ∀ r v S H, StOk C.B S H → OwL C.B S H os → (PR r).p v S → T r v H) :
    HS X C st as os m.calm id (NS C as2 fun _ => os) T := by
  refine ⟨⟨fun pins s σ H D I ⟨L, S, lL, st, sl, ow, q⟩ => ?_⟩⟩
  refine (h (Bs.sub S.g H [])).ps.run pins s σ H D I ⟨S.lend H [], S.lend H [], .refl _, lend_ok st (fun _ m => by cases m), pks_sl st ow hk sl, trivial, R.calm_post (R.post_mono q (fun o k => ?_) fun _ z => z) _⟩
  have bk : ∀ {S1 : Sv} {H1 : Hp}, StOk (Bs.sub S.g H []) S1 H1 → StOk C.B (S.back S1) H1 ∧ OwL C.B (S.back S1) H1 os ∧ L.le (S.back S1) := fun {S1 H1} st1 => ⟨back_ok st st1 (fun _ m => by cases m) (fun _ m => by cases m), back_ow st st1 ow (fun _ _ m => by cases m), lL.trans (back_le st1)⟩
  cases o with
  | nx l =>
    rintro σ' H' ⟨S1, _, st1, sl1, _⟩
    obtain ⟨b1, b2, b3⟩ := bk st1
    exact k σ' H' ⟨S.back S1, b3, b1, bks_sl (hb l) sl1, b2⟩
  | rt r =>
    rintro v H' ⟨S1, st1, pv⟩
    obtain ⟨b1, b2, b3⟩ := bk st1
    exact k v H' (hT r v _ H' b1 b2 (hP r v S1 _ rfl pv))

/-! ### raise -/
theorem hb_raise {m : Str} {x : Str} {j : Nat} {p p2 cpos pos : Pos} {Ca : Addr} {bmB : List Value} {Bn newId initId : String} {ε : Er} (o : Ok X C kn) (F : ExcBaseFacts Bn newId initId bmB) (q : PySem.W.excIn X.K Ca bmB newId = true) (gC : X.mg x = some (.ref Ca)) (kC : PySem.W.keepIn X.K (.ref Ca) = true) (r : Raises X (.ref Ca))
    (hw : Wk as C.ax) (ho : ∀ S H, OwL C.B S H os → OwL C.B S H C.ox) (hx : ∀ S H, StOk C.B S H → C.xr ε (.ref Ca) none S.g H) (hg : Gl X x := by rfl) (hdb : (x == ("__debug__" : Str)) = false := by decide) :
    HB X C (.Raise (some (.Call (.Name x p) [.Constant (.str m) j p2] [] cpos)) none pos :: rst) as os (.ex ε) ι N T :=
  ⟨pss_weak (pss_cons (ps_raise o.calm o.tk (pmk_own F q gC kC r hg hdb)) pss_never) fun D σ H ⟨L, S, lL, st, sl, ow, z⟩ => by
    have z : C.xq L ε := z
    exact z _ _ S H σ lL st (sl.wk hw) (ho S H ow) (hx S H st)⟩
/-- a call that may raise -/
theorem hg_callX {xr : Er → Value → Option Addr → Hp → Hp → Prop} {Ps : τ → List VP} {m : τ → R ρ} {Bv : ρ → π → VP} {nw : ρ → π → OS} {f : Addr} {fd : FuncData} {ps : List Str} {x : Str} {ma : SM ς τ} (F : FnOk X.prog X.w X.K X.mg X.base (L2.CX X.prog X.w) k f fd ps (spF (π0 := Unit) xr (fun x _ => Ps x) (fun _ _ => []) m Bv (fun _ _ => []) nw)) (o : Ok X C kn) (hkn : k ≤ kn)
    (hm : X.mg x = some (.ref f)) (hk : PySem.W.keepIn X.K (.ref f) = true) (hb : Binds X.K fd ps []) (ha : HA X C (e :: es) as O ma Ps) (hB : ∀ r q, PGo (Bv r q)) (hf : ∀ r q, AllF (nw r q))
    (hw : Wk as C.ax) (ho : ∀ s S H, OwL C.B S H (O s) → OwL C.B S H C.ox) (hx : ∀ ε cls d G H, xr ε cls d G H → C.xr ε cls d G H) (hg : Gl X x := by rfl)
    (hdb : (x == ("__debug__" : Str)) = false := by decide) (he : starEach (e :: es) X.env = (false, eval e X.env) :: starEach es X.env := by rfl) (hpl : (backTo pos (starEach es X.env)).any (·.1) = false := by rfl) :
    HG X C (.Call (.Name x p) (e :: es) [] pos) as O (SM.bnd1 m ma) Bv nw :=
  ⟨pe_weak (pe_callSD F (o.room.mono hkn) hg hm hk hb .nil (fun σ => passAt o.tk σ) ha.pa hdb he hpl) fun σ H Q ⟨s, S, st, sl, ow, q⟩ =>
  ⟨s, S, st, sl, ow, R.post_mono (R.post_bind.mp q) (fun z k vs S1 H1 l1 st1 ow1 pv => by
    show spF _ _ _ _ _ _ _ (vs ++ []) H1 Q _
    rw [List.append_nil]
    have k := R.post_bind.mp k
    refine ⟨z.1, (), S1.g, st1.gy.trans st1.yh, (fun _ m => by cases m), ?_, trivial, R.post_mono k (fun r k2 q v S2 H2 st2 ow2 p2 => ?_) fun ε kx cls d S2 H2 st2 ow2 hxr => ?_⟩
    · show AV ⟨S1.g, hide H1 []⟩ vs (Ps z.1)
      refine AV.mono (S := S1) (S' := ⟨S1.g, hide H1 []⟩) ⟨Ex.refl _, ?_⟩ pv
      show Ex S1.y (hide H1 [])
      rw [hide_nil]; exact st1.yh
    · have ow2 : OwL (Bs.sub S1.g H1 []) S2 H2 (nw r q ++ []) := ow2
      rw [List.append_nil] at ow2
      exact k2 q v (S1.back S2) H2 (l1.trans (back_le st2)) (back_ok st1 st2 (fun _ m => by cases m) (fun _ m => by cases m)) (call_new st1 st2 (hf r q) ow2 ow1 (back_ow st1 st2 ow1 fun _ _ m => by cases m)) (hB r q v S2 _ rfl p2)
    · have kx : C.xq S ε := kx
      exact kx cls d (S1.back S2) H2 σ (l1.trans (back_le st2)) (back_ok st1 st2 (fun _ m => by cases m) (fun _ m => by cases m)) (((sl.mono l1).mono (back_le st2)).wk hw) (ho z.2 _ _ (back_ow st1 st2 ow1 fun _ _ m => by cases m)) (hx ε cls d _ _ hxr)) fun _ z => xq_le z⟩⟩

/-! ### try: .. except X: .. -/
def tryR {μ' : Type} (m : R (Oc μ' ρ)) (pr : Er → Bool) (h : Er → R (Oc μ' ρ)) : R (Oc μ' ρ) := match m with
  | .no => .no
  | .ex ε => if pr ε = true then h ε else .ex ε
  | .ok o => .ok o
/-- a try's body's place -/
abbrev Cf.tr (C : Cf) (W : WX) (as : SA) (os : OS) (xr : Er → Value → Option Addr → Hp → Hp → Prop) : Cf := ⟨C.B, W, as, os, xr⟩
theorem Ok.tr (o : Ok X C kn) {W : WX} {pn : List (Addr × Obj)} {xe : Value → Shared → Prop} {xr : Er → Value → Option Addr → Hp → Hp → Prop} (t : Takes (X.tr pn xe) W) (p : PassesOwn (model X.prog X.w) X.A X.env xe) : Ok (X.tr pn xe) (C.tr W as os xr) kn := ⟨o.calm, o.nd, o.room, t, p⟩
theorem hs_try {x : Str} {cv : Value} {suite : List Stmt} {b₀ : Stmt} {np hpos : Pos} {μ' : Type} {mb : R (Oc μ' ρ)} {pr : Er → Bool} {mh : Er → R (Oc μ' ρ)} {as1 : μ' → SA} {os1 : μ' → OS} {xr : Er → Value → Option Addr → Hp → Hp → Prop} (o : Ok X C kn) (hs : X.stack = X.env :: X.outer) (hf : X.env.frame = some X.env.locals) (hc : Names X x cv)
    (hx : ∀ ε cls d G H, xr ε cls d G H → PySem.W.exmOne X.K cls cv = some (pr ε) ∧ (pr ε = false → C.xr ε cls d G H)) (hw : Wk as C.ax) (ho : ∀ S H, OwL C.B S H os → OwL C.B S H C.ox)
    (hb : ∀ (W : WX) (pn : List (Addr × Obj)) (xe : Value → Shared → Prop), Takes (X.tr pn xe) W → PassesOwn (model X.prog X.w) X.A X.env xe → HB (X.tr pn xe) (C.tr W as os xr) body as os mb id (NS C as1 os1) T)
    (hsu : ∀ (ε : Er) (a : Addr) (oe : Obj) (pn : List (Addr × Obj)), HB (X.suite a ((a, oe) :: pn)) (C.blk C.B) (b₀ :: suite) as os (mh ε) id (NS C as1 os1) T) (hcalm : ∀ ε, (mh ε).calm = mh ε) :
    HS X C (.Try body [.ExceptHandler (some (.Name x np)) none (b₀ :: suite) hpos] [] [] pos) as os (tryR mb pr mh) id (NS C as1 os1) T :=
  ⟨ps_weak (ps_try_only (tb := fun W => tB (C.tr W as os xr) as os mb id (NS C as1 os1) T) (ts := fun a cls d D σ H => ∃ ε, tB (C.blk C.B) as os (mh ε) id (NS C as1 os1) T D σ H) hs hf hc o.tk (fun W pn xe t p => (hb W pn xe t p).pss) fun a oe cls d pn _ _ => pss_ex fun ε => (hsu ε a oe pn).pss) fun D σ H ⟨L, S, lL, st, sl, ow, q⟩ => by
    refine ⟨L, S, lL, st, sl, ow, ?_⟩
    unfold tryR at q
    cases mb with
    | no => exact q
    | ok a => exact q
    | ex ε =>
      show (C.tr (wOnly X.K cv _ C.W D) as os xr).xq L ε
      intro cls d S2 H2 σ2 l2 st2 sl2 ow2 hxr
      obtain ⟨h1, h2⟩ := hx ε cls d _ _ hxr
      refine ⟨pr ε, h1, fun e1 a ha => ?_, fun e1 => ?_⟩
      · have q : (if pr ε = true then mh ε else .ex ε).post (fun a => goes (NS C as1 os1 L) T D (id a)) (C.xq L) := q
        rw [if_pos e1] at q
        refine ⟨ε, L, S2, l2, st2, sl2, ow2, ?_⟩
        rw [← hcalm] at q ⊢
        exact R.calm_post (R.post_mono (by
          cases h : mh ε with
          | no => rw [h] at q; exact q.elim
          | ex e => rw [h] at q; exact q.elim
          | ok a => rw [h] at q; exact q) (fun _ z => z) fun _ z => z) _
      · have q : (if pr ε = true then mh ε else .ex ε).post (fun a => goes (NS C as1 os1 L) T D (id a)) (C.xq L) := q
        rw [if_neg (by rw [e1]; decide)] at q
        have q : C.xq L ε := q
        exact q cls d S2 H2 σ2 l2 st2 (sl2.wk hw) (ho _ _ ow2) (h2 e1)⟩
end
end Y

/-! Y: list + list; small things. -/
namespace Y
open PySem PySem.Spec PyProof.Rows L2
section
variable {ς α β γ δ κ μ ρ π τ π0 : Type} {X : Cx} {C : Cf} {as : SA} {O : ς → OS} {a b c e elt tg iter : Expr} {es : List Expr} {pos p apos px : Pos} {w w1 w2 : Bool} {kn k : Nat} {rst body : List Stmt} {N : Sv → μ → L2.St → Hp → Prop} {T : ρ → V → Hp → Prop} {ι : α → Oc μ ρ} {os : OS}
def rCatL (K : PySem.W.Frag) : R2 := fun x y H Q => ∃ l b xs zs, x = .ref l ∧ y = .ref b ∧ SqL K H l xs ∧ SqL K H b zs ∧ xs.length + zs.length ≤ sizeLine ∧ ∀ p, H p = none → Q (.ref p) (upd H p (.lst (xs ++ zs)))
theorem op_catL : OpR X (binaryOp .Add) (rCatL X.K) := by
  intro pins s σ H x y v u Q I rx ry h
  obtain ⟨l, b, xs, zs, rfl, rfl, hH, hB, hz, q⟩ := h
  cases rx
  cases ry
  obtain ⟨its, r, pl, z⟩ := I.list hH
  obtain ⟨its2, r2, pl2, z2⟩ := I.list hB
  have hl := r.length
  have hl2 := r2.length
  obtain ⟨⟨cls, dd, data, sl⟩, ho, hc, n, hd⟩ := pl.isList
  obtain ⟨⟨cls2, dd2, data2, sl2⟩, ho2, hc2, n2, hd2⟩ := pl2.isList
  simp only at hc hd hc2 hd2
  subst hc hd hc2 hd2
  have ea : its.toArray ++ its2.toArray = (its ++ its2).toArray := by simp
  refine concat_meets ⟨_, ho, rfl⟩ ⟨_, ho2, rfl⟩ noFill_list_add seq_list_add PySem.F.slot_list_add PySem.F.entry_list_add (PySem.F.args_list_add_2 _ _) (list_addW l b its.toArray its2.toArray n n2 dd dd2 sl sl2 (by rw [List.size_toArray, List.size_toArray]; omega)) ⟨ho, ho2, ?_⟩
  rw [ea]
  exact ⟨.ref _, _, I.lnew (t' := s.toks) (r.append r2) (by rw [List.length_append]; omega), rfl, q _ I.fresh⟩
def catL (xs ys : List δ) : R (List δ) := (R.guard (xs.length + ys.length ≤ 16777216)).bind fun _ => .ok (xs ++ ys)
theorem hn_catL {rp : Rp δ} {m1 m2 : SM ς (List δ)} (ha : HX X C a as O m1 (VP.at true (rLst X.K rp))) (hb : HX X C b as O m2 (VP.at true (rLst X.K rp))) : HN X C (.BinOp a .Add b pos) as O (SM.bnd2 catL m1 m2) (cLst rp) := hg_op op_catL (fun x y v u S H os Q st ow h1 h2 q => by
  obtain ⟨hc, q⟩ := q.guard
  obtain ⟨p1, vs, e1, q1, a1⟩ := h1
  obtain ⟨p2, us, e2, q2, a2⟩ := h2
  exact ⟨p1, p2, vs, us, e1, e2, (st.atH true).seq q1, (st.atH true).seq q2, by rw [sizeLine_eq, ← a1.length, ← a2.length]; exact hc, fun p hp => q.newO st ow hp ⟨_, rfl, A2.append a1 a2⟩⟩) ha hb
/-- the result of a call, frozen -/
theorem HG.frzP {m : SM ς α} {P : α → Addr → VP} {c : α → Ct} {P' : α → VP} (h : HG (π := Addr) X C e as O m P fun a p => [⟨p, c a, true⟩]) (hP : ∀ a q v S, (P a q).p v S → v = .ref q) (hc : ∀ a p o S, (c a).c o S.g → S.g p = some o → (P' a).p (.ref p) S) : HX X C e as O m P' := HG.frz (c := c) ⟨pe_weak h.pe fun σ H Q ⟨s, S, st, sl, ow, q⟩ =>
  ⟨s, S, st, sl, ow, R.post_mono q (fun z k p v S' H' l' st' ow' pv => k p v S' H' l' st' ow' (hP _ _ _ _ pv)) fun _ z => z⟩⟩ hc
end
end Y

/-! Y: defs by names. -/
namespace Y
open PySem PySem.Spec PyProof.Rows L2
section
variable {P : Program} {w : World} {K : PySem.W.Frag} {mg : Str → Option Value} {base : Heap}
theorem okXD {x qual : Str} {params : Arguments} {body : List Stmt} {scope : Scope} {dvs : List V} {kws : List (Str × V)} {f : Addr} {fd : FuncData} {N ps : List Str} {k : Nat} {sp : Sp} (F : FunD K x qual params body scope dvs kws f fd) (S : FnScope N ps scope) (len : ∀ vs H Q E, sp vs H Q E → vs.length = ps.length)
    (hbody : ∀ (cdv : Value) (A : Around) (outer : List Env) (s : Shared) (H : Hp) (vs : List V) (Q : VK) (E : XK), Room k (A.deeper (envOfC qual scope s.heap.objs.size f cdv)) → sp vs H Q E →
      ∃ t, PSs (cxOf (L2.CX P w) P w K mg base N qual scope f cdv A outer s H E) body t ∧ t { nx := fun _ H' => Q .non H', rt := Q } (start N vs) H) : FnOk P w K mg base (L2.CX P w) (k + 1) f fd ps sp := by
  obtain ⟨oc, od, dV, kV, doc, pm, an, cdv, ct, osl, rfl, lk, hcd, _, _⟩ := F.ex
  exact fn_of lk hcd S len fun A outer s H vs Q E hr hsp => hbody cdv A outer s H vs Q E hr hsp
/-- where a body begins -/
theorem st0_ok {G H : Hp} {os : OS} (hG : Ex G H) (hn : ∀ e ∈ os, G e.p = none) : StOk (Bs.sub G H (os.map (·.p))) ⟨G, hide H (os.map (·.p))⟩ H := {
    gy := fun a u e => by
      have e : G a = some u := e
      show hide H _ a = some u
      rw [hide_out fun m => by
        obtain ⟨e', m1, m2⟩ := List.mem_map.mp m
        have z := hn e' m1
        rw [m2] at z
        rw [z] at e; cases e]
      exact hG a u e
    yh := hide_ex
    g0 := Ex.refl _
    b0 := fun a u e n => by
      show hide H _ a = some u
      rw [hide_out n]; exact e
    fr := fun _ h _ => h
    tr := fun _ h => h
    kp := fun _ _ h => by cases h }
/-- a def of the text that hands back at every way -/
theorem fd_ok {τ ρ π0 π : Type} {x qual : Str} {params : Arguments} {body : List Stmt} {scope : Scope} {dvs : List V} {kws : List (Str × V)} {f : Addr} {fd : FuncData} {N ps : List Str} {k : Nat} {xr : Er → Value → Option Addr → Hp → Hp → Prop} {Ps : τ → π0 → List VP} {os0 : τ → π0 → OS} {m : τ → R ρ} {Bv : ρ → π → VP} {os1 : ρ → π0 → OS} {nw : ρ → π → OS} (F : FunD K x qual params body scope dvs kws f fd) (Sc : FnScope N ps scope)
    (n : Nat) (hlen : ∀ x q0, (Ps x q0).length = ps.length) (hN : n + ps.length = N.length)
    (hb : ∀ (cdv : Value) (A : Around) (outer : List Env) (s : Shared) (H : Hp) (E : XK) (B : Bs) (x : τ) (q0 : π0), Ok (cxOf (L2.CX P w) P w K mg base N qual scope f cdv A outer s H E) (Cf.fn B E (os0 x q0) xr) k →
      HB (μ := Unit) (cxOf (L2.CX P w) P w K mg base N qual scope f cdv A outer s H E) (Cf.fn B E (os0 x q0) xr) body (asP (Ps x q0) n) (os0 x q0) (m x) Oc.rt NF (TF B Bv os1 nw q0)) :
    FnOk P w K mg base (L2.CX P w) (k + 1) f fd ps (spF xr Ps os0 m Bv os1 nw) := by
  refine okXD F Sc (fun vs H Q E ⟨x, q0, G, _, _, h, _⟩ => by rw [h.length, hlen]) fun cdv A outer s H vs Q E hr ⟨x, q0, G, hG, hn, hv, how, h⟩ => ?_
  have o : Ok (cxOf (L2.CX P w) P w K mg base N qual scope f cdv A outer s H E) (Cf.fn (Bs.sub G H ((os0 x q0).map (·.p))) E (os0 x q0) xr) k := ⟨rfl, Sc.nd, hr, takes_of rfl rfl rfl rfl, passes_of rfl⟩
  refine ⟨_, (hb cdv A outer s H E _ x q0 o).pss, ?_⟩
  refine ⟨_, _, .refl _, st0_ok hG hn, start_sl hv (by rw [hlen, hN]; exact Nat.le_refl _), how, R.post_mono h (fun r k v H' ⟨q, S', st', ow', pv⟩ => k q v S' H' st' ow' pv) fun ε k cls d S' H' σ _ st' _ ow' hx => k cls d S' H' st' ow' hx⟩
/-- .. that hands back None at its end -/
theorem fd_okN {τ ρ π0 : Type} {x qual : Str} {params : Arguments} {body : List Stmt} {scope : Scope} {dvs : List V} {kws : List (Str × V)} {f : Addr} {fd : FuncData} {N ps : List Str} {k : Nat} {xr : Er → Value → Option Addr → Hp → Hp → Prop} {Ps : τ → π0 → List VP} {os0 : τ → π0 → OS} {m : τ → R ρ} {os1 : ρ → π0 → OS} (F : FunD K x qual params body scope dvs kws f fd) (Sc : FnScope N ps scope)
    (n : Nat) (hlen : ∀ x q0, (Ps x q0).length = ps.length) (hN : n + ps.length = N.length)
    (hb : ∀ (cdv : Value) (A : Around) (outer : List Env) (s : Shared) (H : Hp) (E : XK) (B : Bs) (x : τ) (q0 : π0), Ok (cxOf (L2.CX P w) P w K mg base N qual scope f cdv A outer s H E) (Cf.fn B E (os0 x q0) xr) k →
      HB (ρ := Unit) (cxOf (L2.CX P w) P w K mg base N qual scope f cdv A outer s H E) (Cf.fn B E (os0 x q0) xr) body (asP (Ps x q0) n) (os0 x q0) (m x) Oc.nx (NS (Cf.fn B E (os0 x q0) xr) (fun _ => []) fun r => os1 r q0) (fun _ _ _ => False)) :
    FnOk P w K mg base (L2.CX P w) (k + 1) f fd ps (spF (π := Unit) xr Ps os0 m (fun _ _ => VP.at true rNon ()) os1 fun _ _ => []) := by
  refine okXD F Sc (fun vs H Q E ⟨x, q0, G, _, _, h, _⟩ => by rw [h.length, hlen]) fun cdv A outer s H vs Q E hr ⟨x, q0, G, hG, hn, hv, how, h⟩ => ?_
  have o : Ok (cxOf (L2.CX P w) P w K mg base N qual scope f cdv A outer s H E) (Cf.fn (Bs.sub G H ((os0 x q0).map (·.p))) E (os0 x q0) xr) k := ⟨rfl, Sc.nd, hr, takes_of rfl rfl rfl rfl, passes_of rfl⟩
  refine ⟨_, (hb cdv A outer s H E _ x q0 o).pss, ?_⟩
  refine ⟨_, _, .refl _, st0_ok hG hn, start_sl hv (by rw [hlen, hN]; exact Nat.le_refl _), how, R.post_mono h (fun r k σ' H' ⟨S', _, st', _, ow'⟩ => k () .non S' H' st' ow' rfl) fun ε k cls d S' H' σ _ st' _ ow' hx => k cls d S' H' st' ow' hx⟩
/-- a def that is called by its name -/
structure Fk (P : Program) (w : World) (K : PySem.W.Frag) (mg : Str → Option Value) (base : Heap) (k : Nat) (x : Str) (ps : List Str) (sp : Sp) : Prop where
  ex : ∃ fd, FnOk P w K mg base (L2.CX P w) k (He.ga K x) fd ps sp ∧ Binds K fd ps [] ∧ (∀ (s : Shared) (us : List Value), us.length = ps.length → BindsTo s fd ⟨us, []⟩ (ps.zip us)) ∧ ∃ oc od osl, K.lookup (He.ga K x) = some ⟨oc, od, .func fd, osl⟩
  gl : mg x = some (.ref (He.ga K x))
  kp : PySem.W.keepIn K (.ref (He.ga K x)) = true
theorem Fk.top {k : Nat} {x p : Str} {sp : Sp} {h : Heap} {g : Heap → Prop} (z : ∀ base, Fk P w K mg base k x [p] sp) : ∃ fd : FuncData, (∀ (s : Shared) (v : Value), BindsTo s fd ⟨[v], []⟩ [(p, v)]) ∧ ∀ base : Heap, K.In base → base.Ns mainGlobals mg → FnOk P w K mg base (L2.CX P w) k (He.ga K x) fd [p] sp := by
  obtain ⟨fd, _, _, hb, oc, od, osl, lk⟩ := (z h).ex
  refine ⟨fd, fun s v => hb s [v] rfl, fun base _ _ => ?_⟩
  obtain ⟨fd', F', _, _, oc', od', osl', lk'⟩ := (z base).ex
  rw [lk] at lk'
  cases lk'
  exact F'
end
section
variable {ς α β γ μ ρ π τ π0 : Type} {X : Cx} {C : Cf} {as : SA} {O : ς → OS} {a b c e elt tg iter : Expr} {es : List Expr} {pos p apos : Pos} {w w1 w2 : Bool} {kn k : Nat}
theorem hg_fk {xr : Er → Value → Option Addr → Hp → Hp → Prop} {Ps : τ → List VP} {m : τ → R ρ} {Bv : ρ → π → VP} {nw : ρ → π → OS} {ps : List Str} {x : Str} {ma : SM ς τ} (F : Fk X.prog X.w X.K X.mg X.base k x ps (spF (π0 := Unit) xr (fun x _ => Ps x) (fun _ _ => []) m Bv (fun _ _ => []) nw)) (o : Ok X C kn) (hkn : k ≤ kn)
    (ha : HA X C (e :: es) as O ma Ps) (hB : ∀ r q, PGo (Bv r q)) (hf : ∀ r q, AllF (nw r q)) (hg : Gl X x := by rfl)
    (hdb : (x == ("__debug__" : Str)) = false := by decide) (he : starEach (e :: es) X.env = (false, eval e X.env) :: starEach es X.env := by rfl) (hpl : (backTo pos (starEach es X.env)).any (·.1) = false := by rfl) :
    HG X C (.Call (.Name x p) (e :: es) [] pos) as O (SM.bnd1 (fun z => (m z).calm) ma) Bv nw := by
  obtain ⟨fd, h1, h2, _⟩ := F.ex
  exact hg_call h1 o hkn F.gl F.kp h2 ha hB hf hg hdb he hpl
theorem hg_fk1 {δ : Type} {xr : Er → Value → Option Addr → Hp → Hp → Prop} {Ps : τ → Addr → List VP} {ct : δ → Ct} {sel0 : τ → δ} {m : τ → R ρ} {Bv : ρ → π → VP} {sel1 : ρ → δ} {nw : ρ → π → OS} {ps : List Str} {x : Str} {ma : SM ς β} {Pa : β → List VP}
    (F : Fk X.prog X.w X.K X.mg X.base k x ps (spF (π0 := Addr) xr Ps (fun x q => [⟨q, ct (sel0 x), false⟩]) m Bv (fun r q => [⟨q, ct (sel1 r), false⟩]) nw)) (o : Ok X C kn) (hkn : k ≤ kn)
    (i : Nat) {q0 : Addr} {fl : Bool} (sel : ς → δ) (put : ς → δ → ς) (mk : β → δ → τ) (ha : HA X C (e :: es) as O ma Pa) (hPs : ∀ z d, Ps (mk z d) q0 = Pa z) (hs0 : ∀ z d, sel0 (mk z d) = d)
    (hO : ∀ s, (O s)[i]? = some ⟨q0, ct (sel s), fl⟩) (hput : ∀ s d, (O s).set i ⟨q0, ct d, fl⟩ = O (put s d)) (hB : ∀ r q, PGo (Bv r q)) (hf : ∀ r q, AllF (nw r q)) (hg : Gl X x := by rfl)
    (hdb : (x == ("__debug__" : Str)) = false := by decide) (he : starEach (e :: es) X.env = (false, eval e X.env) :: starEach es X.env := by rfl) (hpl : (backTo pos (starEach es X.env)).any (·.1) = false := by rfl) :
    HG X C (.Call (.Name x p) (e :: es) [] pos) as O (fun s => (ma s).bind fun z => (m (mk z.1 (sel z.2))).calm.bind fun r => .ok (r, put z.2 (sel1 r))) Bv nw := by
  obtain ⟨fd, h1, h2, _⟩ := F.ex
  exact hg_call1 h1 o hkn F.gl F.kp h2 i sel put mk ha hPs hs0 hO hput hB hf hg hdb he hpl
theorem hg_fkX {xr : Er → Value → Option Addr → Hp → Hp → Prop} {Ps : τ → List VP} {m : τ → R ρ} {Bv : ρ → π → VP} {nw : ρ → π → OS} {ps : List Str} {x : Str} {ma : SM ς τ} (F : Fk X.prog X.w X.K X.mg X.base k x ps (spF (π0 := Unit) xr (fun x _ => Ps x) (fun _ _ => []) m Bv (fun _ _ => []) nw)) (o : Ok X C kn) (hkn : k ≤ kn)
    (ha : HA X C (e :: es) as O ma Ps) (hB : ∀ r q, PGo (Bv r q)) (hf : ∀ r q, AllF (nw r q))
    (hw : Wk as C.ax) (ho : ∀ s S H, OwL C.B S H (O s) → OwL C.B S H C.ox) (hx : ∀ ε cls d G H, xr ε cls d G H → C.xr ε cls d G H) (hg : Gl X x := by rfl)
    (hdb : (x == ("__debug__" : Str)) = false := by decide) (he : starEach (e :: es) X.env = (false, eval e X.env) :: starEach es X.env := by rfl) (hpl : (backTo pos (starEach es X.env)).any (·.1) = false := by rfl) :
    HG X C (.Call (.Name x p) (e :: es) [] pos) as O (SM.bnd1 m ma) Bv nw := by
  obtain ⟨fd, h1, h2, _⟩ := F.ex
  exact hg_callX h1 o hkn F.gl F.kp h2 ha hB hf hw ho hx hg hdb he hpl
/-- the end of a block within a loop -/
theorem hb_endO {T : ρ → V → Hp → Prop} {as' : μ → SA} {os' : μ → OS} {l : μ} (h : Wk as (as' l)) : HB X C [] as (os' l) (.ok (Oc.nx l)) id (NS C as' os') T := ⟨pss_weak pss_nil fun D σ H ⟨L, S, lL, st, sl, ow, q⟩ => q σ H ⟨S, lL, st, sl.wk h, ow⟩⟩
end
def noX : Er → Value → Option Addr → Hp → Hp → Prop := fun _ _ _ _ _ => False
end Y

/-! Y: rules shaped for the printed walks. -/
namespace Y
open PySem PySem.Spec PyProof.Rows L2
section
variable {ς α β γ δ μ ρ π τ π0 : Type} {X : Cx} {C : Cf} {as : SA} {O : ς → OS} {a b c e elt tg iter : Expr} {es : List Expr} {pos p apos : Pos} {w w1 w2 : Bool} {kn k : Nat} {rst body orelse : List Stmt} {N : Sv → μ → L2.St → Hp → Prop} {T : ρ → V → Hp → Prop} {ι : α → Oc μ ρ} {os : OS}
/-- a flat value hangs on no heap -/
structure FF (r : Rp α) : Prop where
  any : ∀ {a v H H'}, r.rep a v H → r.rep a v H'
theorem ffInt : FF rInt := ⟨fun h => h⟩
theorem ffStr : FF rStr := ⟨fun h => h⟩
theorem ffBl : FF rBl := ⟨fun h => h⟩
theorem ffNon : FF rNon := ⟨fun h => h⟩
theorem hx_fl {r : Rp α} {m : SM ς α} (F : FF r) (h : HX X C e as O m (VP.at w r)) : HX X C e as O m (VP.at true r) := ⟨pe_weak h.pe fun σ H Q ⟨s, S, st, sl, ow, q⟩ =>
  ⟨s, S, st, sl, ow, R.post_mono q (fun z k _ v S' H' l' st' ow' pv => k () v S' H' l' st' ow' (F.any pv)) fun _ z => xq_le z⟩⟩
/-- a part of a list that is read -/
theorem hx_cutB {r : Rp δ} {m : SM ς (List δ)} {lo hi : Option Expr} {ml mh : SM ς (Option Int)} {p2 : Pos} (ha : HX X C a as O m (VP.at w (rLst X.K r))) (hl : HO' X C lo as O ml) (hh : HO' X C hi as O mh) : HX X C (.Subscript a (.Slice lo hi none p2) pos) as O (SM.map3 cutL m ml mh) (VP.at w (rLst X.K r)) :=
  ⟨pe_weak (pe_slice sl_list ha.pe hl.po hh.po) fun σ H Q ⟨s, S, st, sl, ow, q⟩ =>
  ⟨s, S, st, sl, ow, R.post_mono (R.post_bind.mp q) (fun z k _ v S1 H1 l1 st1 ow1 pv =>
    ⟨z.2, S1, st1, sl.mono l1, ow1, R.post_mono (R.post_bind.mp k) (fun w' k2 S2 H2 l2 st2 ow2 =>
      ⟨w'.2, S2, st2, (sl.mono l1).mono l2, ow2, R.post_mono (R.post_bind.mp k2) (fun u k3 S3 H3 l3 st3 ow3 => by
        obtain ⟨p, vs, e1, hl, h3⟩ := pv
        have l13 := l2.trans l3
        refine ⟨p, vs, e1, (st3.atH w).seq ((l13.at w).seq hl), fun p' hp => ?_⟩
        have l4 : S3.le (S3.add p' (.lst (cutV vs w'.1 u.1))) := st3.leF hp
        exact k3 () (.ref p') _ _ ((l1.trans l13).trans l4) (st3.newF hp) (ow3.newF st3 hp) ⟨p', _, rfl, SqL.of (Sv.add_at w), (h3.mono ((l13.trans l4).at w)).cut _ _⟩) fun _ z => xq_le z⟩) fun _ z => xq_le z⟩) fun _ z => xq_le z⟩⟩
theorem hx_listB {r : Rp δ} {m : SM ς (List δ)} (hm : X.mg "list" = none) (ha : HX X C e as O m (VP.at w (rLst X.K r))) (hg : Gl X "list" := by rfl)
    (he : starEach [e] X.env = (false, eval e X.env) :: starEach [] X.env := by rfl) (hpl : (backTo pos (starEach [] X.env)).any (·.1) = false := by rfl) : HX X C (.Call (.Name "list" p) [e] [] pos) as O (SM.map1 id m) (VP.at w (rLst X.K r)) :=
  hg_callT (f := fun z => .ok (id z)) call_list_of (fun x vs S H os Q st ow h q => by
    obtain ⟨v, e1, pv⟩ := av1 h
    subst e1
    obtain ⟨p, vs, e2, hl, h3⟩ := pv
    subst e2
    exact ⟨p, vs, rfl, .inl ((st.atH w).seq hl), fun l hl => q.newF st ow hl ⟨l, vs, rfl, SqL.of (Sv.add_at w), h3.mono ((st.leF hl).at w)⟩⟩) hm (by decide +kernel) (ha_one ha he) hg (by decide) (by decide) he hpl

/-! ### tests that change nothing -/
theorem hb_if0 {mc : SM Unit Bool} {ma mb : R β} {k : β → R α} {as1 : β → SA} {os1 : β → OS} (hc : HT X C c as (fun _ => os) mc) (ha : HB X C body as os ma Oc.nx (NS C as1 os1) T) (hb : HB X C orelse as os mb Oc.nx (NS C as1 os1) T) (hr : ∀ l, HB X C rst (as1 l) (os1 l) (k l) ι N T) :
    HB X C (.If c body orelse pos :: rst) as os ((mc ()).bind fun z => (if z.1 = true then ma else mb).bind k) ι N T := hb_if (O := fun _ => os) (ma := fun _ => ma) (mb := fun _ => mb) hc () (fun _ => ha) (fun _ => hb) hr
theorem hb_ifR0 {mc : SM Unit Bool} {ma mr : R α} (hc : HT X C c as (fun _ => os) mc) (ha : HB X C body as os ma ι NF T) (hr : HB X C rst as os mr ι N T) :
    HB X C (.If c body [] pos :: rst) as os ((mc ()).bind fun z => if z.1 = true then ma else mr) ι N T := hb_ifR (O := fun _ => os) (ma := fun _ => ma) (mr := fun _ => mr) hc () (fun _ => ha) (fun _ => hr)
theorem hb_if20 {mc : SM Unit Bool} {ma mr : R α} (hc : HT X C c as (fun _ => os) mc) (ha : HB X C body as os ma ι NF T) (hb : HB X C orelse as os mr ι NF T) :
    HB X C (.If c body orelse pos :: rst) as os ((mc ()).bind fun z => if z.1 = true then ma else mr) ι N T := hb_if2 (O := fun _ => os) (ma := fun _ => ma) (mr := fun _ => mr) hc () (fun _ => ha) (fun _ => hb)
def whileR0 {μ' : Type} (mc : μ' → SM Unit Bool) (f : μ' → R μ') (n : Nat) (l : μ') : R μ' := (whileR (fun l => mc l ()) (fun l (_ : Unit) => f l) n l).bind fun z => .ok z.1
theorem hb_while0 {μ' : Type} {c : Expr} {mc : μ' → SM Unit Bool} {f : μ' → R μ'} {n : Nat} {l0 : μ'} {k : μ' → R α} {asL : μ' → SA} {osL : μ' → OS} (o : Ok X C kn)
    (h0 : Wk as (asL l0)) (h1 : os = osL l0) (hc : ∀ l, HT X C c (asL l) (fun _ => osL l) (mc l)) (hb : ∀ l, HB X C body (asL l) (osL l) (f l) Oc.nx (NS C asL osL) T) (hr : ∀ l, HB X C rst (asL l) (osL l) (k l) ι N T) :
    HB X C (.While c body [] pos :: rst) as os ((whileR0 mc f n l0).bind k) ι N T := by
  unfold whileR0
  rw [R.bind_assoc]
  exact hb_while (δ := Unit) (f := fun l _ => f l) (osL := fun l _ => osL l) (d0 := fun _ => ()) (k := fun z => k z.1) o h0 h1 (fun l => ⟨mc l, rfl, hc l⟩) (fun l _ => hb l) (fun z => hr z.1)
/-- the owned ones by their places -/
theorem OwL.pick {B : Bs} {S : Sv} {H : Hp} {os : OS} (h : OwL B S H os) : ∀ (is : List Nat), is.Nodup → OwL B S H (is.filterMap (os[·]?))
  | [], _ => trivial
  | i :: is, hn => by
    rw [List.nodup_cons] at hn
    have ih := OwL.pick h is hn.2
    rw [List.filterMap_cons]
    cases e : os[i]? with
    | none => exact ih
    | some u =>
      obtain ⟨h1, h2, h3⟩ := h.get e
      refine ⟨h1, h2, h3, fun q m => ?_, ih⟩
      obtain ⟨j, hj, ej⟩ := List.mem_filterMap.mp m
      exact h.apart ej e fun z => hn.1 (by rw [← z]; exact hj)
theorem hb_ow {m : R α} {os' : OS} (is : List Nat) (h : HB X C rst as os' m ι N T) (e : os' = is.filterMap (os[·]?) := by rfl) (hn : is.Nodup := by decide) : HB X C rst as os m ι N T := ⟨pss_weak h.pss fun D σ H ⟨L, S, lL, st, sl, ow, q⟩ => ⟨L, S, lL, st, sl, by rw [e]; exact ow.pick is hn, q⟩⟩
/-- what a def promises that changes one thing -/
def spM {δ : Type} (xr : Er → Value → Option Addr → Hp → Hp → Prop) (Ps : τ → Addr → List VP) (ct : δ → Ct) (sel0 : τ → δ) (m : τ → R (ρ × δ)) (Bv : ρ → π → VP) (nw : ρ → π → OS) : Sp :=
  spF (π0 := Addr) xr Ps (fun x q => [⟨q, ct (sel0 x), false⟩]) m (fun r => Bv r.1) (fun r q => [⟨q, ct r.2, false⟩]) fun r => nw r.1
/-- a call with one thing lent; what it hands back comes with that thing's new content -/
theorem hg_fkM {δ : Type} {xr : Er → Value → Option Addr → Hp → Hp → Prop} {Ps : τ → Addr → List VP} {ct : δ → Ct} {sel0 : τ → δ} {m : τ → R (ρ × δ)} {Bv : ρ → π → VP} {nw : ρ → π → OS} {ps : List Str} {x : Str} {ma : SM ς β} {Pa : β → List VP}
    (F : Fk X.prog X.w X.K X.mg X.base k x ps (spM xr Ps ct sel0 m Bv nw)) (o : Ok X C kn) (hkn : k ≤ kn)
    (i : Nat) {q0 : Addr} {fl : Bool} (sel : ς → δ) (put : ς → δ → ς) (mk : β → δ → τ) (ha : HA X C (e :: es) as O ma Pa) (hPs : ∀ z d, Ps (mk z d) q0 = Pa z := by intro _ _; rfl) (hs0 : ∀ z d, sel0 (mk z d) = d := by intro _ _; rfl)
    (hO : ∀ s, (O s)[i]? = some ⟨q0, ct (sel s), fl⟩ := by intro _; rfl) (hput : ∀ s d, (O s).set i ⟨q0, ct d, fl⟩ = O (put s d) := by intro _ _; rfl) (hB : ∀ r q, PGo (Bv r q)) (hf : ∀ r q, AllF (nw r q)) (hg : Gl X x := by rfl)
    (hdb : (x == ("__debug__" : Str)) = false := by decide) (he : starEach (e :: es) X.env = (false, eval e X.env) :: starEach es X.env := by rfl) (hpl : (backTo pos (starEach es X.env)).any (·.1) = false := by rfl) :
    HG X C (.Call (.Name x p) (e :: es) [] pos) as O (fun s => (ma s).bind fun z => (m (mk z.1 (sel z.2))).calm.bind fun r => .ok (r.1, put z.2 r.2)) Bv nw := ⟨pe_weak (hg_fk1 F o hkn i sel put mk ha hPs hs0 hO hput (fun r => hB r.1) (fun r => hf r.1) hg hdb he hpl).pe fun σ H Q ⟨s, S, st, sl, ow, q⟩ =>
  ⟨s, S, st, sl, ow, by
    have q1 := R.post_bind.mp q
    refine R.post_bind.mpr (R.post_mono q1 (fun z k => ?_) fun _ z => z)
    have k1 := R.post_bind.mp k
    exact R.post_bind.mpr (R.post_mono k1 (fun r k2 => k2) fun _ z => z)⟩⟩
end
/-- the names of built-ins are free in the module -/
structure Bi (mg : Str → Option Value) : Prop where
  len : mg "len" = none
  sum : mg "sum" = none
  min : mg "min" = none
  max : mg "max" = none
  abs : mg "abs" = none
  int : mg "int" = none
  str : mg "str" = none
  list : mg "list" = none
  tuple : mg "tuple" = none
  dict : mg "dict" = none
  bool : mg "bool" = none
  range : mg "range" = none
  enumerate : mg "enumerate" = none
  zip : mg "zip" = none
  reversed : mg "reversed" = none
  sorted : mg "sorted" = none
  isinstance : mg "isinstance" = none
  any : mg "any" = none
  all : mg "all" = none
  set : mg "set" = none
  type_ : mg "type" = none
  repr : mg "repr" = none
/-- a def of the module's top -/
structure Dfd (K : PySem.W.Frag) (mg : Str → Option Value) (x : Str) (st : Stmt) : Prop where
  fd : ∃ fd, FunD K x x (defArgs st) (defBody st) (defScope st) [] [] (He.ga K x) fd
  gl : mg x = some (.ref (He.ga K x))
theorem mkFk {P : Program} {w : World} {K : PySem.W.Frag} {mg : Str → Option Value} {base : Heap} {k : Nat} {x : Str} {st : Stmt} {ps : List Str} {sp : Sp} (D : Dfd K mg x st) (h : ∀ fd, FunD K x x (defArgs st) (defBody st) (defScope st) [] [] (He.ga K x) fd → FnOk P w K mg base (L2.CX P w) k (He.ga K x) fd ps sp)
    (hb : ∀ (kV doc pm : Value) (an : Option Addr) (cdv ct : Value) (us : List Value), us.length = ps.length → bindArgs (PySem.W.fnOf x x (defArgs st) (defBody st) (defScope st) .none kV doc pm an cdv ct) ⟨us, []⟩ = pure (ps.zip us)) : Fk P w K mg base k x ps sp := by
  obtain ⟨fd, F⟩ := D.fd
  refine ⟨⟨fd, h fd F, F.bindsN hb, F.bindsA hb, ?_⟩, D.gl, F.kp⟩
  obtain ⟨oc, od, dV, kV, doc, pm, an, cdv, ct, osl, e, lk, _⟩ := F.ex
  exact ⟨oc, od, osl, lk⟩
end Y

/-! Y: ways out of loops, exceptions by names. -/
namespace Y
open PySem PySem.Spec PyProof.Rows L2
section
variable {ς α β γ δ μ ρ π τ π0 : Type} {X : Cx} {C : Cf} {as : SA} {O : ς → OS} {a b c e elt tg iter : Expr} {es : List Expr} {pos p apos : Pos} {w w1 w2 : Bool} {kn k : Nat} {rst body orelse : List Stmt} {N : Sv → μ → L2.St → Hp → Prop} {T : ρ → V → Hp → Prop} {ι : α → Oc μ ρ} {os : OS}
def ocB {μ' : Type} (o : Oc μ' ρ) (k : μ' → R α) (kr : ρ → α) : R α := match o with
  | .nx l => k l
  | .rt r => .ok (kr r)
theorem hb_forY {m : SM ς (List β)} {P : β → VP} {μ' : Type} {f : μ' → β → R (Oc μ' ρ)} {l0 : ς → μ'} {k : μ' → R α} {kr : ρ → α} {asL : μ' → SA} {osL : μ' → OS} {asT : μ' → β → SA} {ts : List Nat} (o : Ok X C kn) (hi : HI X C tg e as O m P) (s : ς)
    (h0 : ∀ s', Wk as (asL (l0 s'))) (h1 : ∀ s', O s' = osL (l0 s')) (ht : ∀ l a, HTg X C tg (asL l) (P a) ts (asT l a)) (hb : ∀ l a, HB X C body (asT l a) (osL l) (f l a) id (NS C asL osL) T) (hr : ∀ l, HB X C rst (asL l) (osL l) (k l) ι N T) (hk : ∀ r, ι (kr r) = .rt r := by intro _; rfl)
    (hs : ∀ x, foldedSetIterable e X.env x = pure x := by intro _; rfl) :
    HB X C (.For tg e body [] pos :: rst) as (O s) ((m s).bind fun z => (forR f (l0 z.2) z.1).bind fun o => ocB o k kr) ι N T := hb_forX o hi s h0 h1 ht hb hr hk hs
theorem hb_seqY {μ' : Type} {st : Stmt} {m : R (Oc μ' ρ)} {as1 : μ' → SA} {os1 : μ' → OS} {k : μ' → R α} {kr : ρ → α} (h : HS X C st as os m id (NS C as1 os1) T) (hr : ∀ l, HB X C rst (as1 l) (os1 l) (k l) ι N T) (hk : ∀ r, ι (kr r) = .rt r := by intro _; rfl) :
    HB X C (st :: rst) as os (m.bind fun o => ocB o k kr) ι N T := hb_seq h hr hk
/-- a test as a single statement -/
theorem hs_if {mc : SM Unit Bool} {μ' : Type} {ma mb : R (Oc μ' ρ)} {as1 : μ' → SA} {os1 : μ' → OS} (hc : HT X C c as (fun _ => os) mc) (ha : HB X C body as os ma id (NS C as1 os1) T) (hb : HB X C orelse as os mb id (NS C as1 os1) T) :
    HS X C (.If c body orelse pos) as os ((mc ()).bind fun z => if z.1 = true then ma else mb) id (NS C as1 os1) T :=
  ⟨ps_weak (ps_if hc.pt ha.pss hb.pss) fun D σ H ⟨L, S, lL, st, sl, ow, q⟩ =>
    ⟨(), S, st, sl, ow, R.post_mono (R.post_bind.mp q) (fun z k' S' H' l' st' ow' => by
      by_cases hz : z.1 = true
      · rw [if_pos hz] at k' ⊢
        exact ⟨L, S', lL.trans l', st', sl.mono l', ow', k'⟩
      · rw [if_neg hz] at k' ⊢
        exact ⟨L, S', lL.trans l', st', sl.mono l', ow', k'⟩) fun _ z => xq_le z⟩⟩
/-- an own exception class -/
structure Xd (K : PySem.W.Frag) (mg : Str → Option Value) (x : Str) : Prop where
  c : (He.Fa.exc x).ok K = true
  gl : mg x = some (.ref (He.ga K x))
def Xd.er (K : PySem.W.Frag) (x : Str) (cls : Value) : Prop := cls = .ref (He.ga K x)
theorem hb_raiseN {m : Str} {x : Str} {j : Nat} {p p2 cpos pos : Pos} {ε : Er} (o : Ok X C kn) (D : Xd X.K X.mg x)
    (hw : Wk as C.ax) (ho : ∀ S H, OwL C.B S H os → OwL C.B S H C.ox) (hx : ∀ G H, C.xr ε (.ref (He.ga X.K x)) none G H) (hg : Gl X x := by rfl) (hdb : (x == ("__debug__" : Str)) = false := by decide) :
    HB X C (.Raise (some (.Call (.Name x p) [.Constant (.str m) j p2] [] cpos)) none pos :: rst) as os (.ex ε) ι N T := by
  obtain ⟨h1, h2, h3, h4⟩ := He.exc_ok D.c
  exact hb_raise o PySem.F.excBase_ValueError h1 D.gl h2 (raises_own h3 h4) hw ho (fun S H _ => hx _ _) hg hdb
theorem Xd.names {x : Str} (D : Xd X.K X.mg x) (hg : Gl X x) (hdb : (x == ("__debug__" : Str)) = false := by decide) : Names X x (.ref (He.ga X.K x)) := ⟨hg, hdb, .inl D.gl⟩
/-- a written list's length -/
def dispR {δ : Type} (xs : List δ) : R (List δ) := (R.guard (xs.length ≤ 16777216)).bind fun _ => .ok xs
theorem hn_lstD {m : SM ς (List δ)} {r : Rp δ} (h : HA X C es as O m (fun xs => xs.map (VP.at true r))) : HN X C (.List es pos) as O (SM.bnd1 dispR m) (cLst r) := hn_lst h
/-- a part of a tuple that is plain data -/
theorem hx_tixW {Ps : α → List VP} {r : Rp δ} {x : δ} {k : Nat} {m : SM ς α} {j : Nat} {pi : Pos} (hc : ∀ y, (Ps y)[k]? = some (VP.at w r x)) (ha : HX X C a as O m (fun y => VP.tup X.K (Ps y))) :
    HX X C (.Subscript a (.Constant (.int (k : Int)) j pi) pos) as O (SM.map1 (fun _ => x) m) (VP.at w r) := ⟨pe_weak (hx_tixV (P := fun _ => VP.at w r x) hc ha).pe fun σ H Q ⟨s, S, st, sl, ow, q⟩ => ⟨s, S, st, sl, ow, R.post_bind.mp q⟩⟩
/-- a part of an owned list -/
theorem hn_cutO {rp : Rp δ} {q0 : Addr} {fl : Bool} {x : Str} {px p2 : Pos} {lo hi : Option Expr} {ml mh : SM ς (Option Int)} (i j : Nat) (sel : ς → List δ) (hl : HO' X C lo as O ml) (hh : HO' X C hi as O mh) (h : as[i]? = some (some (VP.ptr q0)) := by rfl) (hO : ∀ s, (O s)[j]? = some ⟨q0, cLst rp (sel s), fl⟩ := by intro _; rfl)
    (hN : X.N[i]? = some x := by rfl) (hvis : Vis X.env.scope x := by first | exact Or.inl rfl | exact Or.inr (Or.inl rfl) | exact Or.inr (Or.inr rfl)) (hd : (x == ("__debug__" : Str)) = false := by decide) (hcd : (x == ("__classdict__" : Str)) = false := by decide) :
    HN X C (.Subscript (.Name x px) (.Slice lo hi none p2) pos) as O (fun s => (ml s).bind fun z => (mh z.2).bind fun y => .ok (cutL (sel y.2) z.1 y.1, y.2)) (cLst rp) := ⟨pe_weak (pe_slice sl_list (hx_ptr (O := O) (C := C) (as := as) i h hN hvis hd hcd).pe hl.po hh.po) fun σ H Q ⟨s, S, st, sl, ow, q⟩ =>
  ⟨s, S, st, sl, ow, fun _ v S1 H1 l1 st1 ow1 p1 => ⟨s, S1, st1, sl.mono l1, ow1, R.post_mono (R.post_bind.mp q) (fun z k S2 H2 l2 st2 ow2 => ⟨z.2, S2, st2, (sl.mono l1).mono l2, ow2, R.post_mono (R.post_bind.mp k) (fun y k2 S3 H3 l3 st3 ow3 => by
    have p1 : v = .ref q0 := p1
    subst p1
    obtain ⟨_, ⟨o, ho, vs0, eo, hA⟩, _⟩ := ow3.get (hO y.2)
    have eo : o = .lst vs0 := eo
    subst eo
    exact ⟨q0, vs0, rfl, SqL.of ho, fun p' hp => k2 p' (.ref p') S3 _ ((l1.trans l2).trans l3) (st3.grow hp) (ow3.new st3 hp ⟨_, rfl, A2.cut hA _ _⟩) rfl⟩) fun _ z => xq_le z⟩) fun _ z => xq_le z⟩⟩⟩
theorem hn_dnilT {κ : Type} {kt : KT κ} {r : Rp δ} : HN X C (.Dict [] [] pos) as O (SM.ret ([] : List (κ × δ))) (cDicT kt r) := ⟨pe_weak pe_dnewT fun σ H Q ⟨s, S, st, sl, ow, q⟩ p hp => q p (.ref p) S _ (.refl S) (st.grow hp) (ow.new st hp ⟨[], rfl, trivial⟩) rfl⟩
end
def VP.fls : VP := ⟨fun _ _ => False, fun _ h => h⟩
def K0 : PySem.W.Frag := []
end Y

/-! Y: the law's own walk, where what a def may let out hangs on the world. -/
namespace Y
open PySem PySem.Spec PyProof.Rows L2
theorem walk_ofW {l : PySem.W.OpenLaw} {n k : Nat} {q : Program} {loose : List Str} {XP : (Str → Option Value) → Heap → Prop} {YP : World → Heap → Prop} {d : DefRec} {CX : World → CXT} {x : Str}
    (hn : l.most = some n) (hn2 : n ≤ sizeLine) (hdf : d.params.defaults = []) (hr : Room k callerA)
    (F : ∀ (w : World) (mg : Str → Option Value) (fa : Addr) (h : Heap), YP w h → h.Ns mainGlobals mg → mg d.name = some (.ref fa) →
      ∃ (K : PySem.W.Frag) (fd : FuncData) (sp : Sp), K.In h ∧ (∀ (s : Shared) (u : Value), BindsTo s fd ⟨[u], []⟩ [(x, u)]) ∧
        (∀ (H : Hp) (a : Addr) (ns : List Int), ns.length ≤ n → Only H → SqL K H a (ns.map V.int) → sp [.ref a] H (fun v _ => v = .bl true) fun _ _ _ => False) ∧
        ∀ base : Heap, K.In base → base.Ns mainGlobals mg → FnOk l.prog w K mg base (CX w) k fa fd [x] sp)
    (hCX : ∀ (w : World) (H : Hp) (s : Shared) (e : Value) (s' : Shared), CX w [] H s (fun _ _ _ => False) e s' → False) :
    PySem.W.WalkO q loose XP YP l.row.toRowW d [] (fun f vs => PySem.call f vs) := by
  refine Att.attach_call hn hdf fun w s₀ s₁ mg mb fa o pm cd doc a vs ns G Y ho hd hcd hmg hobj hints hlen hg => ?_
  obtain ⟨K, fd, sp, KX, hb, hsp, hF⟩ := F w mg fa _ Y G.T.g hmg
  exact law_call KX G.T.g G.T.b G.T.builtins G.T.nolimit hg hobj hints (Nat.le_trans hlen hn2) hr hF hb (fun H hO hS => hsp H a ns hlen hO hS) fun H e s' => hCX w H s₁ e s'
theorem cx_none {P : Program} {w : World} {H : Hp} {s : Shared} {e : Value} {s' : Shared} (h : L2.CX P w [] H s (fun _ _ _ => False) e s') : False := by
  obtain ⟨_, _, _, _, _, _, _, _, _, _, _, _, z⟩ := h
  exact z
end Y

/-! Y: the mirrors read. -/
namespace Y
open PySem PySem.Spec PyProof.Rows L2
section
variable {ς α β γ δ : Type}
@[simp] theorem sm_ret (a : α) (s : ς) : SM.ret a s = .ok (a, s) := Eq.trans rfl rfl
@[simp] theorem sm_map1 (f : α → β) (m : SM ς α) (s : ς) : SM.map1 f m s = (m s).bind fun z => .ok (f z.1, z.2) := Eq.trans rfl rfl
@[simp] theorem sm_bnd1 (f : α → R β) (m : SM ς α) (s : ς) : SM.bnd1 f m s = (m s).bind fun z => (f z.1).bind fun b => .ok (b, z.2) := Eq.trans rfl rfl
@[simp] theorem sm_map2 (f : α → β → γ) (m : SM ς α) (n : SM ς β) (s : ς) : SM.map2 f m n s = (m s).bind fun z => (n z.2).bind fun w => .ok (f z.1 w.1, w.2) := Eq.trans rfl rfl
@[simp] theorem sm_bnd2 (f : α → β → R γ) (m : SM ς α) (n : SM ς β) (s : ς) : SM.bnd2 f m n s = (m s).bind fun z => (n z.2).bind fun w => (f z.1 w.1).bind fun c => .ok (c, w.2) := Eq.trans rfl rfl
@[simp] theorem sm_map3 (f : α → β → γ → δ) (m : SM ς α) (n : SM ς β) (o : SM ς γ) (s : ς) : SM.map3 f m n o s = (m s).bind fun z => (n z.2).bind fun w => (o w.2).bind fun u => .ok (f z.1 w.1 u.1, u.2) := Eq.trans rfl rfl
@[simp] theorem sm_and (m n : SM ς Bool) (s : ς) : SM.and m n s = (m s).bind fun z => if z.1 = true then n z.2 else .ok (false, z.2) := Eq.trans rfl rfl
@[simp] theorem sm_or (m n : SM ς Bool) (s : ς) : SM.or m n s = (m s).bind fun z => if z.1 = true then .ok (true, z.2) else n z.2 := Eq.trans rfl rfl
@[simp] theorem sm_not (m : SM ς Bool) (s : ς) : SM.not m s = (m s).bind fun z => .ok (!z.1, z.2) := Eq.trans rfl rfl
@[simp] theorem sm_pk (m : ς → SM Unit α) (s : ς) : SM.pk m s = ((m s) ()).calm.bind fun z => .ok (z.1, s) := Eq.trans rfl rfl
end
theorem filter_tt {α : Type} (xs : List α) : (xs.filter fun _ => true) = xs := List.filter_eq_self.mpr fun _ _ => rfl
theorem p62 : (2 : Int) ^ 62 = 4611686018427387904 := by decide
theorem p63 : (2 : Int) ^ 63 = 9223372036854775808 := by decide
theorem p64 : (2 : Int) ^ 64 = 18446744073709551616 := by decide
theorem rng1_ok {j : Int} (h0 : -1000000000 ≤ j) (h1 : j < 1000000000) : rng1 j = .ok (rangeL 0 j) := by
  unfold rng1
  rw [R.guard_true (by rw [p62]; exact ⟨by omega, by omega⟩)]
  rfl
theorem rng2_ok {i j : Int} (h0 : -1000000000 ≤ i) (h1 : i < 1000000000) (h2 : -1000000000 ≤ j) (h3 : j < 1000000000) : rng2 i j = .ok (rangeL i j) := by
  unfold rng2
  rw [R.guard_true (by rw [p62]; exact ⟨by omega, by omega, by omega, by omega⟩)]
  rfl
theorem mulR_ok {i j : Int} (h : (-18446744073709551616 < i ∧ i < 18446744073709551616) ∨ (-18446744073709551616 < j ∧ j < 18446744073709551616)) : mulR i j = .ok (i * j) := by
  unfold mulR
  rw [R.guard_true (by unfold CMul; rw [p64]; exact h)]
  rfl
theorem modR_ok {i j : Int} (h : 0 < j) : modR i j = .ok (i % j) := by
  unfold modR
  rw [R.guard_true h]; rfl
theorem divR_ok {i j : Int} (h : 0 < j) (hl : j.natAbs.log2 < 9000) : divR i j = .ok (i / j) := by
  unfold divR
  rw [R.guard_true (show CDivW i j from ⟨h, hl⟩)]; rfl
theorem shlR_ok {n : Nat} (h : n ≤ 64) : shlR 1 (n : Int) = .ok (((2 ^ n : Nat)) : Int) := by
  unfold shlR
  rw [R.guard_true (show CPow 1 (n : Int) from ⟨by omega, by omega, by decide⟩), R.bind_ok]
  congr 1
  rw [Int.toNat_natCast, Int.one_mul]
  push_cast; rfl
theorem pk_eq {ς α : Type} (m : ς → SM Unit α) (s : ς) : SM.pk m s = ((m s) ()).calm.bind fun z => .ok (z.1, s) := rfl
theorem R.calm_bind {α β : Type} (m : R α) (f : α → R β) : (m.bind f).calm = m.calm.bind fun a => (f a).calm := by cases m <;> rfl
theorem R.calm_calm {α : Type} (m : R α) : m.calm.calm = m.calm := by cases m <;> rfl
theorem R.calm_ofO {α : Type} (o : Option α) : (R.ofO o).calm = R.ofO o := by cases o <;> rfl
theorem R.calm_guard {c : Prop} [Decidable c] : (R.guard c).calm = R.guard c := by unfold R.guard; split <;> rfl
theorem R.calm_ite {α : Type} {c : Prop} [Decidable c] (a b : R α) : (if c then a else b).calm = if c then a.calm else b.calm := by split <;> rfl
theorem R.ite_bind {α β : Type} {c : Prop} [Decidable c] (a b : R α) (f : α → R β) : (if c then a else b).bind f = if c then a.bind f else b.bind f := by split <;> rfl
/-- a comprehension whose parts are plain -/
theorem lcS_ok {ς α β : Type} {t : α → SM ς Bool} {f : α → SM ς β} {p : α → Bool} {g : α → β} (s : ς) : ∀ (xs : List α) (ys : List β), (∀ x ∈ xs, t x s = .ok (p x, s)) → (∀ x ∈ xs, p x = true → f x s = .ok (g x, s)) → ys.length + xs.length ≤ 16777216 → lcS t f xs ys s = .ok (ys ++ (xs.filter p).map g, s)
  | [], ys, _, _, _ => by simp [lcS]
  | x :: xs, ys, ht, hf, hl => by
    rw [List.length_cons] at hl
    unfold lcS
    rw [ht x List.mem_cons_self, R.calm_ok, R.bind_ok]
    cases hp : p x with
    | false =>
      rw [if_neg (by simp)]
      rw [lcS_ok s xs ys (fun y m => ht y (List.mem_cons_of_mem _ m)) (fun y m => hf y (List.mem_cons_of_mem _ m)) (by omega), List.filter_cons_of_neg (by simp [hp])]
    | true =>
      rw [if_pos rfl, hf x List.mem_cons_self hp, R.calm_ok, R.bind_ok, R.guard_true (by omega), R.bind_ok]
      rw [lcS_ok s xs _ (fun y m => ht y (List.mem_cons_of_mem _ m)) (fun y m => hf y (List.mem_cons_of_mem _ m)) (by simp; omega), List.filter_cons_of_pos (by simp [hp])]
      simp
theorem lc_ok {ς α β : Type} {m : SM ς (List α)} {t : α → SM ς Bool} {f : α → SM ς β} {p : α → Bool} {g : α → β} {s s' : ς} {xs : List α} (hm : m s = .ok (xs, s')) (ht : ∀ x ∈ xs, t x s' = .ok (p x, s')) (hf : ∀ x ∈ xs, p x = true → f x s' = .ok (g x, s')) (hl : xs.length ≤ 16777216) : SM.lc m t f s = .ok ((xs.filter p).map g, s') := by
  unfold SM.lc
  rw [hm, R.bind_ok, lcS_ok s' xs [] ht hf (by simpa using hl)]
  rfl
theorem foldR_ok {μ β : Type} {f : μ → β → R μ} {g : μ → β → μ} (I : μ → Prop) : ∀ (xs : List β) (l : μ), I l → (∀ l, I l → ∀ x ∈ xs, f l x = .ok (g l x) ∧ I (g l x)) → foldR f l xs = .ok (xs.foldl g l) ∧ I (xs.foldl g l)
  | [], l, h, _ => ⟨rfl, h⟩
  | x :: xs, l, h, hf => by
    obtain ⟨h1, h2⟩ := hf l h x List.mem_cons_self
    unfold foldR
    rw [h1, R.bind_ok]
    exact foldR_ok I xs (g l x) h2 fun l hl y m => hf l hl y (List.mem_cons_of_mem _ m)
/-- a loop with an invariant by places -/
theorem foldR_inv {μ β : Type} {f : μ → β → R μ} (I : Nat → μ → Prop) : ∀ (xs : List β) (n : Nat) (l : μ), I n l → (∀ i l x, I (n + i) l → xs[i]? = some x → ∃ l', f l x = .ok l' ∧ I (n + i + 1) l') → ∃ l', foldR f l xs = .ok l' ∧ I (n + xs.length) l'
  | [], n, l, h, _ => ⟨l, rfl, h⟩
  | x :: xs, n, l, h, hf => by
    obtain ⟨l1, h1, h2⟩ := hf 0 l x h rfl
    obtain ⟨l2, h3, h4⟩ := foldR_inv I xs (n + 1) l1 h2 fun i l y hi hy => by
      obtain ⟨l', a, b⟩ := hf (i + 1) l y (by rw [show n + (i + 1) = n + 1 + i by omega]; exact hi) hy
      exact ⟨l', a, by rw [show n + 1 + i + 1 = n + (i + 1) + 1 by omega]; exact b⟩
    refine ⟨l2, ?_, by rw [List.length_cons, show n + (xs.length + 1) = n + 1 + xs.length by omega]; exact h4⟩
    unfold foldR
    rw [h1, R.bind_ok, h3]
/-- a loop that goes on to its end -/
theorem forR_inv {μ β ρ : Type} {f : μ → β → R (Oc μ ρ)} (I : Nat → μ → Prop) : ∀ (xs : List β) (n : Nat) (l : μ), I n l → (∀ i l x, I (n + i) l → xs[i]? = some x → ∃ l', f l x = .ok (.nx l') ∧ I (n + i + 1) l') → ∃ l', forR f l xs = .ok (.nx l') ∧ I (n + xs.length) l'
  | [], n, l, h, _ => ⟨l, rfl, h⟩
  | x :: xs, n, l, h, hf => by
    obtain ⟨l1, h1, h2⟩ := hf 0 l x h rfl
    obtain ⟨l2, h3, h4⟩ := forR_inv I xs (n + 1) l1 h2 fun i l y hi hy => by
      obtain ⟨l', a, b⟩ := hf (i + 1) l y (by rw [show n + (i + 1) = n + 1 + i by omega]; exact hi) hy
      exact ⟨l', a, by rw [show n + 1 + i + 1 = n + (i + 1) + 1 by omega]; exact b⟩
    refine ⟨l2, ?_, by rw [List.length_cons, show n + (xs.length + 1) = n + 1 + xs.length by omega]; exact h4⟩
    unfold forR
    rw [h1, R.bind_ok]
    exact h3
end Y

namespace K57
open PySem PySem.Spec PyProof.Rows L2 Y
def top (i : Nat) : Stmt := PySem.Challenge.pw_layerdraw_k57_a_long_fixed_row.main.body.getD i (.Pass ⟨0, 0, 0, 0⟩)
def xrTM (K : PySem.W.Frag) : Er → Value → Option Addr → Hp → Hp → Prop := fun ε cls d _ _ => ε = ⟨1, .no⟩ ∧ cls = .ref (He.ga K "TooMany") ∧ d = none
section
variable {P : Program} {w : World} {K : PySem.W.Frag} {mg : Str → Option Value} {base : Heap}
abbrev s_places_of : Stmt := top 4
theorem sc_places_of : FnScope ["row", "found", "place", "mark"] ["row"] (defScope s_places_of) := ⟨rfl, rfl, rfl, by decide +kernel, rfl, by decide +kernel, by decide +kernel⟩
def places_of_b10 (l4 : (List (Str × Int))) (a5 : (Int × Str)) : R (List (Str × Int)) :=
  ((SM.ret a5.1) (l4)).bind fun z7 => ((SM.ret a5.2) z7.2).bind fun y8 => (dputR ((fun (s : (List (Str × Int))) => s) y8.2) y8.1 z7.1).bind fun l9 => (fun (s6 : (List (Str × Int))) =>
  R.ok (s6)) (l9)
def places_of (x : (List Str)) : R (List (Str × Int)) :=
  ((SM.ret ([] : (List (Str × Int)))) ()).bind fun z1 =>
  ((SM.map1 enumL (SM.ret x)) ()).bind fun z3 => (foldR places_of_b10 (z1.1) z3.1).bind fun l4 =>
  ((SM.ret ()) ()).bind fun z => R.ok l4
abbrev places_of_sp (K : PySem.W.Frag) : Sp := (spF (π0 := Unit) (π := Addr) noX (fun (x : (List Str)) _ => [VP.at false (rLst K rStr) (x)]) (fun _ _ => []) places_of (fun (r : (List (Str × Int))) q => VP.ptr q) (fun _ _ => []) fun r q => ([⟨q, cDic kStr rInt (r), true⟩] : OS))
theorem fk_places_of (bi : Bi mg) (D : Dfd K mg "places_of" s_places_of) : Fk P w K mg base 1 "places_of" ["row"] (places_of_sp K) :=
  mkFk D (fun fd F => fd_ok F sc_places_of 3 (fun _ _ => rfl) rfl fun cdv A outer s H E B x q0 o =>
  hb_asg (ς := Unit) (O := (fun (_ : Unit) => ([] : OS))) 1 o.nd (hn_dnil (kk := kStr) (r := rInt)) () (fun z1 q2 =>
  hb_for (ς := Unit) (O := (fun (_ : Unit) => ([⟨q2, cDic kStr rInt (z1.1), true⟩] : OS))) (P := VP.at false (rTup K (RT.cons rInt (RT.one rStr)))) (l0 := (fun (s : Unit) => (z1.1))) (asL := (fun l4 => [some (VP.at false (rLst K rStr) (x)), some (VP.ptr q2), none, none])) (osL := (fun l4 => ([⟨q2, cDic kStr rInt (l4), true⟩] : OS))) (f := places_of_b10) o (hi_enum bi.enumerate (hx_var (w := false) (r := (rLst K rStr)) 0)) () (by exact fun _ => ⟨.inr rfl, ⟨.inr rfl, ⟨.inl rfl, ⟨.inl rfl, trivial⟩⟩⟩⟩) (fun _ => rfl) (fun l4 a5 => (htg_tup (t := (RT.cons rInt (RT.one rStr))) (by exact o.calm) (htgs_cons (htg_name 2 (by exact o.nd)) (htgs_cons (htg_name 3 (by exact o.nd)) htgs_nil)))) (fun l4 a5 =>
  hb_putD (kk := kStr) (r := rInt) (ς := (List (Str × Int))) (O := (fun (s : (List (Str × Int))) => ([⟨q2, cDic kStr rInt (s), true⟩] : OS))) (kf := fun (s6 : (List (Str × Int))) => _) o 1 0 (fun (s : (List (Str × Int))) => s) (fun (s : (List (Str × Int))) (d : (List (Str × Int))) => (d)) (hx_fl ffInt (hx_var (w := false) (r := rInt) 2)) (hx_fl ffStr (hx_var (w := false) (r := rStr) 3)) (l4) (fun s6 =>
  hb_end (as' := (fun l4 => [some (VP.at false (rLst K rStr) (x)), some (VP.ptr q2), none, none])) (os' := (fun l4 => ([⟨q2, cDic kStr rInt (l4), true⟩] : OS))) (l := (s6)) (by exact ⟨.inr rfl, ⟨.inr rfl, ⟨.inl rfl, ⟨.inl rfl, trivial⟩⟩⟩⟩))) (fun l4 =>
  hb_ret (ς := Unit) (O := (fun (_ : Unit) => ([⟨q2, cDic kStr rInt (l4), true⟩] : OS))) (hx_ptr 1) () (fun _ => rfl) (fun z q v S H st ow pv => ⟨q2, S, st, ow, pv⟩)))) (fun _ _ _ _ _ _ us hl => match us, hl with | [_], _ => rfl)
abbrev s_cross : Stmt := top 5
theorem sc_cross : FnScope ["one", "other", "tops", "lows", "up", "down"] ["one", "other", "tops", "lows"] (defScope s_cross) := ⟨rfl, rfl, rfl, by decide +kernel, rfl, by decide +kernel, by decide +kernel⟩
def cross (x : ((Str × Str) × (Str × Str) × (List (Str × Int)) × (List (Str × Int)))) : R Bool :=
  ((SM.map2 (· - ·) (SM.bnd2 (fun d k => R.ofO (dget d k)) (SM.ret x.2.2.1) (SM.map1 (fun (x : (Str × Str)) => x.1) (SM.ret x.1))) (SM.bnd2 (fun d k => R.ofO (dget d k)) (SM.ret x.2.2.1) (SM.map1 (fun (x : (Str × Str)) => x.1) (SM.ret x.2.1)))) ()).bind fun z1 =>
  ((SM.map2 (· - ·) (SM.bnd2 (fun d k => R.ofO (dget d k)) (SM.ret x.2.2.2) (SM.map1 (fun (x : (Str × Str)) => x.2) (SM.ret x.1))) (SM.bnd2 (fun d k => R.ofO (dget d k)) (SM.ret x.2.2.2) (SM.map1 (fun (x : (Str × Str)) => x.2) (SM.ret x.2.1)))) ()).bind fun z3 =>
  ((SM.or (SM.and (SM.map2 ltB (SM.ret z1.1) (SM.ret (0 : Int))) (SM.map2 gtB (SM.ret z3.1) (SM.ret (0 : Int)))) (SM.and (SM.map2 gtB (SM.ret z1.1) (SM.ret (0 : Int))) (SM.map2 ltB (SM.ret z3.1) (SM.ret (0 : Int))))) ()).bind fun z => R.ok z.1
abbrev cross_sp (K : PySem.W.Frag) : Sp := (spF (π0 := Unit) (π := Unit) noX (fun (x : ((Str × Str) × (Str × Str) × (List (Str × Int)) × (List (Str × Int)))) _ => [VP.at true (rTup K (RT.cons rStr (RT.one rStr))) (x.1), VP.at true (rTup K (RT.cons rStr (RT.one rStr))) (x.2.1), VP.at false (rDic kStr rInt) (x.2.2.1), VP.at false (rDic kStr rInt) (x.2.2.2)]) (fun _ _ => []) cross (fun (r : Bool) q => VP.at true rBl r) (fun _ _ => []) fun r q => ([] : OS))
theorem fk_cross (bi : Bi mg) (D : Dfd K mg "cross" s_cross) : Fk P w K mg base 1 "cross" ["one", "other", "tops", "lows"] (cross_sp K) :=
  mkFk D (fun fd F => fd_ok F sc_cross 2 (fun _ _ => rfl) rfl fun cdv A outer s H E B x q0 o =>
  hb_asg (ς := Unit) (O := (fun (_ : Unit) => ([] : OS))) 4 o.nd (hx_sub (hx_fl ffInt (hx_dget o (hx_var (w := false) (r := (rDic kStr rInt)) 2) (hx_tix (t := (RT.cons rStr (RT.one rStr))) (k := 0) (f := (fun (x : (Str × Str)) => x.1)) tg_0 (hx_var (w := true) (r := (rTup K (RT.cons rStr (RT.one rStr)))) 0)))) (hx_fl ffInt (hx_dget o (hx_var (w := false) (r := (rDic kStr rInt)) 2) (hx_tix (t := (RT.cons rStr (RT.one rStr))) (k := 0) (f := (fun (x : (Str × Str)) => x.1)) tg_0 (hx_var (w := true) (r := (rTup K (RT.cons rStr (RT.one rStr)))) 1))))) () (fun z1 q2 =>
  hb_asg (ς := Unit) (O := (fun (_ : Unit) => ([] : OS))) 5 o.nd (hx_sub (hx_fl ffInt (hx_dget o (hx_var (w := false) (r := (rDic kStr rInt)) 3) (hx_tix (t := (RT.cons rStr (RT.one rStr))) (k := 1) (f := (fun (x : (Str × Str)) => x.2)) (tg_s tg_one) (hx_var (w := true) (r := (rTup K (RT.cons rStr (RT.one rStr)))) 0)))) (hx_fl ffInt (hx_dget o (hx_var (w := false) (r := (rDic kStr rInt)) 3) (hx_tix (t := (RT.cons rStr (RT.one rStr))) (k := 1) (f := (fun (x : (Str × Str)) => x.2)) (tg_s tg_one) (hx_var (w := true) (r := (rTup K (RT.cons rStr (RT.one rStr)))) 1))))) () (fun z3 q4 =>
  hb_ret (ς := Unit) (O := (fun (_ : Unit) => ([] : OS))) (hx_orV (hx_andV (hx_lt (hx_var (w := true) (r := rInt) 4) hx_int) (hx_one (hx_gt (hx_var (w := true) (r := rInt) 5) hx_int))) (hx_one (hx_andV (hx_gt (hx_var (w := true) (r := rInt) 4) hx_int) (hx_one (hx_lt (hx_var (w := true) (r := rInt) 5) hx_int))))) () (fun _ => rfl) (fun z q v S H st ow pv => ⟨(), S, st, trivial, pv⟩)))) (fun _ _ _ _ _ _ us hl => match us, hl with | [_, _, _, _], _ => rfl)
abbrev s_crossings : Stmt := top 6
theorem sc_crossings : FnScope ["upper", "lower", "lines", "tops", "lows", "found", "k", "line", "other"] ["upper", "lower", "lines"] (defScope s_crossings) := ⟨rfl, rfl, rfl, by decide +kernel, rfl, by decide +kernel, by decide +kernel⟩
def crossings_b16 (z1 : (List (Str × Int)) × Unit) (z3 : (List (Str × Int)) × Unit) (a9 : (Int × (Str × Str))) (l11 : Int) (a12 : (Str × Str)) : R Int :=
  ((SM.bnd1 (fun z => (cross z).calm) (SM.map2 Prod.mk (SM.ret a9.2) (SM.map2 Prod.mk (SM.ret a12) (SM.map2 Prod.mk (SM.ret z1.1) (SM.ret z3.1))))) ()).bind fun z => (if z.1 = true then
  ((SM.map1 (fun b => l11 + b) (SM.ret (1 : Int))) ()).bind fun z15 =>
  R.ok (z15.1) else
  R.ok (l11)).bind fun l14 =>
  R.ok (l14)
def crossings_b17 (x : ((List Str) × (List Str) × (List (Str × Str)))) (z1 : (List (Str × Int)) × Unit) (z3 : (List (Str × Int)) × Unit) (l8 : Int) (a9 : (Int × (Str × Str))) : R Int :=
  ((SM.map3 cutL (SM.ret x.2.2) (SM.ret none) (SM.map1 some (SM.ret a9.1))) ()).bind fun z10 => (foldR (crossings_b16 z1 z3 a9) (l8) z10.1).bind fun l11 =>
  R.ok (l11)
def crossings (x : ((List Str) × (List Str) × (List (Str × Str)))) : R Int :=
  ((SM.bnd1 (fun z => (places_of z).calm) (SM.ret x.1)) ()).bind fun z1 =>
  ((SM.bnd1 (fun z => (places_of z).calm) (SM.ret x.2.1)) ()).bind fun z3 =>
  ((SM.ret (0 : Int)) ()).bind fun z5 =>
  ((SM.map1 enumL (SM.ret x.2.2)) ()).bind fun z7 => (foldR (crossings_b17 x z1 z3) (z5.1) z7.1).bind fun l8 =>
  ((SM.ret l8) ()).bind fun z => R.ok z.1
abbrev crossings_sp (K : PySem.W.Frag) : Sp := (spF (π0 := Unit) (π := Unit) noX (fun (x : ((List Str) × (List Str) × (List (Str × Str)))) _ => [VP.at false (rLst K rStr) (x.1), VP.at false (rLst K rStr) (x.2.1), VP.at true (rLst K (rTup K (RT.cons rStr (RT.one rStr)))) (x.2.2)]) (fun _ _ => []) crossings (fun (r : Int) q => VP.at true rInt r) (fun _ _ => []) fun r q => ([] : OS))
theorem fk_crossings (bi : Bi mg) (D : Dfd K mg "crossings" s_crossings) (fk_places_of_h : Fk P w K mg base 1 "places_of" ["row"] (places_of_sp K)) (fk_cross_h : Fk P w K mg base 1 "cross" ["one", "other", "tops", "lows"] (cross_sp K)) : Fk P w K mg base 2 "crossings" ["upper", "lower", "lines"] (crossings_sp K) :=
  mkFk D (fun fd F => fd_ok F sc_crossings 6 (fun _ _ => rfl) rfl fun cdv A outer s H E B x q0 o =>
  hb_asg (ς := Unit) (O := (fun (_ : Unit) => ([] : OS))) 3 o.nd (HG.frzD (f := id) (hg_fk fk_places_of_h o (by decide) (ha_one (hx_var (w := false) (r := (rLst K rStr)) 0)) (fun _ _ => pg_ptr) (fun _ _ => allF_cons allF_nil))) () (fun z1 q2 =>
  hb_asg (ς := Unit) (O := (fun (_ : Unit) => ([] : OS))) 4 o.nd (HG.frzD (f := id) (hg_fk fk_places_of_h o (by decide) (ha_one (hx_var (w := false) (r := (rLst K rStr)) 1)) (fun _ _ => pg_ptr) (fun _ _ => allF_cons allF_nil))) () (fun z3 q4 =>
  hb_asg (ς := Unit) (O := (fun (_ : Unit) => ([] : OS))) 5 o.nd hx_int () (fun z5 q6 =>
  hb_for (ς := Unit) (O := (fun (_ : Unit) => ([] : OS))) (P := VP.at true (rTup K (RT.cons rInt (RT.one (rTup K (RT.cons rStr (RT.one rStr))))))) (l0 := (fun (s : Unit) => (z5.1))) (asL := (fun l8 => [some (VP.at false (rLst K rStr) (x.1)), some (VP.at false (rLst K rStr) (x.2.1)), some (VP.at true (rLst K (rTup K (RT.cons rStr (RT.one rStr)))) (x.2.2)), some (VP.at true (rDic kStr rInt) (z1.1)), some (VP.at true (rDic kStr rInt) (z3.1)), some (VP.at true rInt (l8)), none, none, none])) (osL := (fun l8 => ([] : OS))) (f := (crossings_b17 x z1 z3)) o (hi_enum bi.enumerate (hx_var (w := true) (r := (rLst K (rTup K (RT.cons rStr (RT.one rStr))))) 2)) () (by exact fun _ => ⟨.inr rfl, ⟨.inr rfl, ⟨.inr rfl, ⟨.inr rfl, ⟨.inr rfl, ⟨.inr rfl, ⟨.inl rfl, ⟨.inl rfl, ⟨.inl rfl, trivial⟩⟩⟩⟩⟩⟩⟩⟩⟩) (fun _ => rfl) (fun l8 a9 => (htg_tup (t := (RT.cons rInt (RT.one (rTup K (RT.cons rStr (RT.one rStr)))))) (by exact o.calm) (htgs_cons (htg_name 6 (by exact o.nd)) (htgs_cons (htg_name 7 (by exact o.nd)) htgs_nil)))) (fun l8 a9 =>
  hb_for (ς := Unit) (O := (fun (_ : Unit) => ([] : OS))) (P := VP.at true (rTup K (RT.cons rStr (RT.one rStr)))) (l0 := (fun (s : Unit) => (l8))) (asL := (fun l11 => [some (VP.at false (rLst K rStr) (x.1)), some (VP.at false (rLst K rStr) (x.2.1)), some (VP.at true (rLst K (rTup K (RT.cons rStr (RT.one rStr)))) (x.2.2)), some (VP.at true (rDic kStr rInt) (z1.1)), some (VP.at true (rDic kStr rInt) (z3.1)), some (VP.at true rInt (l11)), some (VP.at true rInt (a9.1)), some (VP.at true (rTup K (RT.cons rStr (RT.one rStr))) (a9.2)), none])) (osL := (fun l11 => ([] : OS))) (f := (crossings_b16 z1 z3 a9)) o (hi_list (HG.frzL (f := id) (hn_cut (hx_var (w := true) (r := (rLst K (rTup K (RT.cons rStr (RT.one rStr))))) 2) ho_none (ho_some (hx_var (w := true) (r := rInt) 6))))) () (by exact fun _ => ⟨.inr rfl, ⟨.inr rfl, ⟨.inr rfl, ⟨.inr rfl, ⟨.inr rfl, ⟨.inr rfl, ⟨.inr rfl, ⟨.inr rfl, ⟨.inl rfl, trivial⟩⟩⟩⟩⟩⟩⟩⟩⟩) (fun _ => rfl) (fun l11 a12 => (htg_name 8 (by exact o.nd))) (fun l11 a12 =>
  hb_if0 (as1 := (fun l14 => [some (VP.at false (rLst K rStr) (x.1)), some (VP.at false (rLst K rStr) (x.2.1)), some (VP.at true (rLst K (rTup K (RT.cons rStr (RT.one rStr)))) (x.2.2)), some (VP.at true (rDic kStr rInt) (z1.1)), some (VP.at true (rDic kStr rInt) (z3.1)), some (VP.at true rInt (l14)), some (VP.at true rInt (a9.1)), some (VP.at true (rTup K (RT.cons rStr (RT.one rStr))) (a9.2)), some (VP.at true (rTup K (RT.cons rStr (RT.one rStr))) (a12))])) (os1 := (fun l14 => ([] : OS))) (ht_val (hg_fk fk_cross_h o (by decide) (ha_cons (hx_var (w := true) (r := (rTup K (RT.cons rStr (RT.one rStr)))) 7) (ha_cons (hx_var (w := true) (r := (rTup K (RT.cons rStr (RT.one rStr)))) 8) (ha_cons (hx_bor (hx_var (w := true) (r := (rDic kStr rInt)) 3)) (ha_one (hx_bor (hx_var (w := true) (r := (rDic kStr rInt)) 4)))))) (fun _ _ => pg_at) (fun _ _ => allF_nil))) (
  hb_augI (ς := Unit) (O := (fun (_ : Unit) => ([] : OS))) 5 o.nd rfl hx_int () (fun z15 =>
  hb_end (as' := (fun l14 => [some (VP.at false (rLst K rStr) (x.1)), some (VP.at false (rLst K rStr) (x.2.1)), some (VP.at true (rLst K (rTup K (RT.cons rStr (RT.one rStr)))) (x.2.2)), some (VP.at true (rDic kStr rInt) (z1.1)), some (VP.at true (rDic kStr rInt) (z3.1)), some (VP.at true rInt (l14)), some (VP.at true rInt (a9.1)), some (VP.at true (rTup K (RT.cons rStr (RT.one rStr))) (a9.2)), some (VP.at true (rTup K (RT.cons rStr (RT.one rStr))) (a12))])) (os' := (fun l14 => ([] : OS))) (l := (z15.1)) (by exact ⟨.inr rfl, ⟨.inr rfl, ⟨.inr rfl, ⟨.inr rfl, ⟨.inr rfl, ⟨.inr rfl, ⟨.inr rfl, ⟨.inr rfl, ⟨.inr rfl, trivial⟩⟩⟩⟩⟩⟩⟩⟩⟩))) (
  hb_end (as' := (fun l14 => [some (VP.at false (rLst K rStr) (x.1)), some (VP.at false (rLst K rStr) (x.2.1)), some (VP.at true (rLst K (rTup K (RT.cons rStr (RT.one rStr)))) (x.2.2)), some (VP.at true (rDic kStr rInt) (z1.1)), some (VP.at true (rDic kStr rInt) (z3.1)), some (VP.at true rInt (l14)), some (VP.at true rInt (a9.1)), some (VP.at true (rTup K (RT.cons rStr (RT.one rStr))) (a9.2)), some (VP.at true (rTup K (RT.cons rStr (RT.one rStr))) (a12))])) (os' := (fun l14 => ([] : OS))) (l := (l11)) (by exact ⟨.inr rfl, ⟨.inr rfl, ⟨.inr rfl, ⟨.inr rfl, ⟨.inr rfl, ⟨.inr rfl, ⟨.inr rfl, ⟨.inr rfl, ⟨.inr rfl, trivial⟩⟩⟩⟩⟩⟩⟩⟩⟩)) (fun l14 =>
  hb_end (as' := (fun l11 => [some (VP.at false (rLst K rStr) (x.1)), some (VP.at false (rLst K rStr) (x.2.1)), some (VP.at true (rLst K (rTup K (RT.cons rStr (RT.one rStr)))) (x.2.2)), some (VP.at true (rDic kStr rInt) (z1.1)), some (VP.at true (rDic kStr rInt) (z3.1)), some (VP.at true rInt (l11)), some (VP.at true rInt (a9.1)), some (VP.at true (rTup K (RT.cons rStr (RT.one rStr))) (a9.2)), none])) (os' := (fun l11 => ([] : OS))) (l := (l14)) (by exact ⟨.inr rfl, ⟨.inr rfl, ⟨.inr rfl, ⟨.inr rfl, ⟨.inr rfl, ⟨.inr rfl, ⟨.inr rfl, ⟨.inr rfl, ⟨.inl rfl, trivial⟩⟩⟩⟩⟩⟩⟩⟩⟩))) (fun l11 =>
  hb_end (as' := (fun l8 => [some (VP.at false (rLst K rStr) (x.1)), some (VP.at false (rLst K rStr) (x.2.1)), some (VP.at true (rLst K (rTup K (RT.cons rStr (RT.one rStr)))) (x.2.2)), some (VP.at true (rDic kStr rInt) (z1.1)), some (VP.at true (rDic kStr rInt) (z3.1)), some (VP.at true rInt (l8)), none, none, none])) (os' := (fun l8 => ([] : OS))) (l := (l11)) (by exact ⟨.inr rfl, ⟨.inr rfl, ⟨.inr rfl, ⟨.inr rfl, ⟨.inr rfl, ⟨.inr rfl, ⟨.inl rfl, ⟨.inl rfl, ⟨.inl rfl, trivial⟩⟩⟩⟩⟩⟩⟩⟩⟩))) (fun l8 =>
  hb_ret (ς := Unit) (O := (fun (_ : Unit) => ([] : OS))) (hx_var (w := true) (r := rInt) 5) () (fun _ => rfl) (fun z q v S H st ow pv => ⟨(), S, st, trivial, pv⟩)))))) (fun _ _ _ _ _ _ us hl => match us, hl with | [_, _, _], _ => rfl)
abbrev s_ends_of : Stmt := top 9
theorem sc_ends_of : FnScope ["fixed", "free", "lines", "places", "mark", "one", "other"] ["fixed", "free", "lines"] (defScope s_ends_of) := ⟨rfl, rfl, rfl, by decide +kernel, rfl, by decide +kernel, by decide +kernel⟩
def ends_of (x : ((List Str) × (List Str) × (List (Str × Str)))) : R (List (List Int)) :=
  ((SM.bnd1 (fun z => (places_of z).calm) (SM.ret x.1)) ()).bind fun z1 =>
  ((SM.lc (SM.ret x.2.1) (fun (a3 : Str) => (SM.ret true)) (fun a3 => (SM.lc (SM.ret x.2.2) (fun (a4 : (Str × Str)) => (SM.map2 eqS (SM.ret a4.2) (SM.ret a3))) (fun a4 => (SM.bnd2 (fun d k => R.ofO (dget d k)) (SM.ret z1.1) (SM.ret a4.1)))))) ()).bind fun z => R.ok z.1
abbrev ends_of_sp (K : PySem.W.Frag) : Sp := (spF (π0 := Unit) (π := Unit) noX (fun (x : ((List Str) × (List Str) × (List (Str × Str)))) _ => [VP.at false (rLst K rStr) (x.1), VP.at false (rLst K rStr) (x.2.1), VP.at true (rLst K (rTup K (RT.cons rStr (RT.one rStr)))) (x.2.2)]) (fun _ _ => []) ends_of (fun (r : (List (List Int))) q => VP.at true (rLst K (rLst K rInt)) r) (fun _ _ => []) fun r q => ([] : OS))
theorem fk_ends_of (bi : Bi mg) (D : Dfd K mg "ends_of" s_ends_of) (fk_places_of_h : Fk P w K mg base 1 "places_of" ["row"] (places_of_sp K)) : Fk P w K mg base 2 "ends_of" ["fixed", "free", "lines"] (ends_of_sp K) :=
  mkFk D (fun fd F => fd_ok F sc_ends_of 4 (fun _ _ => rfl) rfl fun cdv A outer s H E B x q0 o =>
  hb_asg (ς := Unit) (O := (fun (_ : Unit) => ([] : OS))) 3 o.nd (HG.frzD (f := id) (hg_fk fk_places_of_h o (by decide) (ha_one (hx_var (w := false) (r := (rLst K rStr)) 0)) (fun _ _ => pg_ptr) (fun _ _ => allF_cons allF_nil))) () (fun z1 q2 =>
  hb_ret (ς := Unit) (O := (fun (_ : Unit) => ([] : OS))) (HG.frzL (f := id) (hn_lc o (Lcp.mk ⟨VP.at false rStr, [4], _, (hi_list (hx_var (w := false) (r := (rLst K rStr)) 1)), blkOk_by (own := [("mark", 4)]) (by rfl), (by decide), fun _ _ _ _ _ _ a3 => (htg_name 4 (by exact o.nd)), fun _ _ _ _ _ _ a3 => hts_nil, fun _ _ _ _ _ _ a3 => (HG.frzL (f := id) (hn_lc (Ok.blk o) (Lcp.mk ⟨VP.at true (rTup K (RT.cons rStr (RT.one rStr))), [5, 6], _, (hi_list (hx_var (w := true) (r := (rLst K (rTup K (RT.cons rStr (RT.one rStr))))) 2)), blkOk_by (own := [("one", 5), ("other", 6)]) (by rfl), (by decide), fun _ _ _ _ _ _ a4 => (htg_tup (t := (RT.cons rStr (RT.one rStr))) (by exact o.calm) (htgs_cons (htg_name 5 (by exact o.nd)) (htgs_cons (htg_name 6 (by exact o.nd)) htgs_nil))), fun _ _ _ _ _ _ a4 => (hts_one (ht_eqS (hx_var (w := true) (r := rStr) 6) (hx_fl ffStr (hx_var (w := false) (r := rStr) 4)))), fun _ _ _ _ _ _ a4 => (hx_dget (Ok.blk (Ok.blk o)) (hx_var (w := true) (r := (rDic kStr rInt)) 3) (hx_var (w := true) (r := rStr) 5))⟩)))⟩))) () (fun _ => rfl) (fun z q v S H st ow pv => ⟨(), S, st, trivial, pv⟩))) (fun _ _ _ _ _ _ us hl => match us, hl with | [_, _, _], _ => rfl)
abbrev s_cost : Stmt := top 10
theorem sc_cost : FnScope ["ends", "ahead", "behind", "a", "b"] ["ends", "ahead", "behind"] (defScope s_cost) := ⟨rfl, rfl, rfl, by decide +kernel, rfl, by decide +kernel, by decide +kernel⟩
def cost (x : ((List (List Int)) × Int × Int)) : R Int :=
  ((SM.map1 List.sum (SM.lc (SM.bnd2 getI (SM.ret x.1) (SM.ret x.2.1)) (fun (a1 : Int) => (SM.ret true)) (fun a1 => (SM.map1 (fun xs => (xs.length : Int)) (SM.lc (SM.bnd2 getI (SM.ret x.1) (SM.ret x.2.2)) (fun (a2 : Int) => (SM.map2 ltB (SM.ret a2) (SM.ret a1))) (fun a2 => (SM.ret a2))))))) ()).bind fun z => R.ok z.1
abbrev cost_sp (K : PySem.W.Frag) : Sp := (spF (π0 := Unit) (π := Unit) noX (fun (x : ((List (List Int)) × Int × Int)) _ => [VP.at true (rLst K (rLst K rInt)) (x.1), VP.at true rInt (x.2.1), VP.at true rInt (x.2.2)]) (fun _ _ => []) cost (fun (r : Int) q => VP.at true rInt r) (fun _ _ => []) fun r q => ([] : OS))
theorem fk_cost (bi : Bi mg) (D : Dfd K mg "cost" s_cost) : Fk P w K mg base 1 "cost" ["ends", "ahead", "behind"] (cost_sp K) :=
  mkFk D (fun fd F => fd_ok F sc_cost 2 (fun _ _ => rfl) rfl fun cdv A outer s H E B x q0 o =>
  hb_ret (ς := Unit) (O := (fun (_ : Unit) => ([] : OS))) (hx_sum (by exact o.calm) bi.sum (HG.frzL (f := id) (hn_lc o (Lcp.mk ⟨VP.at true rInt, [3], _, (hi_list (hx_idx (hx_var (w := true) (r := (rLst K (rLst K rInt))) 0) (hx_var (w := true) (r := rInt) 1))), blkOk_by (own := [("a", 3)]) (by rfl), (by decide), fun _ _ _ _ _ _ a1 => (htg_name 3 (by exact o.nd)), fun _ _ _ _ _ _ a1 => hts_nil, fun _ _ _ _ _ _ a1 => (hx_lenL bi.len (HG.frzL (f := id) (hn_lc (Ok.blk o) (Lcp.mk ⟨VP.at true rInt, [4], _, (hi_list (hx_idx (hx_var (w := true) (r := (rLst K (rLst K rInt))) 0) (hx_var (w := true) (r := rInt) 2))), blkOk_by (own := [("b", 4)]) (by rfl), (by decide), fun _ _ _ _ _ _ a2 => (htg_name 4 (by exact o.nd)), fun _ _ _ _ _ _ a2 => (hts_one (ht_lt (hx_var (w := true) (r := rInt) 4) (hx_var (w := true) (r := rInt) 3))), fun _ _ _ _ _ _ a2 => (hx_var (w := true) (r := rInt) 4)⟩))))⟩)))) () (fun _ => rfl) (fun z q v S H st ow pv => ⟨(), S, st, trivial, pv⟩)) (fun _ _ _ _ _ _ us hl => match us, hl with | [_, _, _], _ => rfl)
abbrev s_members : Stmt := top 11
theorem sc_members : FnScope ["some", "many", "h"] ["some", "many"] (defScope s_members) := ⟨rfl, rfl, rfl, by decide +kernel, rfl, by decide +kernel, by decide +kernel⟩
def members (x : (Int × Int)) : R (List Int) :=
  ((SM.lc (SM.bnd1 rng1 (SM.ret x.2)) (fun (a1 : Int) => (SM.map2 eqB (SM.map2 Builtin.bitAnd (SM.bnd2 shrR (SM.ret x.1) (SM.ret a1)) (SM.ret (1 : Int))) (SM.ret (1 : Int)))) (fun a1 => (SM.ret a1))) ()).bind fun z => R.ok z.1
abbrev members_sp (K : PySem.W.Frag) : Sp := (spF (π0 := Unit) (π := Unit) noX (fun (x : (Int × Int)) _ => [VP.at true rInt (x.1), VP.at true rInt (x.2)]) (fun _ _ => []) members (fun (r : (List Int)) q => VP.at true (rLst K rInt) r) (fun _ _ => []) fun r q => ([] : OS))
theorem fk_members (bi : Bi mg) (D : Dfd K mg "members" s_members) : Fk P w K mg base 1 "members" ["some", "many"] (members_sp K) :=
  mkFk D (fun fd F => fd_ok F sc_members 1 (fun _ _ => rfl) rfl fun cdv A outer s H E B x q0 o =>
  hb_ret (ς := Unit) (O := (fun (_ : Unit) => ([] : OS))) (HG.frzL (f := id) (hn_lc o (Lcp.mk ⟨VP.at true rInt, [2], _, (hi_range1 bi.range (hx_var (w := true) (r := rInt) 1)), blkOk_by (own := [("h", 2)]) (by rfl), (by decide), fun _ _ _ _ _ _ a1 => (htg_name 2 (by exact o.nd)), fun _ _ _ _ _ _ a1 => (hts_one (ht_eq (hx_and (hx_shr (hx_var (w := true) (r := rInt) 0) (hx_var (w := true) (r := rInt) 2)) hx_int) hx_int)), fun _ _ _ _ _ _ a1 => (hx_var (w := true) (r := rInt) 2)⟩))) () (fun _ => rfl) (fun z q v S H st ow pv => ⟨(), S, st, trivial, pv⟩)) (fun _ _ _ _ _ _ us hl => match us, hl with | [_, _], _ => rfl)
abbrev s_entry : Stmt := top 12
theorem sc_entry : FnScope ["table", "ends", "some", "last", "rest", "g"] ["table", "ends", "some", "last"] (defScope s_entry) := ⟨rfl, rfl, rfl, by decide +kernel, rfl, by decide +kernel, by decide +kernel⟩
def entry (x : ((List (Int × Int)) × (List (List Int)) × Int × Int)) : R Int :=
  ((SM.bnd1 (fun z => (members z).calm) (SM.map2 Prod.mk (SM.map2 (· - ·) (SM.ret x.2.2.1) (SM.bnd2 shlR (SM.ret (1 : Int)) (SM.ret x.2.2.2))) (SM.map1 (fun xs => (xs.length : Int)) (SM.ret x.2.1)))) ()).bind fun z1 =>
  ((SM.map2 (· + ·) (SM.bnd2 (fun d k => R.ofO (dget d k)) (SM.ret x.1) (SM.map2 (· - ·) (SM.ret x.2.2.1) (SM.bnd2 shlR (SM.ret (1 : Int)) (SM.ret x.2.2.2)))) (SM.map1 List.sum (SM.lc (SM.ret z1.1) (fun (a3 : Int) => (SM.ret true)) (fun a3 => (SM.bnd1 (fun z => (cost z).calm) (SM.map2 Prod.mk (SM.ret x.2.1) (SM.map2 Prod.mk (SM.ret a3) (SM.ret x.2.2.2)))))))) ()).bind fun z => R.ok z.1
abbrev entry_sp (K : PySem.W.Frag) : Sp := (spF (π0 := Unit) (π := Unit) noX (fun (x : ((List (Int × Int)) × (List (List Int)) × Int × Int)) _ => [VP.at false (rDic kInt rInt) (x.1), VP.at true (rLst K (rLst K rInt)) (x.2.1), VP.at true rInt (x.2.2.1), VP.at true rInt (x.2.2.2)]) (fun _ _ => []) entry (fun (r : Int) q => VP.at true rInt r) (fun _ _ => []) fun r q => ([] : OS))
theorem fk_entry (bi : Bi mg) (D : Dfd K mg "entry" s_entry) (fk_members_h : Fk P w K mg base 1 "members" ["some", "many"] (members_sp K)) (fk_cost_h : Fk P w K mg base 1 "cost" ["ends", "ahead", "behind"] (cost_sp K)) : Fk P w K mg base 2 "entry" ["table", "ends", "some", "last"] (entry_sp K) :=
  mkFk D (fun fd F => fd_ok F sc_entry 2 (fun _ _ => rfl) rfl fun cdv A outer s H E B x q0 o =>
  hb_asg (ς := Unit) (O := (fun (_ : Unit) => ([] : OS))) 4 o.nd (hg_fk fk_members_h o (by decide) (ha_cons (hx_sub (hx_var (w := true) (r := rInt) 2) (hx_shl hx_int (hx_var (w := true) (r := rInt) 3))) (ha_one (hx_lenL bi.len (hx_var (w := true) (r := (rLst K (rLst K rInt))) 1)))) (fun _ _ => pg_at) (fun _ _ => allF_nil)) () (fun z1 q2 =>
  hb_ret (ς := Unit) (O := (fun (_ : Unit) => ([] : OS))) (hx_add (hx_fl ffInt (hx_dget o (hx_var (w := false) (r := (rDic kInt rInt)) 0) (hx_sub (hx_var (w := true) (r := rInt) 2) (hx_shl hx_int (hx_var (w := true) (r := rInt) 3))))) (hx_sum (by exact o.calm) bi.sum (HG.frzL (f := id) (hn_lc o (Lcp.mk ⟨VP.at true rInt, [5], _, (hi_list (hx_var (w := true) (r := (rLst K rInt)) 4)), blkOk_by (own := [("g", 5)]) (by rfl), (by decide), fun _ _ _ _ _ _ a3 => (htg_name 5 (by exact o.nd)), fun _ _ _ _ _ _ a3 => hts_nil, fun _ _ _ _ _ _ a3 => (hg_fk fk_cost_h (Ok.blk o) (by decide) (ha_cons (hx_var (w := true) (r := (rLst K (rLst K rInt))) 1) (ha_cons (hx_var (w := true) (r := rInt) 5) (ha_one (hx_var (w := true) (r := rInt) 3)))) (fun _ _ => pg_at) (fun _ _ => allF_nil))⟩))))) () (fun _ => rfl) (fun z q v S H st ow pv => ⟨(), S, st, trivial, pv⟩))) (fun _ _ _ _ _ _ us hl => match us, hl with | [_, _, _, _], _ => rfl)
abbrev s_least_order : Stmt := top 13
theorem sc_least_order : FnScope ["fixed", "free", "lines", "many", "ends", "table", "some", "last", "order", "left", "number", "h"] ["fixed", "free", "lines"] (defScope s_least_order) := ⟨rfl, rfl, rfl, by decide +kernel, rfl, by decide +kernel, by decide +kernel⟩
def least_order_b16 (z1 : Int × Unit) (z3 : (List (List Int)) × Unit) (l8 : (List (Int × Int))) (a9 : Int) : R (List (Int × Int)) :=
  ((SM.pk fun t10 => (SM.bnd1 minL (SM.lc (SM.bnd1 (fun z => (members z).calm) (SM.map2 Prod.mk (SM.ret a9) (SM.ret z1.1))) (fun (a11 : Int) => (SM.ret true)) (fun a11 => (SM.bnd1 (fun z => (entry z).calm) (SM.map2 Prod.mk (SM.ret t10) (SM.map2 Prod.mk (SM.ret z3.1) (SM.map2 Prod.mk (SM.ret a9) (SM.ret a11))))))))) (l8)).bind fun z13 => ((SM.ret a9) z13.2).bind fun y14 => (dputR ((fun (s : (List (Int × Int))) => s) y14.2) y14.1 z13.1).bind fun l15 => (fun (s12 : (List (Int × Int))) =>
  R.ok (s12)) (l15)
def least_order_w33 (x : ((List Str) × (List Str) × (List (Str × Str)))) (z1 : Int × Unit) (z3 : (List (List Int)) × Unit) (l8 : (List (Int × Int))) (l24 : (Int × (List Str))) : R (Int × (List Str)) :=
  ((SM.pk fun t26 => (SM.bnd2 getI (SM.lc (SM.bnd1 (fun z => (members z).calm) (SM.map2 Prod.mk (SM.ret l24.1) (SM.ret z1.1))) (fun (a27 : Int) => (SM.map2 eqB (SM.bnd1 (fun z => (entry z).calm) (SM.map2 Prod.mk (SM.ret l8) (SM.map2 Prod.mk (SM.ret z3.1) (SM.map2 Prod.mk (SM.ret l24.1) (SM.ret a27))))) (SM.bnd2 (fun d k => R.ofO (dget d k)) (SM.ret l8) (SM.ret l24.1)))) (fun a27 => (SM.ret a27))) (SM.ret (0 : Int)))) ()).bind fun z25 =>
  ((fun s => ((SM.map2 Prod.mk (SM.ret (0 : Int)) (SM.bnd2 getI (SM.ret x.2.1) (SM.ret z25.1))) s).bind fun z => (insR ((fun (s : (List Str)) => s) z.2) z.1).bind fun r => R.ok (r.1, (fun (s : (List Str)) (d : (List Str)) => (d)) z.2 r.2)) (l24.2)).bind fun z29 =>
  ((SM.map2 (· - ·) (SM.ret l24.1) (SM.bnd2 shlR (SM.ret (1 : Int)) (SM.ret z25.1))) ()).bind fun z31 =>
  R.ok (z31.1, z29.2)
def least_order_c34 (l24 : (Int × (List Str))) : SM Unit Bool :=
  (SM.map2 gtB (SM.ret l24.1) (SM.ret (0 : Int)))
def least_order (x : ((List Str) × (List Str) × (List (Str × Str)))) : R (Int × (List Str) × (List (Int × Int))) :=
  ((SM.map1 (fun xs => (xs.length : Int)) (SM.ret x.2.1)) ()).bind fun z1 =>
  ((SM.map2 gtB (SM.ret z1.1) (SM.ret (8 : Int))) ()).bind fun z => if z.1 = true then
  R.ex ⟨1, .no⟩ else
  ((SM.bnd1 (fun z => (ends_of z).calm) (SM.map2 Prod.mk (SM.ret x.1) (SM.map2 Prod.mk (SM.ret x.2.1) (SM.ret x.2.2)))) ()).bind fun z3 =>
  ((fun s => (SM.map2 (fun k v => [(k, v)]) (SM.ret (0 : Int)) (SM.ret (0 : Int)) s).calm) ()).bind fun z5 =>
  ((SM.bnd2 rng2 (SM.ret (1 : Int)) (SM.bnd2 shlR (SM.ret (1 : Int)) (SM.ret z1.1))) ()).bind fun z7 => (foldR (least_order_b16 z1 z3) (z5.1) z7.1).bind fun l8 =>
  ((SM.ret ([] : (List Str))) ()).bind fun z17 =>
  ((SM.map2 (· - ·) (SM.bnd2 shlR (SM.ret (1 : Int)) (SM.ret z1.1)) (SM.ret (1 : Int))) ()).bind fun z19 =>
  ((SM.pk fun t22 => (SM.bnd2 (fun d k => R.ofO (dget d k)) (SM.ret l8) (SM.ret z19.1))) ()).bind fun z21 =>
  (whileR0 least_order_c34 (least_order_w33 x z1 z3 l8) ((z19.1).toNat + 1) (z19.1, z17.1)).bind fun (l24 : (Int × (List Str))) =>
  ((SM.map2 Prod.mk (SM.ret z21.1) (SM.map2 Prod.mk (SM.ret ()) (SM.ret ()))) ()).bind fun z => R.ok ((z.1.1, l24.2, l8))
abbrev least_order_sp (K : PySem.W.Frag) : Sp := (spF (π0 := Unit) (π := (Addr × Addr)) (xrTM K) (fun (x : ((List Str) × (List Str) × (List (Str × Str)))) _ => [VP.at true (rLst K rStr) (x.1), VP.at true (rLst K rStr) (x.2.1), VP.at true (rLst K (rTup K (RT.cons rStr (RT.one rStr)))) (x.2.2)]) (fun _ _ => []) least_order (fun (r : (Int × (List Str) × (List (Int × Int)))) q => VP.tup K [VP.at true rInt (r.1), VP.ptr q.1, VP.ptr q.2]) (fun _ _ => []) fun r q => ([⟨q.1, cLst rStr (r.2.1), true⟩, ⟨q.2, cDic kInt rInt (r.2.2), true⟩] : OS))
theorem fk_least_order (bi : Bi mg) (D : Dfd K mg "least_order" s_least_order) (gc_MOST : ∃ t, mg "MOST" = some (.int 8 t)) (xd_TooMany : Xd K mg "TooMany") (fk_ends_of_h : Fk P w K mg base 2 "ends_of" ["fixed", "free", "lines"] (ends_of_sp K)) (fk_members_h : Fk P w K mg base 1 "members" ["some", "many"] (members_sp K)) (fk_entry_h : Fk P w K mg base 2 "entry" ["table", "ends", "some", "last"] (entry_sp K)) : Fk P w K mg base 3 "least_order" ["fixed", "free", "lines"] (least_order_sp K) :=
  mkFk D (fun fd F => fd_ok F sc_least_order 9 (fun _ _ => rfl) rfl fun cdv A outer s H E B x q0 o =>
  hb_asg (ς := Unit) (O := (fun (_ : Unit) => ([] : OS))) 3 o.nd (hx_lenL bi.len (hx_var (w := true) (r := (rLst K rStr)) 1)) () (fun z1 q2 =>
  hb_ifR0 (ht_gt (hx_var (w := true) (r := rInt) 3) (hx_glob (i := 8) gc_MOST)) (
  hb_raiseN o xd_TooMany trivial (fun _ _ _ => trivial) (by intro _ _; exact ⟨rfl, rfl, rfl⟩)) (
  hb_asg (ς := Unit) (O := (fun (_ : Unit) => ([] : OS))) 4 o.nd (hg_fk fk_ends_of_h o (by decide) (ha_cons (hx_bor (hx_var (w := true) (r := (rLst K rStr)) 0)) (ha_cons (hx_bor (hx_var (w := true) (r := (rLst K rStr)) 1)) (ha_one (hx_var (w := true) (r := (rLst K (rTup K (RT.cons rStr (RT.one rStr))))) 2)))) (fun _ _ => pg_at) (fun _ _ => allF_nil)) () (fun z3 q4 =>
  hb_asg (ς := Unit) (O := (fun (_ : Unit) => ([] : OS))) 5 o.nd (hn_done (kk := kInt) (fun _ => hx_int) (fun _ => hx_int)) () (fun z5 q6 =>
  hb_for (ς := Unit) (O := (fun (_ : Unit) => ([⟨q6, cDic kInt rInt (z5.1), true⟩] : OS))) (P := VP.at true rInt) (l0 := (fun (s : Unit) => (z5.1))) (asL := (fun l8 => [some (VP.at true (rLst K rStr) (x.1)), some (VP.at true (rLst K rStr) (x.2.1)), some (VP.at true (rLst K (rTup K (RT.cons rStr (RT.one rStr)))) (x.2.2)), some (VP.at true rInt (z1.1)), some (VP.at true (rLst K (rLst K rInt)) (z3.1)), some (VP.ptr q6), none, none, none, none, none, none])) (osL := (fun l8 => ([⟨q6, cDic kInt rInt (l8), true⟩] : OS))) (f := (least_order_b16 z1 z3)) o (hi_range2 bi.range hx_int (hx_shl hx_int (hx_var (w := true) (r := rInt) 3))) () (by exact fun _ => ⟨.inr rfl, ⟨.inr rfl, ⟨.inr rfl, ⟨.inr rfl, ⟨.inr rfl, ⟨.inr rfl, ⟨.inl rfl, ⟨.inl rfl, ⟨.inl rfl, ⟨.inl rfl, ⟨.inl rfl, ⟨.inl rfl, trivial⟩⟩⟩⟩⟩⟩⟩⟩⟩⟩⟩⟩) (fun _ => rfl) (fun l8 a9 => (htg_name 6 (by exact o.nd))) (fun l8 a9 =>
  hb_putD (kk := kInt) (r := rInt) (ς := (List (Int × Int))) (O := (fun (s : (List (Int × Int))) => ([⟨q6, cDic kInt rInt (s), true⟩] : OS))) (kf := fun (s12 : (List (Int × Int))) => _) o 5 0 (fun (s : (List (Int × Int))) => s) (fun (s : (List (Int × Int))) (d : (List (Int × Int))) => (d)) (hx_pk (fun (t10 : (List (Int × Int))) => [none, none, none, some (VP.at true rInt (z1.1)), some (VP.at true (rLst K (rLst K rInt)) (z3.1)), some (VP.at false (rDic kInt rInt) (t10)), some (VP.at true rInt (a9)), none, none, none, none, none]) _ (by exact fun _ => ⟨.no, ⟨.no, ⟨.no, ⟨.same, ⟨.same, ⟨pk_dic 0, ⟨.same, ⟨.no, ⟨.no, ⟨.no, ⟨.no, ⟨.no, trivial⟩⟩⟩⟩⟩⟩⟩⟩⟩⟩⟩⟩) fun _ _ => (hx_minL (by exact o.calm) bi.min (HG.frzL (f := id) (hn_lc (Ok.pk o _) (Lcp.mk ⟨VP.at true rInt, [7], _, (hi_list (hg_fk fk_members_h (Ok.pk o _) (by decide) (ha_cons (hx_var (w := true) (r := rInt) 6) (ha_one (hx_var (w := true) (r := rInt) 3))) (fun _ _ => pg_at) (fun _ _ => allF_nil))), blkOk_by (own := [("last", 7)]) (by rfl), (by decide), fun _ _ _ _ _ _ a11 => (htg_name 7 (by exact o.nd)), fun _ _ _ _ _ _ a11 => hts_nil, fun _ _ _ _ _ _ a11 => (hg_fk fk_entry_h (Ok.blk (Ok.pk o _)) (by decide) (ha_cons (hx_var (w := false) (r := (rDic kInt rInt)) 5) (ha_cons (hx_var (w := true) (r := (rLst K (rLst K rInt))) 4) (ha_cons (hx_var (w := true) (r := rInt) 6) (ha_one (hx_var (w := true) (r := rInt) 7))))) (fun _ _ => pg_at) (fun _ _ => allF_nil))⟩))))) (hx_var (w := true) (r := rInt) 6) (l8) (fun s12 =>
  hb_end (as' := (fun l8 => [some (VP.at true (rLst K rStr) (x.1)), some (VP.at true (rLst K rStr) (x.2.1)), some (VP.at true (rLst K (rTup K (RT.cons rStr (RT.one rStr)))) (x.2.2)), some (VP.at true rInt (z1.1)), some (VP.at true (rLst K (rLst K rInt)) (z3.1)), some (VP.ptr q6), none, none, none, none, none, none])) (os' := (fun l8 => ([⟨q6, cDic kInt rInt (l8), true⟩] : OS))) (l := (s12)) (by exact ⟨.inr rfl, ⟨.inr rfl, ⟨.inr rfl, ⟨.inr rfl, ⟨.inr rfl, ⟨.inr rfl, ⟨.inl rfl, ⟨.inl rfl, ⟨.inl rfl, ⟨.inl rfl, ⟨.inl rfl, ⟨.inl rfl, trivial⟩⟩⟩⟩⟩⟩⟩⟩⟩⟩⟩⟩))) (fun l8 =>
  hb_asg (ς := Unit) (O := (fun (_ : Unit) => ([⟨q6, cDic kInt rInt (l8), true⟩] : OS))) 8 o.nd (hn_nil (r := rStr)) () (fun z17 q18 =>
  hb_asg (ς := Unit) (O := (fun (_ : Unit) => ([⟨q18, cLst rStr (z17.1), true⟩, ⟨q6, cDic kInt rInt (l8), true⟩] : OS))) 9 o.nd (hx_sub (hx_shl hx_int (hx_var (w := true) (r := rInt) 3)) hx_int) () (fun z19 q20 =>
  hb_asg (ς := Unit) (O := (fun (_ : Unit) => ([⟨q18, cLst rStr (z17.1), true⟩, ⟨q6, cDic kInt rInt (l8), true⟩] : OS))) 10 o.nd (hx_pk (fun (t22 : Unit) => [none, none, none, none, none, some (VP.at false (rDic kInt rInt) (l8)), none, none, none, some (VP.at true rInt (z19.1)), none, none]) _ (by exact fun _ => ⟨.no, ⟨.no, ⟨.no, ⟨.no, ⟨.no, ⟨pk_dic 1, ⟨.no, ⟨.no, ⟨.no, ⟨.same, ⟨.no, ⟨.no, trivial⟩⟩⟩⟩⟩⟩⟩⟩⟩⟩⟩⟩) fun _ _ => (hx_fl ffInt (hx_dget (Ok.pk o _) (hx_var (w := false) (r := (rDic kInt rInt)) 5) (hx_var (w := true) (r := rInt) 9)))) () (fun z21 q23 =>
  hb_while0 (mc := least_order_c34) (f := (least_order_w33 x z1 z3 l8)) (n := (z19.1).toNat + 1) (l0 := (z19.1, z17.1)) (asL := (fun l24 => [some (VP.at true (rLst K rStr) (x.1)), some (VP.at true (rLst K rStr) (x.2.1)), some (VP.at true (rLst K (rTup K (RT.cons rStr (RT.one rStr)))) (x.2.2)), some (VP.at true rInt (z1.1)), some (VP.at true (rLst K (rLst K rInt)) (z3.1)), some (VP.ptr q6), none, none, some (VP.ptr q18), some (VP.at true rInt (l24.1)), some (VP.at true rInt (z21.1)), none])) (osL := (fun l24 => ([⟨q18, cLst rStr (l24.2), true⟩, ⟨q6, cDic kInt rInt (l8), true⟩] : OS))) o (by exact ⟨.inr rfl, ⟨.inr rfl, ⟨.inr rfl, ⟨.inr rfl, ⟨.inr rfl, ⟨.inr rfl, ⟨.inl rfl, ⟨.inl rfl, ⟨.inr rfl, ⟨.inr rfl, ⟨.inr rfl, ⟨.inl rfl, trivial⟩⟩⟩⟩⟩⟩⟩⟩⟩⟩⟩⟩) rfl (fun l24 => (ht_gt (hx_var (w := true) (r := rInt) 9) hx_int)) (fun l24 =>
  hb_asg (ς := Unit) (O := (fun (_ : Unit) => ([⟨q18, cLst rStr (l24.2), true⟩, ⟨q6, cDic kInt rInt (l8), true⟩] : OS))) 7 o.nd (hx_pk (fun (t26 : Unit) => [none, none, none, some (VP.at true rInt (z1.1)), some (VP.at true (rLst K (rLst K rInt)) (z3.1)), some (VP.at false (rDic kInt rInt) (l8)), none, none, none, some (VP.at true rInt (l24.1)), none, none]) _ (by exact fun _ => ⟨.no, ⟨.no, ⟨.no, ⟨.same, ⟨.same, ⟨pk_dic 1, ⟨.no, ⟨.no, ⟨.no, ⟨.same, ⟨.no, ⟨.no, trivial⟩⟩⟩⟩⟩⟩⟩⟩⟩⟩⟩⟩) fun _ _ => (hx_idx (HG.frzL (f := id) (hn_lc (Ok.pk o _) (Lcp.mk ⟨VP.at true rInt, [11], _, (hi_list (hg_fk fk_members_h (Ok.pk o _) (by decide) (ha_cons (hx_var (w := true) (r := rInt) 9) (ha_one (hx_var (w := true) (r := rInt) 3))) (fun _ _ => pg_at) (fun _ _ => allF_nil))), blkOk_by (own := [("h", 11)]) (by rfl), (by decide), fun _ _ _ _ _ _ a27 => (htg_name 11 (by exact o.nd)), fun _ _ _ _ _ _ a27 => (hts_one (ht_eq (hg_fk fk_entry_h (Ok.blk (Ok.pk o _)) (by decide) (ha_cons (hx_var (w := false) (r := (rDic kInt rInt)) 5) (ha_cons (hx_var (w := true) (r := (rLst K (rLst K rInt))) 4) (ha_cons (hx_var (w := true) (r := rInt) 9) (ha_one (hx_var (w := true) (r := rInt) 11))))) (fun _ _ => pg_at) (fun _ _ => allF_nil)) (hx_fl ffInt (hx_dget (Ok.blk (Ok.pk o _)) (hx_var (w := false) (r := (rDic kInt rInt)) 5) (hx_var (w := true) (r := rInt) 9))))), fun _ _ _ _ _ _ a27 => (hx_var (w := true) (r := rInt) 11)⟩))) hx_int)) () (fun z25 q28 =>
  hb_expr (ς := (List Str)) (O := (fun (s : (List Str)) => ([⟨q18, cLst rStr (s), true⟩, ⟨q6, cDic kInt rInt (l8), true⟩] : OS))) (hx_mutL PySem.F.slot_list_insert PySem.F.type_list_insert mt_insert (ov_ins (rp := rStr)) 8 0 (fun (s : (List Str)) => s) (fun (s : (List Str)) (d : (List Str)) => (d)) (ha_cons hx_int (ha_one (hx_idx (hx_var (w := true) (r := (rLst K rStr)) 1) (hx_var (w := true) (r := rInt) 7))))) (l24.2) (fun z29 q30 =>
  hb_asg (ς := Unit) (O := (fun (_ : Unit) => ([⟨q18, cLst rStr (z29.2), true⟩, ⟨q6, cDic kInt rInt (l8), true⟩] : OS))) 9 o.nd (hx_sub (hx_var (w := true) (r := rInt) 9) (hx_shl hx_int (hx_var (w := true) (r := rInt) 7))) () (fun z31 q32 =>
  hb_end (as' := (fun l24 => [some (VP.at true (rLst K rStr) (x.1)), some (VP.at true (rLst K rStr) (x.2.1)), some (VP.at true (rLst K (rTup K (RT.cons rStr (RT.one rStr)))) (x.2.2)), some (VP.at true rInt (z1.1)), some (VP.at true (rLst K (rLst K rInt)) (z3.1)), some (VP.ptr q6), none, none, some (VP.ptr q18), some (VP.at true rInt (l24.1)), some (VP.at true rInt (z21.1)), none])) (os' := (fun l24 => ([⟨q18, cLst rStr (l24.2), true⟩, ⟨q6, cDic kInt rInt (l8), true⟩] : OS))) (l := (z31.1, z29.2)) (by exact ⟨.inr rfl, ⟨.inr rfl, ⟨.inr rfl, ⟨.inr rfl, ⟨.inr rfl, ⟨.inr rfl, ⟨.inl rfl, ⟨.inl rfl, ⟨.inr rfl, ⟨.inr rfl, ⟨.inr rfl, ⟨.inl rfl, trivial⟩⟩⟩⟩⟩⟩⟩⟩⟩⟩⟩⟩))))) (fun l24 =>
  hb_ret (ς := Unit) (O := (fun (_ : Unit) => ([⟨q18, cLst rStr (l24.2), true⟩, ⟨q6, cDic kInt rInt (l8), true⟩] : OS))) (hx_tupV (hn := fun _ => Nat.le_of_ble_eq_true rfl) (ha_cons (hx_var (w := true) (r := rInt) 10) (ha_cons (hx_ptr 8) (ha_one (hx_ptr 5))))) () (fun _ => rfl) (fun z q v S H st ow pv => ⟨(q18, q6), S, st, ow, pv⟩))))))))))) (fun _ _ _ _ _ _ us hl => match us, hl with | [_, _, _], _ => rfl)
abbrev s__law_mixed : Stmt := top 15
theorem sc__law_mixed : FnScope ["cell", "k", "number"] ["cell", "k"] (defScope s__law_mixed) := ⟨rfl, rfl, rfl, by decide +kernel, rfl, by decide +kernel, by decide +kernel⟩
def _law_mixed (x : (Int × Int)) : R Int :=
  ((SM.bnd2 modR (SM.bnd2 mulR (SM.map2 (· + ·) (SM.bnd2 modR (SM.ret x.1) (SM.ret (2147483646 : Int))) (SM.ret (1 : Int))) (SM.map2 (· + ·) (SM.bnd2 mulR (SM.ret x.2) (SM.ret (7919 : Int))) (SM.ret (104729 : Int)))) (SM.ret (2147483647 : Int))) ()).bind fun z1 =>
  ((SM.bnd2 modR (SM.bnd2 mulR (SM.map2 (· + ·) (SM.ret z1.1) (SM.bnd2 mulR (SM.bnd2 modR (SM.bnd2 divR (SM.ret x.1) (SM.ret (2147483646 : Int))) (SM.ret (1000003 : Int))) (SM.map2 (· + ·) (SM.ret x.2) (SM.ret (31 : Int))))) (SM.ret (48271 : Int))) (SM.ret (2147483629 : Int))) ()).bind fun z3 =>
  ((SM.bnd2 modR (SM.bnd2 mulR (SM.ret z3.1) (SM.map2 (· + ·) (SM.map2 (· + ·) (SM.bnd2 divR (SM.ret z3.1) (SM.ret (1013 : Int))) (SM.ret (69621 : Int))) (SM.ret x.2))) (SM.ret (2147483587 : Int))) ()).bind fun z5 =>
  ((SM.bnd2 modR (SM.bnd2 mulR (SM.ret z5.1) (SM.map2 (· + ·) (SM.bnd2 divR (SM.ret z5.1) (SM.ret (2003 : Int))) (SM.ret (40692 : Int)))) (SM.ret (2147483563 : Int))) ()).bind fun z => R.ok z.1
abbrev _law_mixed_sp (K : PySem.W.Frag) : Sp := (spF (π0 := Unit) (π := Unit) noX (fun (x : (Int × Int)) _ => [VP.at true rInt (x.1), VP.at true rInt (x.2)]) (fun _ _ => []) _law_mixed (fun (r : Int) q => VP.at true rInt r) (fun _ _ => []) fun r q => ([] : OS))
theorem fk__law_mixed (bi : Bi mg) (D : Dfd K mg "_law_mixed" s__law_mixed) : Fk P w K mg base 1 "_law_mixed" ["cell", "k"] (_law_mixed_sp K) :=
  mkFk D (fun fd F => fd_ok F sc__law_mixed 1 (fun _ _ => rfl) rfl fun cdv A outer s H E B x q0 o =>
  hb_asg (ς := Unit) (O := (fun (_ : Unit) => ([] : OS))) 2 o.nd (hx_mod (hx_mul (hx_add (hx_mod (hx_var (w := true) (r := rInt) 0) hx_int) hx_int) (hx_add (hx_mul (hx_var (w := true) (r := rInt) 1) hx_int) hx_int)) hx_int) () (fun z1 q2 =>
  hb_asg (ς := Unit) (O := (fun (_ : Unit) => ([] : OS))) 2 o.nd (hx_mod (hx_mul (hx_add (hx_var (w := true) (r := rInt) 2) (hx_mul (hx_mod (hx_div (hx_var (w := true) (r := rInt) 0) hx_int) hx_int) (hx_add (hx_var (w := true) (r := rInt) 1) hx_int))) hx_int) hx_int) () (fun z3 q4 =>
  hb_asg (ς := Unit) (O := (fun (_ : Unit) => ([] : OS))) 2 o.nd (hx_mod (hx_mul (hx_var (w := true) (r := rInt) 2) (hx_add (hx_add (hx_div (hx_var (w := true) (r := rInt) 2) hx_int) hx_int) (hx_var (w := true) (r := rInt) 1))) hx_int) () (fun z5 q6 =>
  hb_ret (ς := Unit) (O := (fun (_ : Unit) => ([] : OS))) (hx_mod (hx_mul (hx_var (w := true) (r := rInt) 2) (hx_add (hx_div (hx_var (w := true) (r := rInt) 2) hx_int) hx_int)) hx_int) () (fun _ => rfl) (fun z q v S H st ow pv => ⟨(), S, st, trivial, pv⟩))))) (fun _ _ _ _ _ _ us hl => match us, hl with | [_, _], _ => rfl)
abbrev s__law_source : Stmt := top 16
theorem sc__law_source : FnScope ["cell"] ["cell"] (defScope s__law_source) := ⟨rfl, rfl, rfl, by decide +kernel, rfl, by decide +kernel, by decide +kernel⟩
def _law_source (x : Int) : R (List Int) :=
  ((SM.bnd1 dispR (SM.map2 List.cons (SM.ret x) (SM.map2 List.cons (SM.ret x) (SM.map2 List.cons (SM.ret (0 : Int)) (SM.ret []))))) ()).bind fun z => R.ok z.1
abbrev _law_source_sp (K : PySem.W.Frag) : Sp := (spF (π0 := Unit) (π := Addr) noX (fun (x : Int) _ => [VP.at true rInt (x)]) (fun _ _ => []) _law_source (fun (r : (List Int)) q => VP.ptr q) (fun _ _ => []) fun r q => ([⟨q, cLst rInt (r), true⟩] : OS))
theorem fk__law_source (bi : Bi mg) (D : Dfd K mg "_law_source" s__law_source) : Fk P w K mg base 1 "_law_source" ["cell"] (_law_source_sp K) :=
  mkFk D (fun fd F => fd_ok F sc__law_source 0 (fun _ _ => rfl) rfl fun cdv A outer s H E B x q0 o =>
  hb_ret (ς := Unit) (O := (fun (_ : Unit) => ([] : OS))) (hn_lstD (hl_cons (hx_var (w := true) (r := rInt) 0) (hl_cons (hx_var (w := true) (r := rInt) 0) (hl_cons hx_int (hl_nil))))) () (fun _ => rfl) (fun z q v S H st ow pv => ⟨q, S, st, ow, pv⟩)) (fun _ _ _ _ _ _ us hl => match us, hl with | [_], _ => rfl)
abbrev s__law_take : Stmt := top 17
theorem sc__law_take : FnScope ["source", "many", "found"] ["source", "many"] (defScope s__law_take) := ⟨rfl, rfl, rfl, by decide +kernel, rfl, by decide +kernel, by decide +kernel⟩
def _law_take (x : ((List Int) × Int)) : R (Int × (List Int)) :=
  ((SM.pk fun t1 => (SM.map2 geB (SM.bnd2 getI (SM.ret x.1) (SM.ret (0 : Int))) (SM.bnd2 powR (SM.ret (10 : Int)) (SM.ret (18 : Int))))) ()).bind fun z => if z.1 = true then
  ((SM.pk fun t3 => (SM.bnd2 modR (SM.bnd2 getI (SM.ret x.1) (SM.ret (0 : Int))) (SM.ret x.2))) ()).bind fun z2 =>
  ((SM.pk fun t5 => (SM.bnd2 divR (SM.bnd2 getI (SM.ret t5) (SM.ret (0 : Int))) (SM.ret x.2))) (x.1)).bind fun z7 => ((SM.ret (0 : Int)) z7.2).bind fun y8 => (setR ((fun (s : (List Int)) => s) y8.2) y8.1 z7.1).bind fun l9 => (fun (s6 : (List Int)) =>
  ((SM.ret z2.1) ()).bind fun z => R.ok ((z.1, s6))) (l9) else
  ((SM.pk fun t10 => (SM.map2 (· + ·) (SM.bnd2 getI (SM.ret t10) (SM.ret (2 : Int))) (SM.ret (1 : Int)))) (x.1)).bind fun z13 => ((SM.ret (2 : Int)) z13.2).bind fun y14 => (setR ((fun (s : (List Int)) => s) y14.2) y14.1 z13.1).bind fun l15 => (fun (s11 : (List Int)) =>
  ((SM.pk fun t12 => (SM.bnd2 modR (SM.bnd1 (fun z => (_law_mixed z).calm) (SM.map2 Prod.mk (SM.bnd2 getI (SM.ret s11) (SM.ret (1 : Int))) (SM.bnd2 getI (SM.ret s11) (SM.ret (2 : Int))))) (SM.ret x.2))) ()).bind fun z => R.ok ((z.1, s11))) (l15)
abbrev _law_take_sp (K : PySem.W.Frag) : Sp := (spM (π := Unit) noX (fun (x : ((List Int) × Int)) q0 => [VP.ptr q0, VP.at true rInt (x.2)]) (cLst rInt) (fun x => x.1) _law_take (fun (r : Int) q => VP.at true rInt r) (fun (r : Int) q => ([] : OS)))
theorem fk__law_take (bi : Bi mg) (D : Dfd K mg "_law_take" s__law_take) (fk__law_mixed_h : Fk P w K mg base 1 "_law_mixed" ["cell", "k"] (_law_mixed_sp K)) : Fk P w K mg base 2 "_law_take" ["source", "many"] (_law_take_sp K) :=
  mkFk D (fun fd F => fd_ok F sc__law_take 1 (fun _ _ => rfl) rfl fun cdv A outer s H E B x q0 o =>
  hb_ifR0 (ht_pk (fun (t1 : Unit) => [some (VP.at false (rLst K rInt) (x.1)), none, none]) (by exact fun _ => ⟨pk_lst 0, ⟨.no, ⟨.no, trivial⟩⟩⟩) fun _ _ => (ht_ge (hx_fl ffInt (hx_idx (hx_var (w := false) (r := (rLst K rInt)) 0) hx_int)) (hx_pow hx_int hx_int))) (
  hb_asg (ς := Unit) (O := (fun (_ : Unit) => ([⟨q0, cLst rInt (x.1), false⟩] : OS))) 2 o.nd (hx_pk (fun (t3 : Unit) => [some (VP.at false (rLst K rInt) (x.1)), some (VP.at true rInt (x.2)), none]) _ (by exact fun _ => ⟨pk_lst 0, ⟨.same, ⟨.no, trivial⟩⟩⟩) fun _ _ => (hx_mod (hx_fl ffInt (hx_idx (hx_var (w := false) (r := (rLst K rInt)) 0) hx_int)) (hx_var (w := true) (r := rInt) 1))) () (fun z2 q4 =>
  hb_setL (rp := rInt) (ς := (List Int)) (O := (fun (s : (List Int)) => ([⟨q0, cLst rInt (s), false⟩] : OS))) (kk := fun (s6 : (List Int)) => _) 0 0 (fun (s : (List Int)) => s) (fun (s : (List Int)) (d : (List Int)) => (d)) (hx_pk (fun (t5 : (List Int)) => [some (VP.at false (rLst K rInt) (t5)), some (VP.at true rInt (x.2)), none]) _ (by exact fun _ => ⟨pk_lst 0, ⟨.same, ⟨.no, trivial⟩⟩⟩) fun _ _ => (hx_div (hx_fl ffInt (hx_idx (hx_var (w := false) (r := (rLst K rInt)) 0) hx_int)) (hx_var (w := true) (r := rInt) 1))) hx_int (x.1) (fun s6 =>
  hb_ret (ς := Unit) (O := (fun (_ : Unit) => ([⟨q0, cLst rInt (s6), false⟩] : OS))) (hx_var (w := true) (r := rInt) 2) () (fun _ => rfl) (fun z q v S H st ow pv => ⟨(), S, st, ow, pv⟩)))) (
  hb_setL (rp := rInt) (ς := (List Int)) (O := (fun (s : (List Int)) => ([⟨q0, cLst rInt (s), false⟩] : OS))) (kk := fun (s11 : (List Int)) => _) 0 0 (fun (s : (List Int)) => s) (fun (s : (List Int)) (d : (List Int)) => (d)) (hx_pk (fun (t10 : (List Int)) => [some (VP.at false (rLst K rInt) (t10)), none, none]) _ (by exact fun _ => ⟨pk_lst 0, ⟨.no, ⟨.no, trivial⟩⟩⟩) fun _ _ => (hx_add (hx_fl ffInt (hx_idx (hx_var (w := false) (r := (rLst K rInt)) 0) hx_int)) hx_int)) hx_int (x.1) (fun s11 =>
  hb_ret (ς := Unit) (O := (fun (_ : Unit) => ([⟨q0, cLst rInt (s11), false⟩] : OS))) (hx_pk (fun (t12 : Unit) => [some (VP.at false (rLst K rInt) (s11)), some (VP.at true rInt (x.2)), none]) _ (by exact fun _ => ⟨pk_lst 0, ⟨.same, ⟨.no, trivial⟩⟩⟩) fun _ _ => (hx_mod (hg_fk fk__law_mixed_h (Ok.pk o _) (by decide) (ha_cons (hx_fl ffInt (hx_idx (hx_var (w := false) (r := (rLst K rInt)) 0) hx_int)) (ha_one (hx_fl ffInt (hx_idx (hx_var (w := false) (r := (rLst K rInt)) 0) hx_int)))) (fun _ _ => pg_at) (fun _ _ => allF_nil)) (hx_var (w := true) (r := rInt) 1))) () (fun _ => rfl) (fun z q v S H st ow pv => ⟨(), S, st, ow, pv⟩)))) (fun _ _ _ _ _ _ us hl => match us, hl with | [_, _], _ => rfl)
abbrev s__law_drawn : Stmt := top 18
theorem sc__law_drawn : FnScope ["source", "long", "free", "fixed", "k", "marks", "lines", "at"] ["source"] (defScope s__law_drawn) := ⟨rfl, rfl, rfl, by decide +kernel, rfl, by decide +kernel, by decide +kernel⟩
def _law_drawn_t25 (z17 : Unit × ((List (Str × Str)) × (List Int))) (s19 : (List Int)) : R ((List Int) × (List (Str × Str))) :=
  ((fun s => ((fun s => ((fun s => ((SM.map2 Prod.mk (SM.ret ()) (fun s => R.ok ((((fun (s : ((List (Str × Str)) × (List Int))) => s.1) s).length : Int), s))) s).bind fun z => (_law_take ((fun (z : (Unit × Int)) (d : (List Int)) => (d, z.2)) z.1 ((fun (s : ((List (Str × Str)) × (List Int))) => s.2) z.2))).calm.bind fun r => R.ok (r.1, (fun (s : ((List (Str × Str)) × (List Int))) (d : (List Int)) => (s.1, d)) z.2 r.2)) s).bind fun z => (getI ((fun (s : ((List (Str × Str)) × (List Int))) => s.1) z.2) z.1).bind fun y => R.ok (y, z.2)) s).bind fun z => (appR ((fun (s : ((List (Str × Str)) × (List Int))) => s.1) z.2) z.1).bind fun r => R.ok (r.1, (fun (s : ((List (Str × Str)) × (List Int))) (d : (List (Str × Str))) => (d, s.2)) z.2 r.2)) (z17.2.1, s19)).bind fun z23 =>
  R.ok (z23.2.2, z23.2.1)
def _law_drawn_e26 (z17 : Unit × ((List (Str × Str)) × (List Int))) (s19 : (List Int)) : R ((List Int) × (List (Str × Str))) :=
  R.ok (s19, z17.2.1)
def _law_drawn_b27 (z1 : Int × (List Int)) (z3 : Int × (List Int)) (z5 : (List Str) × Unit) (z7 : (List Str) × (List Int)) (l13 : ((List Int) × (List (Str × Str)))) (a14 : Int) : R ((List Int) × (List (Str × Str))) :=
  ((SM.bnd2 getI (SM.bnd1 dispR (SM.map2 List.cons (fun s => ((SM.map2 Prod.mk (SM.ret ()) (SM.map1 max2 (SM.map2 Prod.mk (SM.ret (1 : Int)) (SM.ret z1.1)))) s).bind fun z => (_law_take ((fun (z : (Unit × Int)) (d : (List Int)) => (d, z.2)) z.1 ((fun (s : (List Int)) => s) z.2))).calm.bind fun r => R.ok (r.1, (fun (s : (List Int)) (d : (List Int)) => (d)) z.2 r.2)) (SM.map2 List.cons (SM.map2 (· - ·) (SM.ret z1.1) (SM.ret (1 : Int))) (SM.ret [])))) (SM.map1 b2n (SM.map2 eqB (fun s => ((SM.map2 Prod.mk (SM.ret ()) (SM.ret (6 : Int))) s).bind fun z => (_law_take ((fun (z : (Unit × Int)) (d : (List Int)) => (d, z.2)) z.1 ((fun (s : (List Int)) => s) z.2))).calm.bind fun r => R.ok (r.1, (fun (s : (List Int)) (d : (List Int)) => (d)) z.2 r.2)) (SM.ret (0 : Int))))) (l13.1)).bind fun z15 =>
  ((fun s => ((SM.map2 Prod.mk (SM.bnd2 getI (SM.ret z5.1) (SM.ret z15.1)) (SM.bnd2 getI (SM.ret z7.1) (fun s => ((SM.map2 Prod.mk (SM.ret ()) (SM.ret z3.1)) s).bind fun z => (_law_take ((fun (z : (Unit × Int)) (d : (List Int)) => (d, z.2)) z.1 ((fun (s : ((List (Str × Str)) × (List Int))) => s.2) z.2))).calm.bind fun r => R.ok (r.1, (fun (s : ((List (Str × Str)) × (List Int))) (d : (List Int)) => (s.1, d)) z.2 r.2)))) s).bind fun z => (appR ((fun (s : ((List (Str × Str)) × (List Int))) => s.1) z.2) z.1).bind fun r => R.ok (r.1, (fun (s : ((List (Str × Str)) × (List Int))) (d : (List (Str × Str))) => (d, s.2)) z.2 r.2)) (l13.2, z15.2)).bind fun z17 =>
  ((SM.map2 eqB (fun s => ((SM.map2 Prod.mk (SM.ret ()) (SM.ret (5 : Int))) s).bind fun z => (_law_take ((fun (z : (Unit × Int)) (d : (List Int)) => (d, z.2)) z.1 ((fun (s : (List Int)) => s) z.2))).calm.bind fun r => R.ok (r.1, (fun (s : (List Int)) (d : (List Int)) => (d)) z.2 r.2)) (SM.ret (0 : Int))) (z17.2.2)).bind fun z => (if z.1 = true then (_law_drawn_t25 z17) z.2 else (_law_drawn_e26 z17) z.2).bind fun l22 =>
  R.ok (l22.1, l22.2)
def _law_drawn (x : (List Int)) : R (((List Str) × (List Str) × (List (Str × Str))) × (List Int)) :=
  ((SM.bnd2 getI (SM.bnd1 dispR (SM.map2 List.cons (fun s => ((SM.map2 Prod.mk (SM.ret ()) (SM.ret (9 : Int))) s).bind fun z => (_law_take ((fun (z : (Unit × Int)) (d : (List Int)) => (d, z.2)) z.1 ((fun (s : (List Int)) => s) z.2))).calm.bind fun r => R.ok (r.1, (fun (s : (List Int)) (d : (List Int)) => (d)) z.2 r.2)) (SM.map2 List.cons (SM.map2 (· + ·) (SM.ret (9 : Int)) (fun s => ((SM.map2 Prod.mk (SM.ret ()) (SM.ret (52 : Int))) s).bind fun z => (_law_take ((fun (z : (Unit × Int)) (d : (List Int)) => (d, z.2)) z.1 ((fun (s : (List Int)) => s) z.2))).calm.bind fun r => R.ok (r.1, (fun (s : (List Int)) (d : (List Int)) => (d)) z.2 r.2))) (SM.map2 List.cons (SM.ret (60 : Int)) (SM.ret []))))) (fun s => ((SM.map2 Prod.mk (SM.ret ()) (SM.ret (3 : Int))) s).bind fun z => (_law_take ((fun (z : (Unit × Int)) (d : (List Int)) => (d, z.2)) z.1 ((fun (s : (List Int)) => s) z.2))).calm.bind fun r => R.ok (r.1, (fun (s : (List Int)) (d : (List Int)) => (d)) z.2 r.2))) (x)).bind fun z1 =>
  ((SM.bnd2 getI (SM.bnd1 dispR (SM.map2 List.cons (fun s => ((SM.map2 Prod.mk (SM.ret ()) (SM.ret (5 : Int))) s).bind fun z => (_law_take ((fun (z : (Unit × Int)) (d : (List Int)) => (d, z.2)) z.1 ((fun (s : (List Int)) => s) z.2))).calm.bind fun r => R.ok (r.1, (fun (s : (List Int)) (d : (List Int)) => (d)) z.2 r.2)) (SM.map2 List.cons (fun s => ((SM.map2 Prod.mk (SM.ret ()) (SM.ret (5 : Int))) s).bind fun z => (_law_take ((fun (z : (Unit × Int)) (d : (List Int)) => (d, z.2)) z.1 ((fun (s : (List Int)) => s) z.2))).calm.bind fun r => R.ok (r.1, (fun (s : (List Int)) (d : (List Int)) => (d)) z.2 r.2)) (SM.map2 List.cons (SM.map2 (· + ·) (SM.ret (8 : Int)) (fun s => ((SM.map2 Prod.mk (SM.ret ()) (SM.ret (2 : Int))) s).bind fun z => (_law_take ((fun (z : (Unit × Int)) (d : (List Int)) => (d, z.2)) z.1 ((fun (s : (List Int)) => s) z.2))).calm.bind fun r => R.ok (r.1, (fun (s : (List Int)) (d : (List Int)) => (d)) z.2 r.2))) (SM.ret []))))) (SM.bnd2 mulR (SM.map1 b2n (SM.map2 eqB (fun s => ((SM.map2 Prod.mk (SM.ret ()) (SM.ret (8 : Int))) s).bind fun z => (_law_take ((fun (z : (Unit × Int)) (d : (List Int)) => (d, z.2)) z.1 ((fun (s : (List Int)) => s) z.2))).calm.bind fun r => R.ok (r.1, (fun (s : (List Int)) (d : (List Int)) => (d)) z.2 r.2)) (SM.ret (0 : Int)))) (SM.ret (2 : Int)))) (z1.2)).bind fun z3 =>
  ((SM.lc (SM.bnd1 rng1 (SM.ret z1.1)) (fun (a6 : Int) => (SM.ret true)) (fun a6 => (SM.bnd2 catS (SM.ret ("f" : Str)) (SM.bnd1 strI (SM.ret a6))))) ()).bind fun z5 =>
  ((SM.bnd2 stepL (SM.lc (SM.bnd1 rng1 (SM.ret z3.1)) (fun (a8 : Int) => (SM.ret true)) (fun a8 => (SM.bnd2 catS (SM.ret ("m" : Str)) (SM.bnd1 strI (SM.ret a8))))) (SM.bnd2 getI (SM.bnd1 dispR (SM.map2 List.cons (SM.ret (1 : Int)) (SM.map2 List.cons (SM.map1 (fun i => -i) (SM.ret (1 : Int))) (SM.ret [])))) (fun s => ((SM.map2 Prod.mk (SM.ret ()) (SM.ret (2 : Int))) s).bind fun z => (_law_take ((fun (z : (Unit × Int)) (d : (List Int)) => (d, z.2)) z.1 ((fun (s : (List Int)) => s) z.2))).calm.bind fun r => R.ok (r.1, (fun (s : (List Int)) (d : (List Int)) => (d)) z.2 r.2)))) (z3.2)).bind fun z7 =>
  ((SM.ret ([] : (List (Str × Str)))) ()).bind fun z10 =>
  ((SM.bnd1 rng1 (SM.bnd2 mulR (fun s => ((SM.map2 Prod.mk (SM.ret ()) (SM.ret (41 : Int))) s).bind fun z => (_law_take ((fun (z : (Unit × Int)) (d : (List Int)) => (d, z.2)) z.1 ((fun (s : (List Int)) => s) z.2))).calm.bind fun r => R.ok (r.1, (fun (s : (List Int)) (d : (List Int)) => (d)) z.2 r.2)) (SM.map1 b2n (SM.and (SM.map2 gtB (SM.ret z1.1) (SM.ret (0 : Int))) (SM.map2 gtB (SM.ret z3.1) (SM.ret (0 : Int))))))) (z7.2)).bind fun z12 => (foldR (_law_drawn_b27 z1 z3 z5 z7) (z12.2, z10.1) z12.1).bind fun l13 =>
  ((SM.map2 Prod.mk (SM.ret z5.1) (SM.map2 Prod.mk (SM.ret z7.1) (fun s => ((SM.ret none) s).bind fun z => ((SM.map1 some (SM.ret (40 : Int))) z.2).bind fun y => R.ok (cutL ((fun (s : Unit) => l13.2) y.2) z.1 y.1, y.2)))) ()).bind fun z => R.ok ((z.1, l13.1))
abbrev _law_drawn_sp (K : PySem.W.Frag) : Sp := (spM (π := Unit) noX (fun (x : (List Int)) q0 => [VP.ptr q0]) (cLst rInt) (fun x => x) _law_drawn (fun (r : ((List Str) × (List Str) × (List (Str × Str)))) q => VP.at true (rTup K (RT.cons (rLst K rStr) (RT.cons (rLst K rStr) (RT.one (rLst K (rTup K (RT.cons rStr (RT.one rStr)))))))) r) (fun (r : ((List Str) × (List Str) × (List (Str × Str)))) q => ([] : OS)))
theorem fk__law_drawn (bi : Bi mg) (D : Dfd K mg "_law_drawn" s__law_drawn) (fk__law_take_h : Fk P w K mg base 2 "_law_take" ["source", "many"] (_law_take_sp K)) : Fk P w K mg base 3 "_law_drawn" ["source"] (_law_drawn_sp K) :=
  mkFk D (fun fd F => fd_ok F sc__law_drawn 7 (fun _ _ => rfl) rfl fun cdv A outer s H E B x q0 o =>
  hb_asg (ς := (List Int)) (O := (fun (s : (List Int)) => ([⟨q0, cLst rInt (s), false⟩] : OS))) 1 o.nd (hx_idx (HG.frzL (f := id) (hn_lstD (hl_cons (hg_fkM fk__law_take_h o (by decide) 0 (fun (s : (List Int)) => s) (fun (s : (List Int)) (d : (List Int)) => (d)) (fun (z : (Unit × Int)) (d : (List Int)) => (d, z.2)) (ha_cons (hx_ptr 0) (ha_one hx_int)) (hB := fun _ _ => pg_at) (hf := fun _ _ => allF_nil)) (hl_cons (hx_add hx_int (hg_fkM fk__law_take_h o (by decide) 0 (fun (s : (List Int)) => s) (fun (s : (List Int)) (d : (List Int)) => (d)) (fun (z : (Unit × Int)) (d : (List Int)) => (d, z.2)) (ha_cons (hx_ptr 0) (ha_one hx_int)) (hB := fun _ _ => pg_at) (hf := fun _ _ => allF_nil))) (hl_cons hx_int (hl_nil)))))) (hg_fkM fk__law_take_h o (by decide) 0 (fun (s : (List Int)) => s) (fun (s : (List Int)) (d : (List Int)) => (d)) (fun (z : (Unit × Int)) (d : (List Int)) => (d, z.2)) (ha_cons (hx_ptr 0) (ha_one hx_int)) (hB := fun _ _ => pg_at) (hf := fun _ _ => allF_nil))) (x) (fun z1 q2 =>
  hb_asg (ς := (List Int)) (O := (fun (s : (List Int)) => ([⟨q0, cLst rInt (s), false⟩] : OS))) 2 o.nd (hx_idx (HG.frzL (f := id) (hn_lstD (hl_cons (hg_fkM fk__law_take_h o (by decide) 0 (fun (s : (List Int)) => s) (fun (s : (List Int)) (d : (List Int)) => (d)) (fun (z : (Unit × Int)) (d : (List Int)) => (d, z.2)) (ha_cons (hx_ptr 0) (ha_one hx_int)) (hB := fun _ _ => pg_at) (hf := fun _ _ => allF_nil)) (hl_cons (hg_fkM fk__law_take_h o (by decide) 0 (fun (s : (List Int)) => s) (fun (s : (List Int)) (d : (List Int)) => (d)) (fun (z : (Unit × Int)) (d : (List Int)) => (d, z.2)) (ha_cons (hx_ptr 0) (ha_one hx_int)) (hB := fun _ _ => pg_at) (hf := fun _ _ => allF_nil)) (hl_cons (hx_add hx_int (hg_fkM fk__law_take_h o (by decide) 0 (fun (s : (List Int)) => s) (fun (s : (List Int)) (d : (List Int)) => (d)) (fun (z : (Unit × Int)) (d : (List Int)) => (d, z.2)) (ha_cons (hx_ptr 0) (ha_one hx_int)) (hB := fun _ _ => pg_at) (hf := fun _ _ => allF_nil))) (hl_nil)))))) (hx_mul (hx_intB bi.int (hx_eq (hg_fkM fk__law_take_h o (by decide) 0 (fun (s : (List Int)) => s) (fun (s : (List Int)) (d : (List Int)) => (d)) (fun (z : (Unit × Int)) (d : (List Int)) => (d, z.2)) (ha_cons (hx_ptr 0) (ha_one hx_int)) (hB := fun _ _ => pg_at) (hf := fun _ _ => allF_nil)) hx_int)) hx_int)) (z1.2) (fun z3 q4 =>
  hb_lcF (ς := Unit) (O := (fun (_ : Unit) => ([⟨q0, cLst rInt (z3.2), false⟩] : OS))) 3 o (Lcp.mk ⟨VP.at true rInt, [4], _, (hi_range1 bi.range (hx_var (w := true) (r := rInt) 1)), blkOk_by (own := [("k", 4)]) (by rfl), (by decide), fun _ _ _ _ _ _ a6 => (htg_name 4 (by exact o.nd)), fun _ _ _ _ _ _ a6 => hts_nil, fun _ _ _ _ _ _ a6 => (hx_cat hx_str (hx_strI bi.str (hx_var (w := true) (r := rInt) 4)))⟩) () (fun z5 =>
  hb_asg (ς := (List Int)) (O := (fun (s : (List Int)) => ([⟨q0, cLst rInt (s), false⟩] : OS))) 5 o.nd (HG.frzL (f := id) (hn_step (HG.frzL (f := id) (hn_lc o (Lcp.mk ⟨VP.at true rInt, [4], _, (hi_range1 bi.range (hx_var (w := true) (r := rInt) 2)), blkOk_by (own := [("k", 4)]) (by rfl), (by decide), fun _ _ _ _ _ _ a8 => (htg_name 4 (by exact o.nd)), fun _ _ _ _ _ _ a8 => hts_nil, fun _ _ _ _ _ _ a8 => (hx_cat hx_str (hx_strI bi.str (hx_var (w := true) (r := rInt) 4)))⟩))) (hx_idx (HG.frzL (f := id) (hn_lstD (hl_cons hx_int (hl_cons (hx_neg hx_int) (hl_nil))))) (hg_fkM fk__law_take_h o (by decide) 0 (fun (s : (List Int)) => s) (fun (s : (List Int)) (d : (List Int)) => (d)) (fun (z : (Unit × Int)) (d : (List Int)) => (d, z.2)) (ha_cons (hx_ptr 0) (ha_one hx_int)) (hB := fun _ _ => pg_at) (hf := fun _ _ => allF_nil))))) (z3.2) (fun z7 q9 =>
  hb_asg (ς := Unit) (O := (fun (_ : Unit) => ([⟨q0, cLst rInt (z7.2), false⟩] : OS))) 6 o.nd (hn_nil (r := (rTup K (RT.cons rStr (RT.one rStr))))) () (fun z10 q11 =>
  hb_for (ς := (List Int)) (O := (fun (s : (List Int)) => ([⟨q11, cLst (rTup K (RT.cons rStr (RT.one rStr))) (z10.1), true⟩, ⟨q0, cLst rInt (s), false⟩] : OS))) (P := VP.at true rInt) (l0 := (fun (s : (List Int)) => (s, z10.1))) (asL := (fun l13 => [some (VP.ptr q0), some (VP.at true rInt (z1.1)), some (VP.at true rInt (z3.1)), some (VP.at true (rLst K rStr) (z5.1)), none, some (VP.at true (rLst K rStr) (z7.1)), some (VP.ptr q11), none])) (osL := (fun l13 => ([⟨q11, cLst (rTup K (RT.cons rStr (RT.one rStr))) (l13.2), true⟩, ⟨q0, cLst rInt (l13.1), false⟩] : OS))) (f := (_law_drawn_b27 z1 z3 z5 z7)) o (hi_range1 bi.range (hx_mul (hg_fkM fk__law_take_h o (by decide) 1 (fun (s : (List Int)) => s) (fun (s : (List Int)) (d : (List Int)) => (d)) (fun (z : (Unit × Int)) (d : (List Int)) => (d, z.2)) (ha_cons (hx_ptr 0) (ha_one hx_int)) (hB := fun _ _ => pg_at) (hf := fun _ _ => allF_nil)) (hx_intB bi.int (hx_andV (hx_gt (hx_var (w := true) (r := rInt) 1) hx_int) (hx_one (hx_gt (hx_var (w := true) (r := rInt) 2) hx_int)))))) (z7.2) (by exact fun _ => ⟨.inr rfl, ⟨.inr rfl, ⟨.inr rfl, ⟨.inr rfl, ⟨.inl rfl, ⟨.inr rfl, ⟨.inr rfl, ⟨.inl rfl, trivial⟩⟩⟩⟩⟩⟩⟩⟩) (fun _ => rfl) (fun l13 a14 => (htg_name 4 (by exact o.nd))) (fun l13 a14 =>
  hb_asg (ς := (List Int)) (O := (fun (s : (List Int)) => ([⟨q11, cLst (rTup K (RT.cons rStr (RT.one rStr))) (l13.2), true⟩, ⟨q0, cLst rInt (s), false⟩] : OS))) 7 o.nd (hx_idx (HG.frzL (f := id) (hn_lstD (hl_cons (hg_fkM fk__law_take_h o (by decide) 1 (fun (s : (List Int)) => s) (fun (s : (List Int)) (d : (List Int)) => (d)) (fun (z : (Unit × Int)) (d : (List Int)) => (d, z.2)) (ha_cons (hx_ptr 0) (ha_one (hx_max2 (by exact o.calm) bi.max (ha_cons hx_int (ha_one (hx_var (w := true) (r := rInt) 1)))))) (hB := fun _ _ => pg_at) (hf := fun _ _ => allF_nil)) (hl_cons (hx_sub (hx_var (w := true) (r := rInt) 1) hx_int) (hl_nil))))) (hx_intB bi.int (hx_eq (hg_fkM fk__law_take_h o (by decide) 1 (fun (s : (List Int)) => s) (fun (s : (List Int)) (d : (List Int)) => (d)) (fun (z : (Unit × Int)) (d : (List Int)) => (d, z.2)) (ha_cons (hx_ptr 0) (ha_one hx_int)) (hB := fun _ _ => pg_at) (hf := fun _ _ => allF_nil)) hx_int))) (l13.1) (fun z15 q16 =>
  hb_expr (ς := ((List (Str × Str)) × (List Int))) (O := (fun (s : ((List (Str × Str)) × (List Int))) => ([⟨q11, cLst (rTup K (RT.cons rStr (RT.one rStr))) (s.1), true⟩, ⟨q0, cLst rInt (s.2), false⟩] : OS))) (hx_mutL PySem.F.slot_list_append PySem.F.type_list_append mt_append (ov_app (rp := (rTup K (RT.cons rStr (RT.one rStr))))) 6 0 (fun (s : ((List (Str × Str)) × (List Int))) => s.1) (fun (s : ((List (Str × Str)) × (List Int))) (d : (List (Str × Str))) => (d, s.2)) (ha_one (hx_tup (t := (RT.cons rStr (RT.one rStr))) (hn := Nat.le_of_ble_eq_true rfl) (ha_cons (hx_idx (hx_var (w := true) (r := (rLst K rStr)) 3) (hx_var (w := true) (r := rInt) 7)) (ha_one (hx_idx (hx_var (w := true) (r := (rLst K rStr)) 5) (hg_fkM fk__law_take_h o (by decide) 1 (fun (s : ((List (Str × Str)) × (List Int))) => s.2) (fun (s : ((List (Str × Str)) × (List Int))) (d : (List Int)) => (s.1, d)) (fun (z : (Unit × Int)) (d : (List Int)) => (d, z.2)) (ha_cons (hx_ptr 0) (ha_one (hx_var (w := true) (r := rInt) 2))) (hB := fun _ _ => pg_at) (hf := fun _ _ => allF_nil)))))))) (l13.2, z15.2) (fun z17 q18 =>
  hb_if (ς := (List Int)) (O := (fun (s : (List Int)) => ([⟨q11, cLst (rTup K (RT.cons rStr (RT.one rStr))) (z17.2.1), true⟩, ⟨q0, cLst rInt (s), false⟩] : OS))) (ma := (_law_drawn_t25 z17)) (mb := (_law_drawn_e26 z17)) (as1 := (fun l22 => [some (VP.ptr q0), some (VP.at true rInt (z1.1)), some (VP.at true rInt (z3.1)), some (VP.at true (rLst K rStr) (z5.1)), some (VP.at true rInt (a14)), some (VP.at true (rLst K rStr) (z7.1)), some (VP.ptr q11), some (VP.at true rInt (z15.1))])) (os1 := (fun l22 => ([⟨q11, cLst (rTup K (RT.cons rStr (RT.one rStr))) (l22.2), true⟩, ⟨q0, cLst rInt (l22.1), false⟩] : OS))) (ht_eq (hg_fkM fk__law_take_h o (by decide) 1 (fun (s : (List Int)) => s) (fun (s : (List Int)) (d : (List Int)) => (d)) (fun (z : (Unit × Int)) (d : (List Int)) => (d, z.2)) (ha_cons (hx_ptr 0) (ha_one hx_int)) (hB := fun _ _ => pg_at) (hf := fun _ _ => allF_nil)) hx_int) (z17.2.2) (fun s19 =>
  hb_expr (ς := ((List (Str × Str)) × (List Int))) (O := (fun (s : ((List (Str × Str)) × (List Int))) => ([⟨q11, cLst (rTup K (RT.cons rStr (RT.one rStr))) (s.1), true⟩, ⟨q0, cLst rInt (s.2), false⟩] : OS))) (hx_mutL PySem.F.slot_list_append PySem.F.type_list_append mt_append (ov_app (rp := (rTup K (RT.cons rStr (RT.one rStr))))) 6 0 (fun (s : ((List (Str × Str)) × (List Int))) => s.1) (fun (s : ((List (Str × Str)) × (List Int))) (d : (List (Str × Str))) => (d, s.2)) (ha_one (hx_idxO 6 0 (fun (s : ((List (Str × Str)) × (List Int))) => s.1) (hg_fkM fk__law_take_h o (by decide) 1 (fun (s : ((List (Str × Str)) × (List Int))) => s.2) (fun (s : ((List (Str × Str)) × (List Int))) (d : (List Int)) => (s.1, d)) (fun (z : (Unit × Int)) (d : (List Int)) => (d, z.2)) (ha_cons (hx_ptr 0) (ha_one (hx_lenO 6 0 (fun (s : ((List (Str × Str)) × (List Int))) => s.1) bi.len))) (hB := fun _ _ => pg_at) (hf := fun _ _ => allF_nil))))) (z17.2.1, s19) (fun z23 q24 =>
  hb_end (as' := (fun l22 => [some (VP.ptr q0), some (VP.at true rInt (z1.1)), some (VP.at true rInt (z3.1)), some (VP.at true (rLst K rStr) (z5.1)), some (VP.at true rInt (a14)), some (VP.at true (rLst K rStr) (z7.1)), some (VP.ptr q11), some (VP.at true rInt (z15.1))])) (os' := (fun l22 => ([⟨q11, cLst (rTup K (RT.cons rStr (RT.one rStr))) (l22.2), true⟩, ⟨q0, cLst rInt (l22.1), false⟩] : OS))) (l := (z23.2.2, z23.2.1)) (by exact ⟨.inr rfl, ⟨.inr rfl, ⟨.inr rfl, ⟨.inr rfl, ⟨.inr rfl, ⟨.inr rfl, ⟨.inr rfl, ⟨.inr rfl, trivial⟩⟩⟩⟩⟩⟩⟩⟩))) (fun s19 =>
  hb_end (as' := (fun l22 => [some (VP.ptr q0), some (VP.at true rInt (z1.1)), some (VP.at true rInt (z3.1)), some (VP.at true (rLst K rStr) (z5.1)), some (VP.at true rInt (a14)), some (VP.at true (rLst K rStr) (z7.1)), some (VP.ptr q11), some (VP.at true rInt (z15.1))])) (os' := (fun l22 => ([⟨q11, cLst (rTup K (RT.cons rStr (RT.one rStr))) (l22.2), true⟩, ⟨q0, cLst rInt (l22.1), false⟩] : OS))) (l := (s19, z17.2.1)) (by exact ⟨.inr rfl, ⟨.inr rfl, ⟨.inr rfl, ⟨.inr rfl, ⟨.inr rfl, ⟨.inr rfl, ⟨.inr rfl, ⟨.inr rfl, trivial⟩⟩⟩⟩⟩⟩⟩⟩)) (fun l22 =>
  hb_end (as' := (fun l13 => [some (VP.ptr q0), some (VP.at true rInt (z1.1)), some (VP.at true rInt (z3.1)), some (VP.at true (rLst K rStr) (z5.1)), none, some (VP.at true (rLst K rStr) (z7.1)), some (VP.ptr q11), none])) (os' := (fun l13 => ([⟨q11, cLst (rTup K (RT.cons rStr (RT.one rStr))) (l13.2), true⟩, ⟨q0, cLst rInt (l13.1), false⟩] : OS))) (l := (l22.1, l22.2)) (by exact ⟨.inr rfl, ⟨.inr rfl, ⟨.inr rfl, ⟨.inr rfl, ⟨.inl rfl, ⟨.inr rfl, ⟨.inr rfl, ⟨.inl rfl, trivial⟩⟩⟩⟩⟩⟩⟩⟩))))) (fun l13 =>
  hb_ret (ς := Unit) (O := (fun (_ : Unit) => ([⟨q11, cLst (rTup K (RT.cons rStr (RT.one rStr))) (l13.2), true⟩, ⟨q0, cLst rInt (l13.1), false⟩] : OS))) (hx_tup (t := (RT.cons (rLst K rStr) (RT.cons (rLst K rStr) (RT.one (rLst K (rTup K (RT.cons rStr (RT.one rStr)))))))) (hn := Nat.le_of_ble_eq_true rfl) (ha_cons (hx_var (w := true) (r := (rLst K rStr)) 3) (ha_cons (hx_var (w := true) (r := (rLst K rStr)) 5) (ha_one (HG.frzL (f := id) (hn_cutO (rp := (rTup K (RT.cons rStr (RT.one rStr)))) 6 0 (fun (s : Unit) => l13.2) ho_none (ho_some hx_int))))))) () (fun _ => rfl) (fun z q v S H st ow pv => ⟨(), S, st, (ow.pick [1] (by decide)), pv⟩)))))))) (fun _ _ _ _ _ _ us hl => match us, hl with | [_], _ => rfl)
abbrev s__law_cost : Stmt := top 19
theorem sc__law_cost : FnScope ["fixed", "lines", "one", "other", "first", "upper", "lower", "second", "place", "at"] ["fixed", "lines", "one", "other"] (defScope s__law_cost) := ⟨rfl, rfl, rfl, by decide +kernel, rfl, by decide +kernel, by decide +kernel⟩
def _law_cost (x : ((List Str) × (List (Str × Str)) × Str × Str)) : R Int :=
  ((SM.lc (SM.ret x.2.1) (fun (a2 : (Str × Str)) => (SM.map2 eqS (SM.ret a2.2) (SM.ret x.2.2.1))) (fun a2 => (SM.bnd2 idxR (SM.ret x.1) (SM.ret a2.1)))) ()).bind fun z1 =>
  ((SM.lc (SM.ret x.2.1) (fun (a4 : (Str × Str)) => (SM.map2 eqS (SM.ret a4.2) (SM.ret x.2.2.2))) (fun a4 => (SM.bnd2 idxR (SM.ret x.1) (SM.ret a4.1)))) ()).bind fun z3 =>
  ((SM.map1 List.sum (SM.lc (SM.ret z1.1) (fun (a6 : Int) => (SM.ret true)) (fun a6 => (SM.map1 (fun xs => (xs.length : Int)) (SM.lc (SM.ret z3.1) (fun (a7 : Int) => (SM.map2 ltB (SM.ret a7) (SM.ret a6))) (fun a7 => (SM.ret a7))))))) ()).bind fun z => R.ok z.1
abbrev _law_cost_sp (K : PySem.W.Frag) : Sp := (spF (π0 := Unit) (π := Unit) noX (fun (x : ((List Str) × (List (Str × Str)) × Str × Str)) _ => [VP.at true (rLst K rStr) (x.1), VP.at true (rLst K (rTup K (RT.cons rStr (RT.one rStr)))) (x.2.1), VP.at true rStr (x.2.2.1), VP.at true rStr (x.2.2.2)]) (fun _ _ => []) _law_cost (fun (r : Int) q => VP.at true rInt r) (fun _ _ => []) fun r q => ([] : OS))
theorem fk__law_cost (bi : Bi mg) (D : Dfd K mg "_law_cost" s__law_cost) : Fk P w K mg base 1 "_law_cost" ["fixed", "lines", "one", "other"] (_law_cost_sp K) :=
  mkFk D (fun fd F => fd_ok F sc__law_cost 6 (fun _ _ => rfl) rfl fun cdv A outer s H E B x q0 o =>
  hb_lcF (ς := Unit) (O := (fun (_ : Unit) => ([] : OS))) 4 o (Lcp.mk ⟨VP.at true (rTup K (RT.cons rStr (RT.one rStr))), [5, 6], _, (hi_list (hx_var (w := true) (r := (rLst K (rTup K (RT.cons rStr (RT.one rStr))))) 1)), blkOk_by (own := [("upper", 5), ("lower", 6)]) (by rfl), (by decide), fun _ _ _ _ _ _ a2 => (htg_tup (t := (RT.cons rStr (RT.one rStr))) (by exact o.calm) (htgs_cons (htg_name 5 (by exact o.nd)) (htgs_cons (htg_name 6 (by exact o.nd)) htgs_nil))), fun _ _ _ _ _ _ a2 => (hts_one (ht_eqS (hx_var (w := true) (r := rStr) 6) (hx_var (w := true) (r := rStr) 2))), fun _ _ _ _ _ _ a2 => (hx_index frStr (hx_var (w := true) (r := (rLst K rStr)) 0) (hx_var (w := true) (r := rStr) 5))⟩) () (fun z1 =>
  hb_asg (ς := Unit) (O := (fun (_ : Unit) => ([] : OS))) 7 o.nd (HG.frzL (f := id) (hn_lc o (Lcp.mk ⟨VP.at true (rTup K (RT.cons rStr (RT.one rStr))), [5, 6], _, (hi_list (hx_var (w := true) (r := (rLst K (rTup K (RT.cons rStr (RT.one rStr))))) 1)), blkOk_by (own := [("upper", 5), ("lower", 6)]) (by rfl), (by decide), fun _ _ _ _ _ _ a4 => (htg_tup (t := (RT.cons rStr (RT.one rStr))) (by exact o.calm) (htgs_cons (htg_name 5 (by exact o.nd)) (htgs_cons (htg_name 6 (by exact o.nd)) htgs_nil))), fun _ _ _ _ _ _ a4 => (hts_one (ht_eqS (hx_var (w := true) (r := rStr) 6) (hx_var (w := true) (r := rStr) 3))), fun _ _ _ _ _ _ a4 => (hx_index frStr (hx_var (w := true) (r := (rLst K rStr)) 0) (hx_var (w := true) (r := rStr) 5))⟩))) () (fun z3 q5 =>
  hb_ret (ς := Unit) (O := (fun (_ : Unit) => ([] : OS))) (hx_sum (by exact o.calm) bi.sum (HG.frzL (f := id) (hn_lc o (Lcp.mk ⟨VP.at true rInt, [8], _, (hi_list (hx_var (w := true) (r := (rLst K rInt)) 4)), blkOk_by (own := [("place", 8)]) (by rfl), (by decide), fun _ _ _ _ _ _ a6 => (htg_name 8 (by exact o.nd)), fun _ _ _ _ _ _ a6 => hts_nil, fun _ _ _ _ _ _ a6 => (hx_lenL bi.len (HG.frzL (f := id) (hn_lc (Ok.blk o) (Lcp.mk ⟨VP.at true rInt, [9], _, (hi_list (hx_var (w := true) (r := (rLst K rInt)) 7)), blkOk_by (own := [("at", 9)]) (by rfl), (by decide), fun _ _ _ _ _ _ a7 => (htg_name 9 (by exact o.nd)), fun _ _ _ _ _ _ a7 => (hts_one (ht_lt (hx_var (w := true) (r := rInt) 9) (hx_var (w := true) (r := rInt) 8))), fun _ _ _ _ _ _ a7 => (hx_var (w := true) (r := rInt) 9)⟩))))⟩)))) () (fun _ => rfl) (fun z q v S H st ow pv => ⟨(), S, st, trivial, pv⟩)))) (fun _ _ _ _ _ _ us hl => match us, hl with | [_, _, _, _], _ => rfl)
abbrev s__law_table_right : Stmt := top 20
theorem sc__law_table_right : FnScope ["table", "costs", "many", "number", "inner", "some", "last", "h", "one"] ["table", "costs", "many"] (defScope s__law_table_right) := ⟨rfl, rfl, rfl, by decide +kernel, rfl, by decide +kernel, by decide +kernel⟩
def _law_table_right_b14 (x : ((List (Int × Int)) × (List ((Int × Int) × Int)) × Int)) (a3 : Int) (z4 : (List Int) × Unit) (l9 : (List Int)) (a10 : Int) : R (List Int) :=
  ((fun s => ((SM.map2 (· + ·) (SM.bnd2 (fun d k => R.ofO (dget d k)) (SM.ret x.1) (SM.map2 (· - ·) (SM.ret a3) (SM.bnd2 shlR (SM.ret (1 : Int)) (SM.ret a10)))) (SM.map1 List.sum (SM.lc (SM.ret z4.1) (fun (a11 : Int) => (SM.map2 neB (SM.ret a11) (SM.ret a10))) (fun a11 => (SM.bnd2 (fun d k => R.ofO (dget d k)) (SM.ret x.2.1) (SM.map2 Prod.mk (SM.ret a11) (SM.ret a10))))))) s).bind fun z => (appR ((fun (s : (List Int)) => s) z.2) z.1).bind fun r => R.ok (r.1, (fun (s : (List Int)) (d : (List Int)) => (d)) z.2 r.2)) (l9)).bind fun z12 =>
  R.ok (z12.2)
def _law_table_right_b16 (x : ((List (Int × Int)) × (List ((Int × Int) × Int)) × Int)) (l2 : Unit) (a3 : Int) : R (Oc Unit Bool) :=
  ((SM.lc (SM.bnd1 rng1 (SM.ret x.2.2)) (fun (a5 : Int) => (SM.map2 eqB (SM.map2 Builtin.bitAnd (SM.bnd2 shrR (SM.ret a3) (SM.ret a5)) (SM.ret (1 : Int))) (SM.ret (1 : Int)))) (fun a5 => (SM.ret a5))) ()).bind fun z4 =>
  ((SM.ret ([] : (List Int))) ()).bind fun z6 =>
  ((SM.ret z4.1) ()).bind fun z8 => (foldR (_law_table_right_b14 x a3 z4) (z6.1) z8.1).bind fun l9 =>
  ((SM.pk fun t15 => (SM.or (SM.map2 neB (SM.bnd2 (fun d k => R.ofO (dget d k)) (SM.ret x.1) (SM.ret a3)) (SM.bnd1 minL (SM.ret l9))) (SM.map1 (fun _ => false) (SM.bnd2 (fun d k => R.ofO (dget d k)) (SM.ret x.1) (SM.ret a3))))) ()).bind fun z => if z.1 = true then
  ((SM.ret false) ()).bind fun z => R.ok ((Oc.rt z.1)) else
  R.ok (Oc.nx ())
def _law_table_right (x : ((List (Int × Int)) × (List ((Int × Int) × Int)) × Int)) : R Bool :=
  ((SM.or (SM.map2 neB (SM.map1 (fun xs => (xs.length : Int)) (SM.ret x.1)) (SM.bnd2 shlR (SM.ret (1 : Int)) (SM.ret x.2.2))) (SM.map2 neB (SM.bnd2 (fun d k => R.ofO (dget d k)) (SM.ret x.1) (SM.ret (0 : Int))) (SM.ret (0 : Int)))) ()).bind fun z => if z.1 = true then
  ((SM.ret false) ()).bind fun z => R.ok z.1 else
  ((SM.bnd2 rng2 (SM.ret (1 : Int)) (SM.bnd2 shlR (SM.ret (1 : Int)) (SM.ret x.2.2))) ()).bind fun z1 => (forR (_law_table_right_b16 x) () z1.1).bind fun o => ocB o (fun (l2 : Unit) =>
  ((SM.ret true) ()).bind fun z => R.ok z.1) (fun r => r)
abbrev _law_table_right_sp (K : PySem.W.Frag) : Sp := (spF (π0 := Unit) (π := Unit) noX (fun (x : ((List (Int × Int)) × (List ((Int × Int) × Int)) × Int)) _ => [VP.at false (rDic kInt rInt) (x.1), VP.at false (rDicT (ktCons kInt (ktOne kInt)) rInt) (x.2.1), VP.at true rInt (x.2.2)]) (fun _ _ => []) _law_table_right (fun (r : Bool) q => VP.at true rBl r) (fun _ _ => []) fun r q => ([] : OS))
theorem fk__law_table_right (bi : Bi mg) (D : Dfd K mg "_law_table_right" s__law_table_right) : Fk P w K mg base 1 "_law_table_right" ["table", "costs", "many"] (_law_table_right_sp K) :=
  mkFk D (fun fd F => fd_ok F sc__law_table_right 6 (fun _ _ => rfl) rfl fun cdv A outer s H E B x q0 o =>
  hb_ifR0 (HW.t (hw_or (ht_ne (hx_lenD bi.len (hx_var (w := false) (r := (rDic kInt rInt)) 0)) (hx_shl hx_int (hx_var (w := true) (r := rInt) 2))) (hw_or1 (ht_ne (hx_fl ffInt (hx_dget o (hx_var (w := false) (r := (rDic kInt rInt)) 0) hx_int)) hx_int)))) (
  hb_ret (ς := Unit) (O := (fun (_ : Unit) => ([] : OS))) hx_bl () (fun _ => rfl) (fun z q v S H st ow pv => ⟨(), S, st, trivial, pv⟩)) (
  hb_forY (kr := (fun r => r)) (ς := Unit) (O := (fun (_ : Unit) => ([] : OS))) (P := VP.at true rInt) (l0 := (fun (s : Unit) => ())) (asL := (fun l2 => [some (VP.at false (rDic kInt rInt) (x.1)), some (VP.at false (rDicT (ktCons kInt (ktOne kInt)) rInt) (x.2.1)), some (VP.at true rInt (x.2.2)), none, none, none, none, none, none])) (osL := (fun l2 => ([] : OS))) (f := (_law_table_right_b16 x)) o (hi_range2 bi.range hx_int (hx_shl hx_int (hx_var (w := true) (r := rInt) 2))) () (by exact fun _ => ⟨.inr rfl, ⟨.inr rfl, ⟨.inr rfl, ⟨.inl rfl, ⟨.inl rfl, ⟨.inl rfl, ⟨.inl rfl, ⟨.inl rfl, ⟨.inl rfl, trivial⟩⟩⟩⟩⟩⟩⟩⟩⟩) (fun _ => rfl) (fun l2 a3 => (htg_name 3 (by exact o.nd))) (fun l2 a3 =>
  hb_lcF (ς := Unit) (O := (fun (_ : Unit) => ([] : OS))) 4 o (Lcp.mk ⟨VP.at true rInt, [7], _, (hi_range1 bi.range (hx_var (w := true) (r := rInt) 2)), blkOk_by (own := [("h", 7)]) (by rfl), (by decide), fun _ _ _ _ _ _ a5 => (htg_name 7 (by exact o.nd)), fun _ _ _ _ _ _ a5 => (hts_one (ht_eq (hx_and (hx_shr (hx_var (w := true) (r := rInt) 3) (hx_var (w := true) (r := rInt) 7)) hx_int) hx_int)), fun _ _ _ _ _ _ a5 => (hx_var (w := true) (r := rInt) 7)⟩) () (fun z4 =>
  hb_asg (ς := Unit) (O := (fun (_ : Unit) => ([] : OS))) 5 o.nd (hn_nil (r := rInt)) () (fun z6 q7 =>
  hb_for (ς := Unit) (O := (fun (_ : Unit) => ([⟨q7, cLst rInt (z6.1), true⟩] : OS))) (P := VP.at true rInt) (l0 := (fun (s : Unit) => (z6.1))) (asL := (fun l9 => [some (VP.at false (rDic kInt rInt) (x.1)), some (VP.at false (rDicT (ktCons kInt (ktOne kInt)) rInt) (x.2.1)), some (VP.at true rInt (x.2.2)), some (VP.at true rInt (a3)), some (VP.at true (rLst K rInt) (z4.1)), some (VP.ptr q7), none, none, none])) (osL := (fun l9 => ([⟨q7, cLst rInt (l9), true⟩] : OS))) (f := (_law_table_right_b14 x a3 z4)) o (hi_list (hx_var (w := true) (r := (rLst K rInt)) 4)) () (by exact fun _ => ⟨.inr rfl, ⟨.inr rfl, ⟨.inr rfl, ⟨.inr rfl, ⟨.inr rfl, ⟨.inr rfl, ⟨.inl rfl, ⟨.inl rfl, ⟨.inl rfl, trivial⟩⟩⟩⟩⟩⟩⟩⟩⟩) (fun _ => rfl) (fun l9 a10 => (htg_name 6 (by exact o.nd))) (fun l9 a10 =>
  hb_expr (ς := (List Int)) (O := (fun (s : (List Int)) => ([⟨q7, cLst rInt (s), true⟩] : OS))) (hx_mutL PySem.F.slot_list_append PySem.F.type_list_append mt_append (ov_app (rp := rInt)) 5 0 (fun (s : (List Int)) => s) (fun (s : (List Int)) (d : (List Int)) => (d)) (ha_one (hx_add (hx_fl ffInt (hx_dget o (hx_var (w := false) (r := (rDic kInt rInt)) 0) (hx_sub (hx_var (w := true) (r := rInt) 3) (hx_shl hx_int (hx_var (w := true) (r := rInt) 6))))) (hx_sum (by exact o.calm) bi.sum (HG.frzL (f := id) (hn_lc o (Lcp.mk ⟨VP.at true rInt, [8], _, (hi_list (hx_var (w := true) (r := (rLst K rInt)) 4)), blkOk_by (own := [("one", 8)]) (by rfl), (by decide), fun _ _ _ _ _ _ a11 => (htg_name 8 (by exact o.nd)), fun _ _ _ _ _ _ a11 => (hts_one (ht_ne (hx_var (w := true) (r := rInt) 8) (hx_var (w := true) (r := rInt) 6))), fun _ _ _ _ _ _ a11 => (hx_fl ffInt (hx_dgetT (Ok.blk o) (hx_var (w := false) (r := (rDicT (ktCons kInt (ktOne kInt)) rInt)) 1) (hx_tupX (t := ((ktCons kInt (ktOne kInt))).t) (w := true) (hn := Nat.le_of_ble_eq_true rfl) (ha_cons (hx_var (w := true) (r := rInt) 8) (ha_one (hx_var (w := true) (r := rInt) 6))))))⟩))))))) (l9) (fun z12 q13 =>
  hb_end (as' := (fun l9 => [some (VP.at false (rDic kInt rInt) (x.1)), some (VP.at false (rDicT (ktCons kInt (ktOne kInt)) rInt) (x.2.1)), some (VP.at true rInt (x.2.2)), some (VP.at true rInt (a3)), some (VP.at true (rLst K rInt) (z4.1)), some (VP.ptr q7), none, none, none])) (os' := (fun l9 => ([⟨q7, cLst rInt (l9), true⟩] : OS))) (l := (z12.2)) (by exact ⟨.inr rfl, ⟨.inr rfl, ⟨.inr rfl, ⟨.inr rfl, ⟨.inr rfl, ⟨.inr rfl, ⟨.inl rfl, ⟨.inl rfl, ⟨.inl rfl, trivial⟩⟩⟩⟩⟩⟩⟩⟩⟩))) (fun l9 =>
  hb_ifR0 (ht_pk (fun (t15 : Unit) => [some (VP.at false (rDic kInt rInt) (x.1)), none, none, some (VP.at true rInt (a3)), none, some (VP.at false (rLst K rInt) (l9)), none, none, none]) (by exact fun _ => ⟨.same, ⟨.no, ⟨.no, ⟨.same, ⟨.no, ⟨pk_lst 0, ⟨.no, ⟨.no, ⟨.no, trivial⟩⟩⟩⟩⟩⟩⟩⟩⟩) fun _ _ => (HW.t (hw_or (ht_ne (hx_fl ffInt (hx_dget (Ok.pk o _) (hx_var (w := false) (r := (rDic kInt rInt)) 0) (hx_var (w := true) (r := rInt) 3))) (hx_minL (by exact o.calm) bi.min (hx_var (w := false) (r := (rLst K rInt)) 5))) (hw_or1 (ht_val (hx_isi (A := "int") (T' := "bool") (ti := false) (fun _ => ty_int) (by decide +kernel) bi.isinstance bi.bool (by decide +kernel) (hx_fl ffInt (hx_dget (Ok.pk o _) (hx_var (w := false) (r := (rDic kInt rInt)) 0) (hx_var (w := true) (r := rInt) 3))))))))) (
  hb_ret (ς := Unit) (O := (fun (_ : Unit) => ([⟨q7, cLst rInt (l9), true⟩] : OS))) hx_bl () (fun _ => rfl) (fun z q v S H st ow pv => ⟨(), S, st, trivial, pv⟩)) (
  hb_ow [] (os' := ([] : OS)) (hb_endO (as' := (fun l2 => [some (VP.at false (rDic kInt rInt) (x.1)), some (VP.at false (rDicT (ktCons kInt (ktOne kInt)) rInt) (x.2.1)), some (VP.at true rInt (x.2.2)), none, none, none, none, none, none])) (os' := (fun l2 => ([] : OS))) (l := ()) (by exact ⟨.inr rfl, ⟨.inr rfl, ⟨.inr rfl, ⟨.inl rfl, ⟨.inl rfl, ⟨.inl rfl, ⟨.inl rfl, ⟨.inl rfl, ⟨.inl rfl, trivial⟩⟩⟩⟩⟩⟩⟩⟩⟩))))))) (fun l2 =>
  hb_ret (ς := Unit) (O := (fun (_ : Unit) => ([] : OS))) hx_bl () (fun _ => rfl) (fun z q v S H st ow pv => ⟨(), S, st, trivial, pv⟩)))) (fun _ _ _ _ _ _ us hl => match us, hl with | [_, _, _], _ => rfl)
abbrev s__law_refused : Stmt := top 21
theorem sc__law_refused : FnScope ["fixed", "marks", "lines"] ["fixed", "marks", "lines"] (defScope s__law_refused) := ⟨rfl, rfl, rfl, by decide +kernel, rfl, by decide +kernel, by decide +kernel⟩
def _law_refused (x : ((List Str) × (List Str) × (List (Str × Str)))) : R Bool :=
  (tryR (((SM.bnd1 least_order (SM.map2 Prod.mk (SM.ret x.1) (SM.map2 Prod.mk (SM.ret x.2.1) (SM.ret x.2.2)))) ()).bind fun z2 =>
  R.ok (Oc.nx ())) (fun ε => ε.k == 1) (fun _ => ((SM.ret true) ()).bind fun z => R.ok ((Oc.rt z.1)))).bind fun o => ocB o (fun (l1 : Unit) =>
  ((SM.ret false) ()).bind fun z => R.ok z.1) (fun r => r)
abbrev _law_refused_sp (K : PySem.W.Frag) : Sp := (spF (π0 := Unit) (π := Unit) noX (fun (x : ((List Str) × (List Str) × (List (Str × Str)))) _ => [VP.at true (rLst K rStr) (x.1), VP.at true (rLst K rStr) (x.2.1), VP.at true (rLst K (rTup K (RT.cons rStr (RT.one rStr)))) (x.2.2)]) (fun _ _ => []) _law_refused (fun (r : Bool) q => VP.at true rBl r) (fun _ _ => []) fun r q => ([] : OS))
theorem fk__law_refused (bi : Bi mg) (D : Dfd K mg "_law_refused" s__law_refused) (xd_TooMany : Xd K mg "TooMany") (xm_TooMany : ∀ ε cls d G H, xrTM K ε cls d G H → PySem.W.exmOne K cls (.ref (He.ga K "TooMany")) = some (ε.k == 1) ∧ ((ε.k == 1) = false → noX ε cls d G H)) (fk_least_order_h : Fk P w K mg base 3 "least_order" ["fixed", "free", "lines"] (least_order_sp K)) : Fk P w K mg base 4 "_law_refused" ["fixed", "marks", "lines"] (_law_refused_sp K) :=
  mkFk D (fun fd F => fd_ok F sc__law_refused 0 (fun _ _ => rfl) rfl fun cdv A outer s H E B x q0 o =>
  hb_seqY (as1 := (fun l1 => [some (VP.at true (rLst K rStr) (x.1)), some (VP.at true (rLst K rStr) (x.2.1)), some (VP.at true (rLst K (rTup K (RT.cons rStr (RT.one rStr)))) (x.2.2))])) (os1 := (fun l1 => ([] : OS))) (kr := (fun r => r)) (hs_try (xr := (xrTM K)) o rfl rfl (Xd.names xd_TooMany rfl) xm_TooMany (trivial) (fun _ _ h => h) (fun W pn xe t p =>
  hb_expr (ς := Unit) (O := (fun (_ : Unit) => ([] : OS))) (hg_fkX fk_least_order_h (Ok.tr o t p) (by decide) (ha_cons (hx_var (w := true) (r := (rLst K rStr)) 0) (ha_cons (hx_var (w := true) (r := (rLst K rStr)) 1) (ha_one (hx_var (w := true) (r := (rLst K (rTup K (RT.cons rStr (RT.one rStr))))) 2)))) (fun _ _ => pg_tup (pgs_c pg_at (pgs_c pg_ptr (pgs_c pg_ptr pgs_n)))) (fun _ _ => (allF_cons (allF_cons allF_nil))) (Wk.refl _) (fun _ _ _ h => h) (fun _ _ _ _ _ h => h)) () (fun z2 q3 =>
  hb_ow [] (os' := ([] : OS)) (hb_endO (as' := (fun l1 => [some (VP.at true (rLst K rStr) (x.1)), some (VP.at true (rLst K rStr) (x.2.1)), some (VP.at true (rLst K (rTup K (RT.cons rStr (RT.one rStr)))) (x.2.2))])) (os' := (fun l1 => ([] : OS))) (l := ()) (by exact ⟨.inr rfl, ⟨.inr rfl, ⟨.inr rfl, trivial⟩⟩⟩)))) (fun _ _ _ _ =>
  hb_ret (ς := Unit) (O := (fun (_ : Unit) => ([] : OS))) hx_bl () (fun _ => rfl) (fun z q v S H st ow pv => ⟨(), S, st, trivial, pv⟩)) (fun _ => rfl)) (fun l1 =>
  hb_ret (ς := Unit) (O := (fun (_ : Unit) => ([] : OS))) hx_bl () (fun _ => rfl) (fun z q v S H st ow pv => ⟨(), S, st, trivial, pv⟩))) (fun _ _ _ _ _ _ us hl => match us, hl with | [_, _, _], _ => rfl)
abbrev s__law_right : Stmt := top 22
theorem sc__law_right : FnScope ["fixed", "marks", "lines", "handed", "told", "number", "order", "table", "costs", "k", "one", "j", "other", "own", "later"] ["fixed", "marks", "lines"] (defScope s__law_right) := ⟨rfl, rfl, rfl, by decide +kernel, rfl, by decide +kernel, by decide +kernel⟩
def _law_right_b19 (x : ((List Str) × (List Str) × (List (Str × Str)))) (a11 : (Int × Str)) (l13 : (List ((Int × Int) × Int))) (a14 : (Int × Str)) : R (List ((Int × Int) × Int)) :=
  ((SM.bnd1 (fun z => (_law_cost z).calm) (SM.map2 Prod.mk (SM.ret x.1) (SM.map2 Prod.mk (SM.ret x.2.2) (SM.map2 Prod.mk (SM.ret a11.2) (SM.ret a14.2))))) (l13)).bind fun z16 => ((SM.map2 Prod.mk (SM.ret a11.1) (SM.ret a14.1)) z16.2).bind fun y17 => (dputR ((fun (s : (List ((Int × Int) × Int))) => s) y17.2) y17.1 z16.1).bind fun l18 => (fun (s15 : (List ((Int × Int) × Int))) =>
  R.ok (s15)) (l18)
def _law_right_b20 (x : ((List Str) × (List Str) × (List (Str × Str)))) (l10 : (List ((Int × Int) × Int))) (a11 : (Int × Str)) : R (List ((Int × Int) × Int)) :=
  ((SM.map1 enumL (SM.ret x.2.1)) ()).bind fun z12 => (foldR (_law_right_b19 x a11) (l10) z12.1).bind fun l13 =>
  R.ok (l13)
def _law_right_b30 (x : ((List Str) × (List Str) × (List (Str × Str)))) (z3 : (Int × (List Str) × (List (Int × Int))) × Unit) (l10 : (List ((Int × Int) × Int))) (l25 : Int) (a26 : (Int × Str)) : R (Oc Int Bool) :=
  ((SM.map2 (· + ·) (SM.ret l25) (SM.map1 List.sum (SM.lc (SM.map3 cutL (SM.ret z3.1.2.1) (SM.map1 some (SM.map2 (· + ·) (SM.ret a26.1) (SM.ret (1 : Int)))) (SM.ret none)) (fun (a28 : Str) => (SM.ret true)) (fun a28 => (SM.bnd2 (fun d k => R.ofO (dget d k)) (SM.ret l10) (SM.map2 Prod.mk (SM.bnd2 idxR (SM.ret x.2.1) (SM.ret a26.2)) (SM.bnd2 idxR (SM.ret x.2.1) (SM.ret a28)))))))) ()).bind fun z27 =>
  R.ok (Oc.nx (z27.1))
def _law_right (x : ((List Str) × (List Str) × (List (Str × Str)))) : R Bool :=
  ((SM.map2 Prod.mk (SM.map1 id (SM.ret x.1)) (SM.map2 Prod.mk (SM.map1 id (SM.ret x.2.1)) (SM.map1 id (SM.ret x.2.2)))) ()).bind fun z1 =>
  ((SM.map2 gtB (SM.map1 (fun xs => (xs.length : Int)) (SM.ret x.2.1)) (SM.ret (8 : Int))) ()).bind fun z => if z.1 = true then
  ((SM.and (SM.bnd1 (fun z => (_law_refused z).calm) (SM.map2 Prod.mk (SM.map1 (fun (x : ((List Str) × (List Str) × (List (Str × Str)))) => x.1) (SM.ret z1.1)) (SM.map2 Prod.mk (SM.map1 (fun (x : ((List Str) × (List Str) × (List (Str × Str)))) => x.2.1) (SM.ret z1.1)) (SM.map1 (fun (x : ((List Str) × (List Str) × (List (Str × Str)))) => x.2.2) (SM.ret z1.1))))) (SM.bnd2 (eqD ((dqLsH (dtCons (dqLst dqStr) (dtCons (dqLst dqStr) (dtOne (dqLst (dqTup (dtCons dqStr (dtOne dqStr)))))))) : DQ K0 (rLsH K0 (RT.cons (rLst K0 rStr) (RT.cons (rLst K0 rStr) (RT.one (rLst K0 (rTup K0 (RT.cons rStr (RT.one rStr))))))))).can) (SM.ret z1.1) (SM.map2 Prod.mk (SM.ret x.1) (SM.map2 Prod.mk (SM.ret x.2.1) (SM.ret x.2.2))))) ()).bind fun z => R.ok z.1 else
  ((SM.bnd1 (fun z => (least_order z).calm) (SM.map2 Prod.mk (SM.map1 (fun (x : ((List Str) × (List Str) × (List (Str × Str)))) => x.1) (SM.ret z1.1)) (SM.map2 Prod.mk (SM.map1 (fun (x : ((List Str) × (List Str) × (List (Str × Str)))) => x.2.1) (SM.ret z1.1)) (SM.map1 (fun (x : ((List Str) × (List Str) × (List (Str × Str)))) => x.2.2) (SM.ret z1.1))))) ()).bind fun z3 =>
  ((SM.or (SM.not (SM.map1 (fun _ => true) (SM.ret ()))) (SM.or (SM.map2 neB (SM.map1 (fun _ => ((3 : Nat) : Int)) (SM.ret ())) (SM.ret (3 : Int))) (SM.bnd2 (neD ((dqLsH (dtCons (dqLst dqStr) (dtCons (dqLst dqStr) (dtOne (dqLst (dqTup (dtCons dqStr (dtOne dqStr)))))))) : DQ K0 (rLsH K0 (RT.cons (rLst K0 rStr) (RT.cons (rLst K0 rStr) (RT.one (rLst K0 (rTup K0 (RT.cons rStr (RT.one rStr))))))))).can) (SM.ret z1.1) (SM.map2 Prod.mk (SM.ret x.1) (SM.map2 Prod.mk (SM.ret x.2.1) (SM.ret x.2.2)))))) ()).bind fun z => if z.1 = true then
  ((SM.ret false) ()).bind fun z => R.ok z.1 else
  ((SM.ret ()) ()).bind fun z5 =>
  ((SM.ret ([] : (List ((Int × Int) × Int)))) ()).bind fun z7 =>
  ((SM.map1 enumL (SM.ret x.2.1)) ()).bind fun z9 => (foldR (_law_right_b20 x) (z7.1) z9.1).bind fun l10 =>
  ((SM.pk fun t21 => (SM.or (SM.not (SM.bnd1 (fun z => (_law_table_right z).calm) (SM.map2 Prod.mk (SM.ret z3.1.2.2) (SM.map2 Prod.mk (SM.ret l10) (SM.map1 (fun xs => (xs.length : Int)) (SM.ret x.2.1)))))) (SM.map2 neB (SM.bnd2 (fun d k => R.ofO (dget d k)) (SM.ret z3.1.2.2) (SM.map2 (· - ·) (SM.bnd2 shlR (SM.ret (1 : Int)) (SM.map1 (fun xs => (xs.length : Int)) (SM.ret x.2.1))) (SM.ret (1 : Int)))) (SM.ret z3.1.1)))) ()).bind fun z => if z.1 = true then
  ((SM.ret false) ()).bind fun z => R.ok z.1 else
  ((SM.pk fun t22 => (SM.or (SM.bnd2 (neD ((dqLst dqStr) : DQ K0 (rLst K0 rStr)).can) (SM.bnd1 sortS (SM.ret z3.1.2.1)) (SM.bnd1 sortS (SM.ret x.2.1))) (SM.map2 neB (SM.bnd1 (fun z => (crossings z).calm) (SM.map2 Prod.mk (SM.ret x.1) (SM.map2 Prod.mk (SM.ret z3.1.2.1) (SM.ret x.2.2)))) (SM.ret z3.1.1)))) ()).bind fun z => if z.1 = true then
  ((SM.ret false) ()).bind fun z => R.ok z.1 else
  ((SM.ret (0 : Int)) ()).bind fun z23 =>
  (((SM.map1 enumL (SM.ret z3.1.2.1)) ()).bind fun z => forR (_law_right_b30 x z3 l10) (z23.1) z.1).calm.bind fun o => ocB o (fun (l25 : Int) =>
  ((fun s => (revR ((fun (s : (List Str)) => s) s)).bind fun r => R.ok (r.1, (fun (s : (List Str)) (d : (List Str)) => (d)) s r.2)) (z3.1.2.1)).bind fun z31 =>
  ((fun s => R.ok ((), (fun (s : (List (Int × Int))) (d : (List (Int × Int))) => (d)) s [])) (z3.1.2.2)).bind fun z33 =>
  ((SM.bnd1 (fun z => (least_order z).calm) (SM.map2 Prod.mk (SM.map1 (fun (x : ((List Str) × (List Str) × (List (Str × Str)))) => x.1) (SM.ret z1.1)) (SM.map2 Prod.mk (SM.map1 (fun (x : ((List Str) × (List Str) × (List (Str × Str)))) => x.2.1) (SM.ret z1.1)) (SM.map1 (fun (x : ((List Str) × (List Str) × (List (Str × Str)))) => x.2.2) (SM.ret z1.1))))) ()).bind fun z35 =>
  ((SM.pk fun t37 => (SM.and (SM.map2 eqB (SM.ret l25) (SM.ret z3.1.1)) (SM.and (SM.map2 eqB (SM.map1 (fun _ => z35.1.1) (SM.ret ())) (SM.ret z3.1.1)) (SM.bnd1 (fun z => (_law_table_right z).calm) (SM.map2 Prod.mk (SM.map1 (fun _ => z35.1.2.2) (SM.ret ())) (SM.map2 Prod.mk (SM.ret l10) (SM.map1 (fun xs => (xs.length : Int)) (SM.ret x.2.1)))))))) ()).bind fun z => R.ok z.1) (fun r => r)
abbrev _law_right_sp (K : PySem.W.Frag) : Sp := (spF (π0 := Unit) (π := Unit) noX (fun (x : ((List Str) × (List Str) × (List (Str × Str)))) _ => [VP.at true (rLst K rStr) (x.1), VP.at true (rLst K rStr) (x.2.1), VP.at true (rLst K (rTup K (RT.cons rStr (RT.one rStr)))) (x.2.2)]) (fun _ _ => []) _law_right (fun (r : Bool) q => VP.at true rBl r) (fun _ _ => []) fun r q => ([] : OS))
theorem fk__law_right (bi : Bi mg) (D : Dfd K mg "_law_right" s__law_right) (fk__law_refused_h : Fk P w K mg base 4 "_law_refused" ["fixed", "marks", "lines"] (_law_refused_sp K)) (fk_least_order_h : Fk P w K mg base 3 "least_order" ["fixed", "free", "lines"] (least_order_sp K)) (fk__law_cost_h : Fk P w K mg base 1 "_law_cost" ["fixed", "lines", "one", "other"] (_law_cost_sp K)) (fk__law_table_right_h : Fk P w K mg base 1 "_law_table_right" ["table", "costs", "many"] (_law_table_right_sp K)) (fk_crossings_h : Fk P w K mg base 2 "crossings" ["upper", "lower", "lines"] (crossings_sp K)) : Fk P w K mg base 5 "_law_right" ["fixed", "marks", "lines"] (_law_right_sp K) :=
  mkFk D (fun fd F => fd_ok F sc__law_right 12 (fun _ _ => rfl) rfl fun cdv A outer s H E B x q0 o =>
  hb_asg (ς := Unit) (O := (fun (_ : Unit) => ([] : OS))) 3 o.nd (hx_lsH (t := (RT.cons (rLst K rStr) (RT.cons (rLst K rStr) (RT.one (rLst K (rTup K (RT.cons rStr (RT.one rStr)))))))) (hn := Nat.le_of_ble_eq_true rfl) (ha_cons (HG.frzL (f := id) (hn_list bi.list (hx_var (w := true) (r := (rLst K rStr)) 0))) (ha_cons (HG.frzL (f := id) (hn_list bi.list (hx_var (w := true) (r := (rLst K rStr)) 1))) (ha_one (HG.frzL (f := id) (hn_list bi.list (hx_var (w := true) (r := (rLst K (rTup K (RT.cons rStr (RT.one rStr))))) 2))))))) () (fun z1 q2 =>
  hb_ifR0 (ht_gt (hx_lenL bi.len (hx_var (w := true) (r := (rLst K rStr)) 1)) hx_int) (
  hb_ret (ς := Unit) (O := (fun (_ : Unit) => ([] : OS))) (hx_andV (hg_fk fk__law_refused_h o (by decide) (ha_cons (hx_lix (t := (RT.cons (rLst K rStr) (RT.cons (rLst K rStr) (RT.one (rLst K (rTup K (RT.cons rStr (RT.one rStr)))))))) (k := 0) (f := (fun (x : ((List Str) × (List Str) × (List (Str × Str)))) => x.1)) tg_0 (hx_var (w := true) (r := (rLsH K (RT.cons (rLst K rStr) (RT.cons (rLst K rStr) (RT.one (rLst K (rTup K (RT.cons rStr (RT.one rStr))))))))) 3)) (ha_cons (hx_lix (t := (RT.cons (rLst K rStr) (RT.cons (rLst K rStr) (RT.one (rLst K (rTup K (RT.cons rStr (RT.one rStr)))))))) (k := 1) (f := (fun (x : ((List Str) × (List Str) × (List (Str × Str)))) => x.2.1)) (tg_s tg_0) (hx_var (w := true) (r := (rLsH K (RT.cons (rLst K rStr) (RT.cons (rLst K rStr) (RT.one (rLst K (rTup K (RT.cons rStr (RT.one rStr))))))))) 3)) (ha_one (hx_lix (t := (RT.cons (rLst K rStr) (RT.cons (rLst K rStr) (RT.one (rLst K (rTup K (RT.cons rStr (RT.one rStr)))))))) (k := 2) (f := (fun (x : ((List Str) × (List Str) × (List (Str × Str)))) => x.2.2)) (tg_s (tg_s tg_one)) (hx_var (w := true) (r := (rLsH K (RT.cons (rLst K rStr) (RT.cons (rLst K rStr) (RT.one (rLst K (rTup K (RT.cons rStr (RT.one rStr))))))))) 3))))) (fun _ _ => pg_at) (fun _ _ => allF_nil)) (hx_one (hx_eqD (hn := Nat.le_of_ble_eq_true rfl) o (dqLsH (dtCons (dqLst dqStr) (dtCons (dqLst dqStr) (dtOne (dqLst (dqTup (dtCons dqStr (dtOne dqStr)))))))) (hx_var (w := true) (r := (rLsH K (RT.cons (rLst K rStr) (RT.cons (rLst K rStr) (RT.one (rLst K (rTup K (RT.cons rStr (RT.one rStr))))))))) 3) (hx_lsH (t := (RT.cons (rLst K rStr) (RT.cons (rLst K rStr) (RT.one (rLst K (rTup K (RT.cons rStr (RT.one rStr)))))))) (hn := Nat.le_of_ble_eq_true rfl) (ha_cons (hx_var (w := true) (r := (rLst K rStr)) 0) (ha_cons (hx_var (w := true) (r := (rLst K rStr)) 1) (ha_one (hx_var (w := true) (r := (rLst K (rTup K (RT.cons rStr (RT.one rStr))))) 2)))))))) () (fun _ => rfl) (fun z q v S H st ow pv => ⟨(), S, st, trivial, pv⟩)) (
  hb_asg (ς := Unit) (O := (fun (_ : Unit) => ([] : OS))) 4 o.nd (hg_fk fk_least_order_h o (by decide) (ha_cons (hx_lix (t := (RT.cons (rLst K rStr) (RT.cons (rLst K rStr) (RT.one (rLst K (rTup K (RT.cons rStr (RT.one rStr)))))))) (k := 0) (f := (fun (x : ((List Str) × (List Str) × (List (Str × Str)))) => x.1)) tg_0 (hx_var (w := true) (r := (rLsH K (RT.cons (rLst K rStr) (RT.cons (rLst K rStr) (RT.one (rLst K (rTup K (RT.cons rStr (RT.one rStr))))))))) 3)) (ha_cons (hx_lix (t := (RT.cons (rLst K rStr) (RT.cons (rLst K rStr) (RT.one (rLst K (rTup K (RT.cons rStr (RT.one rStr)))))))) (k := 1) (f := (fun (x : ((List Str) × (List Str) × (List (Str × Str)))) => x.2.1)) (tg_s tg_0) (hx_var (w := true) (r := (rLsH K (RT.cons (rLst K rStr) (RT.cons (rLst K rStr) (RT.one (rLst K (rTup K (RT.cons rStr (RT.one rStr))))))))) 3)) (ha_one (hx_lix (t := (RT.cons (rLst K rStr) (RT.cons (rLst K rStr) (RT.one (rLst K (rTup K (RT.cons rStr (RT.one rStr)))))))) (k := 2) (f := (fun (x : ((List Str) × (List Str) × (List (Str × Str)))) => x.2.2)) (tg_s (tg_s tg_one)) (hx_var (w := true) (r := (rLsH K (RT.cons (rLst K rStr) (RT.cons (rLst K rStr) (RT.one (rLst K (rTup K (RT.cons rStr (RT.one rStr))))))))) 3))))) (fun _ _ => pg_tup (pgs_c pg_at (pgs_c pg_ptr (pgs_c pg_ptr pgs_n)))) (fun _ _ => (allF_cons (allF_cons allF_nil)))) () (fun z3 q4 =>
  hb_ifR0 (HW.t (hw_or (ht_not (ht_val (hx_isi (A := "tuple") (T' := "tuple") (ti := true) (fun _ => ty_tupV) (by decide +kernel) bi.isinstance bi.tuple (by decide +kernel) (hx_varV 4)))) (hw_or (ht_ne (hx_lenTV (n := 3) (fun _ => rfl) bi.len (hx_varV 4)) hx_int) (hw_or1 (ht_neD (hn := Nat.le_of_ble_eq_true rfl) o (dqLsH (dtCons (dqLst dqStr) (dtCons (dqLst dqStr) (dtOne (dqLst (dqTup (dtCons dqStr (dtOne dqStr)))))))) (hx_var (w := true) (r := (rLsH K (RT.cons (rLst K rStr) (RT.cons (rLst K rStr) (RT.one (rLst K (rTup K (RT.cons rStr (RT.one rStr))))))))) 3) (hx_lsH (t := (RT.cons (rLst K rStr) (RT.cons (rLst K rStr) (RT.one (rLst K (rTup K (RT.cons rStr (RT.one rStr)))))))) (hn := Nat.le_of_ble_eq_true rfl) (ha_cons (hx_var (w := true) (r := (rLst K rStr)) 0) (ha_cons (hx_var (w := true) (r := (rLst K rStr)) 1) (ha_one (hx_var (w := true) (r := (rLst K (rTup K (RT.cons rStr (RT.one rStr))))) 2)))))))))) (
  hb_ret (ς := Unit) (O := (fun (_ : Unit) => ([⟨q4.1, cLst rStr (z3.1.2.1), true⟩, ⟨q4.2, cDic kInt rInt (z3.1.2.2), true⟩] : OS))) hx_bl () (fun _ => rfl) (fun z q v S H st ow pv => ⟨(), S, st, trivial, pv⟩)) (
  hb_asgT (ς := Unit) (O := (fun (_ : Unit) => ([⟨q4.1, cLst rStr (z3.1.2.1), true⟩, ⟨q4.2, cDic kInt rInt (z3.1.2.2), true⟩] : OS))) (hx_varV 4) () (fun _ _ => (htg_tupV o.calm (htgs_cons (htg_name 5 o.nd) (htgs_cons (htg_name 6 o.nd) (htgs_cons (htg_name 7 o.nd) htgs_nil))))) (fun z5 q6 =>
  hb_asg (ς := Unit) (O := (fun (_ : Unit) => ([⟨q4.1, cLst rStr (z3.1.2.1), true⟩, ⟨q4.2, cDic kInt rInt (z3.1.2.2), true⟩] : OS))) 8 o.nd (hn_dnilT (kt := (ktCons kInt (ktOne kInt))) (r := rInt)) () (fun z7 q8 =>
  hb_for (ς := Unit) (O := (fun (_ : Unit) => ([⟨q8, cDicT (ktCons kInt (ktOne kInt)) rInt (z7.1), true⟩, ⟨q4.1, cLst rStr (z3.1.2.1), true⟩, ⟨q4.2, cDic kInt rInt (z3.1.2.2), true⟩] : OS))) (P := VP.at true (rTup K (RT.cons rInt (RT.one rStr)))) (l0 := (fun (s : Unit) => (z7.1))) (asL := (fun l10 => [some (VP.at true (rLst K rStr) (x.1)), some (VP.at true (rLst K rStr) (x.2.1)), some (VP.at true (rLst K (rTup K (RT.cons rStr (RT.one rStr)))) (x.2.2)), some (VP.at true (rLsH K (RT.cons (rLst K rStr) (RT.cons (rLst K rStr) (RT.one (rLst K (rTup K (RT.cons rStr (RT.one rStr)))))))) (z1.1)), some (VP.tup K [(VP.at true rInt (z3.1.1)), (VP.ptr q4.1), (VP.ptr q4.2)]), some (VP.at true rInt (z3.1.1)), some (VP.ptr q4.1), some (VP.ptr q4.2), some (VP.ptr q8), none, none, none, none, none, none])) (osL := (fun l10 => ([⟨q8, cDicT (ktCons kInt (ktOne kInt)) rInt (l10), true⟩, ⟨q4.1, cLst rStr (z3.1.2.1), true⟩, ⟨q4.2, cDic kInt rInt (z3.1.2.2), true⟩] : OS))) (f := (_law_right_b20 x)) o (hi_enum bi.enumerate (hx_var (w := true) (r := (rLst K rStr)) 1)) () (by exact fun _ => ⟨.inr rfl, ⟨.inr rfl, ⟨.inr rfl, ⟨.inr rfl, ⟨.inr rfl, ⟨.inr rfl, ⟨.inr rfl, ⟨.inr rfl, ⟨.inr rfl, ⟨.inl rfl, ⟨.inl rfl, ⟨.inl rfl, ⟨.inl rfl, ⟨.inl rfl, ⟨.inl rfl, trivial⟩⟩⟩⟩⟩⟩⟩⟩⟩⟩⟩⟩⟩⟩⟩) (fun _ => rfl) (fun l10 a11 => (htg_tup (t := (RT.cons rInt (RT.one rStr))) (by exact o.calm) (htgs_cons (htg_name 9 (by exact o.nd)) (htgs_cons (htg_name 10 (by exact o.nd)) htgs_nil)))) (fun l10 a11 =>
  hb_for (ς := Unit) (O := (fun (_ : Unit) => ([⟨q8, cDicT (ktCons kInt (ktOne kInt)) rInt (l10), true⟩, ⟨q4.1, cLst rStr (z3.1.2.1), true⟩, ⟨q4.2, cDic kInt rInt (z3.1.2.2), true⟩] : OS))) (P := VP.at true (rTup K (RT.cons rInt (RT.one rStr)))) (l0 := (fun (s : Unit) => (l10))) (asL := (fun l13 => [some (VP.at true (rLst K rStr) (x.1)), some (VP.at true (rLst K rStr) (x.2.1)), some (VP.at true (rLst K (rTup K (RT.cons rStr (RT.one rStr)))) (x.2.2)), some (VP.at true (rLsH K (RT.cons (rLst K rStr) (RT.cons (rLst K rStr) (RT.one (rLst K (rTup K (RT.cons rStr (RT.one rStr)))))))) (z1.1)), some (VP.tup K [(VP.at true rInt (z3.1.1)), (VP.ptr q4.1), (VP.ptr q4.2)]), some (VP.at true rInt (z3.1.1)), some (VP.ptr q4.1), some (VP.ptr q4.2), some (VP.ptr q8), some (VP.at true rInt (a11.1)), some (VP.at true rStr (a11.2)), none, none, none, none])) (osL := (fun l13 => ([⟨q8, cDicT (ktCons kInt (ktOne kInt)) rInt (l13), true⟩, ⟨q4.1, cLst rStr (z3.1.2.1), true⟩, ⟨q4.2, cDic kInt rInt (z3.1.2.2), true⟩] : OS))) (f := (_law_right_b19 x a11)) o (hi_enum bi.enumerate (hx_var (w := true) (r := (rLst K rStr)) 1)) () (by exact fun _ => ⟨.inr rfl, ⟨.inr rfl, ⟨.inr rfl, ⟨.inr rfl, ⟨.inr rfl, ⟨.inr rfl, ⟨.inr rfl, ⟨.inr rfl, ⟨.inr rfl, ⟨.inr rfl, ⟨.inr rfl, ⟨.inl rfl, ⟨.inl rfl, ⟨.inl rfl, ⟨.inl rfl, trivial⟩⟩⟩⟩⟩⟩⟩⟩⟩⟩⟩⟩⟩⟩⟩) (fun _ => rfl) (fun l13 a14 => (htg_tup (t := (RT.cons rInt (RT.one rStr))) (by exact o.calm) (htgs_cons (htg_name 11 (by exact o.nd)) (htgs_cons (htg_name 12 (by exact o.nd)) htgs_nil)))) (fun l13 a14 =>
  hb_putDT (kt := (ktCons kInt (ktOne kInt))) (r := rInt) (ς := (List ((Int × Int) × Int))) (O := (fun (s : (List ((Int × Int) × Int))) => ([⟨q8, cDicT (ktCons kInt (ktOne kInt)) rInt (s), true⟩, ⟨q4.1, cLst rStr (z3.1.2.1), true⟩, ⟨q4.2, cDic kInt rInt (z3.1.2.2), true⟩] : OS))) (kf := fun (s15 : (List ((Int × Int) × Int))) => _) o 8 0 (fun (s : (List ((Int × Int) × Int))) => s) (fun (s : (List ((Int × Int) × Int))) (d : (List ((Int × Int) × Int))) => (d)) (hg_fk fk__law_cost_h o (by decide) (ha_cons (hx_var (w := true) (r := (rLst K rStr)) 0) (ha_cons (hx_var (w := true) (r := (rLst K (rTup K (RT.cons rStr (RT.one rStr))))) 2) (ha_cons (hx_var (w := true) (r := rStr) 10) (ha_one (hx_var (w := true) (r := rStr) 12))))) (fun _ _ => pg_at) (fun _ _ => allF_nil)) (hx_tupX (t := ((ktCons kInt (ktOne kInt))).t) (w := true) (hn := Nat.le_of_ble_eq_true rfl) (ha_cons (hx_var (w := true) (r := rInt) 9) (ha_one (hx_var (w := true) (r := rInt) 11)))) (l13) (fun s15 =>
  hb_end (as' := (fun l13 => [some (VP.at true (rLst K rStr) (x.1)), some (VP.at true (rLst K rStr) (x.2.1)), some (VP.at true (rLst K (rTup K (RT.cons rStr (RT.one rStr)))) (x.2.2)), some (VP.at true (rLsH K (RT.cons (rLst K rStr) (RT.cons (rLst K rStr) (RT.one (rLst K (rTup K (RT.cons rStr (RT.one rStr)))))))) (z1.1)), some (VP.tup K [(VP.at true rInt (z3.1.1)), (VP.ptr q4.1), (VP.ptr q4.2)]), some (VP.at true rInt (z3.1.1)), some (VP.ptr q4.1), some (VP.ptr q4.2), some (VP.ptr q8), some (VP.at true rInt (a11.1)), some (VP.at true rStr (a11.2)), none, none, none, none])) (os' := (fun l13 => ([⟨q8, cDicT (ktCons kInt (ktOne kInt)) rInt (l13), true⟩, ⟨q4.1, cLst rStr (z3.1.2.1), true⟩, ⟨q4.2, cDic kInt rInt (z3.1.2.2), true⟩] : OS))) (l := (s15)) (by exact ⟨.inr rfl, ⟨.inr rfl, ⟨.inr rfl, ⟨.inr rfl, ⟨.inr rfl, ⟨.inr rfl, ⟨.inr rfl, ⟨.inr rfl, ⟨.inr rfl, ⟨.inr rfl, ⟨.inr rfl, ⟨.inl rfl, ⟨.inl rfl, ⟨.inl rfl, ⟨.inl rfl, trivial⟩⟩⟩⟩⟩⟩⟩⟩⟩⟩⟩⟩⟩⟩⟩))) (fun l13 =>
  hb_end (as' := (fun l10 => [some (VP.at true (rLst K rStr) (x.1)), some (VP.at true (rLst K rStr) (x.2.1)), some (VP.at true (rLst K (rTup K (RT.cons rStr (RT.one rStr)))) (x.2.2)), some (VP.at true (rLsH K (RT.cons (rLst K rStr) (RT.cons (rLst K rStr) (RT.one (rLst K (rTup K (RT.cons rStr (RT.one rStr)))))))) (z1.1)), some (VP.tup K [(VP.at true rInt (z3.1.1)), (VP.ptr q4.1), (VP.ptr q4.2)]), some (VP.at true rInt (z3.1.1)), some (VP.ptr q4.1), some (VP.ptr q4.2), some (VP.ptr q8), none, none, none, none, none, none])) (os' := (fun l10 => ([⟨q8, cDicT (ktCons kInt (ktOne kInt)) rInt (l10), true⟩, ⟨q4.1, cLst rStr (z3.1.2.1), true⟩, ⟨q4.2, cDic kInt rInt (z3.1.2.2), true⟩] : OS))) (l := (l13)) (by exact ⟨.inr rfl, ⟨.inr rfl, ⟨.inr rfl, ⟨.inr rfl, ⟨.inr rfl, ⟨.inr rfl, ⟨.inr rfl, ⟨.inr rfl, ⟨.inr rfl, ⟨.inl rfl, ⟨.inl rfl, ⟨.inl rfl, ⟨.inl rfl, ⟨.inl rfl, ⟨.inl rfl, trivial⟩⟩⟩⟩⟩⟩⟩⟩⟩⟩⟩⟩⟩⟩⟩))) (fun l10 =>
  hb_ifR0 (ht_pk (fun (t21 : Unit) => [none, some (VP.at true (rLst K rStr) (x.2.1)), none, none, none, some (VP.at true rInt (z3.1.1)), none, some (VP.at false (rDic kInt rInt) (z3.1.2.2)), some (VP.at false (rDicT (ktCons kInt (ktOne kInt)) rInt) (l10)), none, none, none, none, none, none]) (by exact fun _ => ⟨.no, ⟨.same, ⟨.no, ⟨.no, ⟨.no, ⟨.same, ⟨.no, ⟨pk_dic 2, ⟨pk_dicT 0, ⟨.no, ⟨.no, ⟨.no, ⟨.no, ⟨.no, ⟨.no, trivial⟩⟩⟩⟩⟩⟩⟩⟩⟩⟩⟩⟩⟩⟩⟩) fun _ _ => (HW.t (hw_or (ht_not (ht_val (hg_fk fk__law_table_right_h (Ok.pk o _) (by decide) (ha_cons (hx_var (w := false) (r := (rDic kInt rInt)) 7) (ha_cons (hx_var (w := false) (r := (rDicT (ktCons kInt (ktOne kInt)) rInt)) 8) (ha_one (hx_lenL bi.len (hx_var (w := true) (r := (rLst K rStr)) 1))))) (fun _ _ => pg_at) (fun _ _ => allF_nil)))) (hw_or1 (ht_ne (hx_fl ffInt (hx_dget (Ok.pk o _) (hx_var (w := false) (r := (rDic kInt rInt)) 7) (hx_sub (hx_shl hx_int (hx_lenL bi.len (hx_var (w := true) (r := (rLst K rStr)) 1))) hx_int))) (hx_var (w := true) (r := rInt) 5)))))) (
  hb_ret (ς := Unit) (O := (fun (_ : Unit) => ([⟨q8, cDicT (ktCons kInt (ktOne kInt)) rInt (l10), true⟩, ⟨q4.1, cLst rStr (z3.1.2.1), true⟩, ⟨q4.2, cDic kInt rInt (z3.1.2.2), true⟩] : OS))) hx_bl () (fun _ => rfl) (fun z q v S H st ow pv => ⟨(), S, st, trivial, pv⟩)) (
  hb_ifR0 (ht_pk (fun (t22 : Unit) => [some (VP.at true (rLst K rStr) (x.1)), some (VP.at true (rLst K rStr) (x.2.1)), some (VP.at true (rLst K (rTup K (RT.cons rStr (RT.one rStr)))) (x.2.2)), none, none, some (VP.at true rInt (z3.1.1)), some (VP.at false (rLst K rStr) (z3.1.2.1)), none, none, none, none, none, none, none, none]) (by exact fun _ => ⟨.same, ⟨.same, ⟨.same, ⟨.no, ⟨.no, ⟨.same, ⟨pk_lst 1, ⟨.no, ⟨.no, ⟨.no, ⟨.no, ⟨.no, ⟨.no, ⟨.no, ⟨.no, trivial⟩⟩⟩⟩⟩⟩⟩⟩⟩⟩⟩⟩⟩⟩⟩) fun _ _ => (HW.t (hw_or (ht_neD (hn := Nat.le_of_ble_eq_true rfl) (Ok.pk o _) (dqLst dqStr) (HG.frzL (f := id) (hn_sortS bi.sorted (hx_var (w := false) (r := (rLst K rStr)) 6))) (HG.frzL (f := id) (hn_sortS bi.sorted (hx_var (w := true) (r := (rLst K rStr)) 1)))) (hw_or1 (ht_ne (hg_fk fk_crossings_h (Ok.pk o _) (by decide) (ha_cons (hx_bor (hx_var (w := true) (r := (rLst K rStr)) 0)) (ha_cons (hx_var (w := false) (r := (rLst K rStr)) 6) (ha_one (hx_var (w := true) (r := (rLst K (rTup K (RT.cons rStr (RT.one rStr))))) 2)))) (fun _ _ => pg_at) (fun _ _ => allF_nil)) (hx_var (w := true) (r := rInt) 5)))))) (
  hb_ret (ς := Unit) (O := (fun (_ : Unit) => ([⟨q8, cDicT (ktCons kInt (ktOne kInt)) rInt (l10), true⟩, ⟨q4.1, cLst rStr (z3.1.2.1), true⟩, ⟨q4.2, cDic kInt rInt (z3.1.2.2), true⟩] : OS))) hx_bl () (fun _ => rfl) (fun z q v S H st ow pv => ⟨(), S, st, trivial, pv⟩)) (
  hb_asg (ς := Unit) (O := (fun (_ : Unit) => ([⟨q8, cDicT (ktCons kInt (ktOne kInt)) rInt (l10), true⟩, ⟨q4.1, cLst rStr (z3.1.2.1), true⟩, ⟨q4.2, cDic kInt rInt (z3.1.2.2), true⟩] : OS))) 13 o.nd hx_int () (fun z23 q24 =>
  hb_seqY (as1 := (fun (l25 : Int) => [some (VP.at true (rLst K rStr) (x.1)), some (VP.at true (rLst K rStr) (x.2.1)), some (VP.at true (rLst K (rTup K (RT.cons rStr (RT.one rStr)))) (x.2.2)), some (VP.at true (rLsH K (RT.cons (rLst K rStr) (RT.cons (rLst K rStr) (RT.one (rLst K (rTup K (RT.cons rStr (RT.one rStr)))))))) (z1.1)), none, some (VP.at true rInt (z3.1.1)), some (VP.ptr q4.1), some (VP.ptr q4.2), some (VP.ptr q8), none, none, none, none, some (VP.at true rInt (l25)), none])) (os1 := fun _ => [⟨q8, cDicT (ktCons kInt (ktOne kInt)) rInt (l10), true⟩, ⟨q4.1, cLst rStr (z3.1.2.1), true⟩, ⟨q4.2, cDic kInt rInt (z3.1.2.2), true⟩]) (kr := (fun r => r)) (hs_pk (PR := fun _ => VP.fls) (as' := [some (VP.at true (rLst K rStr) (x.1)), some (VP.at true (rLst K rStr) (x.2.1)), some (VP.at true (rLst K (rTup K (RT.cons rStr (RT.one rStr)))) (x.2.2)), some (VP.at true (rLsH K (RT.cons (rLst K rStr) (RT.cons (rLst K rStr) (RT.one (rLst K (rTup K (RT.cons rStr (RT.one rStr)))))))) (z1.1)), some (VP.tup K [(VP.at true rInt (z3.1.1)), (VP.ptr q4.1), (VP.ptr q4.2)]), some (VP.at true rInt (z3.1.1)), some (VP.bo q4.1 (VP.at false (rLst K rStr) (z3.1.2.1))), some (VP.ptr q4.2), some (VP.bo q8 (VP.at false (rDicT (ktCons kInt (ktOne kInt)) rInt) (l10))), none, none, none, none, some (VP.at true rInt (z23.1)), none]) (as1 := (fun l25 => [some (VP.at true (rLst K rStr) (x.1)), some (VP.at true (rLst K rStr) (x.2.1)), some (VP.at true (rLst K (rTup K (RT.cons rStr (RT.one rStr)))) (x.2.2)), some (VP.at true (rLsH K (RT.cons (rLst K rStr) (RT.cons (rLst K rStr) (RT.one (rLst K (rTup K (RT.cons rStr (RT.one rStr)))))))) (z1.1)), some (VP.tup K [(VP.at true rInt (z3.1.1)), (VP.ptr q4.1), (VP.ptr q4.2)]), some (VP.at true rInt (z3.1.1)), some (VP.bo q4.1 (VP.at false (rLst K rStr) (z3.1.2.1))), some (VP.ptr q4.2), some (VP.bo q8 (VP.at false (rDicT (ktCons kInt (ktOne kInt)) rInt) (l10))), none, none, none, none, some (VP.at true rInt (l25)), none])) (by exact ⟨.same, ⟨.same, ⟨.same, ⟨.same, ⟨.same, ⟨.same, ⟨pb_lst 1, ⟨.same, ⟨pb_dicT 0, ⟨.no, ⟨.no, ⟨.no, ⟨.no, ⟨.same, ⟨.no, trivial⟩⟩⟩⟩⟩⟩⟩⟩⟩⟩⟩⟩⟩⟩⟩) (fun _ => hs_for (ς := Unit) (O := fun _ => ([] : OS)) (P := VP.at false (rTup K (RT.cons rInt (RT.one rStr)))) (l0 := fun _ => (z23.1)) (asL := (fun l25 => [some (VP.at true (rLst K rStr) (x.1)), some (VP.at true (rLst K rStr) (x.2.1)), some (VP.at true (rLst K (rTup K (RT.cons rStr (RT.one rStr)))) (x.2.2)), some (VP.at true (rLsH K (RT.cons (rLst K rStr) (RT.cons (rLst K rStr) (RT.one (rLst K (rTup K (RT.cons rStr (RT.one rStr)))))))) (z1.1)), some (VP.tup K [(VP.at true rInt (z3.1.1)), (VP.ptr q4.1), (VP.ptr q4.2)]), some (VP.at true rInt (z3.1.1)), some (VP.bo q4.1 (VP.at false (rLst K rStr) (z3.1.2.1))), some (VP.ptr q4.2), some (VP.bo q8 (VP.at false (rDicT (ktCons kInt (ktOne kInt)) rInt) (l10))), none, none, none, none, some (VP.at true rInt (l25)), none])) (osL := fun _ => []) (f := (_law_right_b30 x z3 l10)) (Ok.pk o _) (hi_enum bi.enumerate (hx_bo (w := false) (r := (rLst K rStr)) 6)) () (fun _ => ⟨.inr rfl, ⟨.inr rfl, ⟨.inr rfl, ⟨.inr rfl, ⟨.inr rfl, ⟨.inr rfl, ⟨.inr rfl, ⟨.inr rfl, ⟨.inr rfl, ⟨.inl rfl, ⟨.inl rfl, ⟨.inl rfl, ⟨.inl rfl, ⟨.inr rfl, ⟨.inl rfl, trivial⟩⟩⟩⟩⟩⟩⟩⟩⟩⟩⟩⟩⟩⟩⟩) (fun _ => rfl) (fun l25 a26 => (htg_tup (t := (RT.cons rInt (RT.one rStr))) (by exact o.calm) (htgs_cons (htg_name 9 (by exact o.nd)) (htgs_cons (htg_name 10 (by exact o.nd)) htgs_nil)))) (fun l25 a26 =>
  hb_asg (ς := Unit) (O := (fun (_ : Unit) => ([] : OS))) 13 o.nd (hx_add (hx_var (w := true) (r := rInt) 13) (hx_sum (by exact o.calm) bi.sum (HG.frzL (f := id) (hn_lc (Ok.pk o _) (Lcp.mk ⟨VP.at false rStr, [12], _, (hi_list (hx_cutB (hx_bo (w := false) (r := (rLst K rStr)) 6) (ho_some (hx_add (hx_fl ffInt (hx_var (w := false) (r := rInt) 9)) hx_int)) ho_none)), blkOk_by (own := [("other", 12)]) (by rfl), (by decide), fun _ _ _ _ _ _ a28 => (htg_name 12 (by exact o.nd)), fun _ _ _ _ _ _ a28 => hts_nil, fun _ _ _ _ _ _ a28 => (hx_fl ffInt (hx_dgetT (Ok.blk (Ok.pk o _)) (hx_bo (w := false) (r := (rDicT (ktCons kInt (ktOne kInt)) rInt)) 8) (hx_tupX (t := ((ktCons kInt (ktOne kInt))).t) (w := true) (hn := Nat.le_of_ble_eq_true rfl) (ha_cons (hx_index frStr (hx_var (w := true) (r := (rLst K rStr)) 1) (hx_fl ffStr (hx_var (w := false) (r := rStr) 10))) (ha_one (hx_index frStr (hx_var (w := true) (r := (rLst K rStr)) 1) (hx_fl ffStr (hx_var (w := false) (r := rStr) 12))))))))⟩))))) () (fun z27 q29 =>
  hb_endO (as' := (fun l25 => [some (VP.at true (rLst K rStr) (x.1)), some (VP.at true (rLst K rStr) (x.2.1)), some (VP.at true (rLst K (rTup K (RT.cons rStr (RT.one rStr)))) (x.2.2)), some (VP.at true (rLsH K (RT.cons (rLst K rStr) (RT.cons (rLst K rStr) (RT.one (rLst K (rTup K (RT.cons rStr (RT.one rStr)))))))) (z1.1)), some (VP.tup K [(VP.at true rInt (z3.1.1)), (VP.ptr q4.1), (VP.ptr q4.2)]), some (VP.at true rInt (z3.1.1)), some (VP.bo q4.1 (VP.at false (rLst K rStr) (z3.1.2.1))), some (VP.ptr q4.2), some (VP.bo q8 (VP.at false (rDicT (ktCons kInt (ktOne kInt)) rInt) (l10))), none, none, none, none, some (VP.at true rInt (l25)), none])) (os' := (fun l25 => ([] : OS))) (l := (z27.1)) (by exact ⟨.inr rfl, ⟨.inr rfl, ⟨.inr rfl, ⟨.inr rfl, ⟨.inr rfl, ⟨.inr rfl, ⟨.inr rfl, ⟨.inr rfl, ⟨.inr rfl, ⟨.inl rfl, ⟨.inl rfl, ⟨.inl rfl, ⟨.inl rfl, ⟨.inr rfl, ⟨.inl rfl, trivial⟩⟩⟩⟩⟩⟩⟩⟩⟩⟩⟩⟩⟩⟩⟩)))) (by exact fun l25 => ⟨.go pg_at, ⟨.go pg_at, ⟨.go pg_at, ⟨.go pg_at, ⟨.no, ⟨.go pg_at, ⟨.bo, ⟨.go pg_ptr, ⟨.bo, ⟨.no, ⟨.no, ⟨.no, ⟨.no, ⟨.go pg_at, ⟨.no, trivial⟩⟩⟩⟩⟩⟩⟩⟩⟩⟩⟩⟩⟩⟩⟩) (fun _ _ _ _ _ h => h) (fun _ _ _ _ _ _ h => h.elim)) (fun l25 =>
  hb_expr (ς := (List Str)) (O := (fun (s : (List Str)) => ([⟨q8, cDicT (ktCons kInt (ktOne kInt)) rInt (l10), true⟩, ⟨q4.1, cLst rStr (s), true⟩, ⟨q4.2, cDic kInt rInt (z3.1.2.2), true⟩] : OS))) (hx_mutL0 PySem.F.slot_list_reverse PySem.F.type_list_reverse mt_reverse (ov_rev (rp := rStr)) 6 1 (fun (s : (List Str)) => s) (fun (s : (List Str)) (d : (List Str)) => (d))) (z3.1.2.1) (fun z31 q32 =>
  hb_expr (ς := (List (Int × Int))) (O := (fun (s : (List (Int × Int))) => ([⟨q8, cDicT (ktCons kInt (ktOne kInt)) rInt (l10), true⟩, ⟨q4.1, cLst rStr (z31.2), true⟩, ⟨q4.2, cDic kInt rInt (s), true⟩] : OS))) (hx_dclear (kk := kInt) (r := rInt) 7 2 (fun (s : (List (Int × Int))) => s) (fun (s : (List (Int × Int))) (d : (List (Int × Int))) => (d))) (z3.1.2.2) (fun z33 q34 =>
  hb_asg (ς := Unit) (O := (fun (_ : Unit) => ([⟨q8, cDicT (ktCons kInt (ktOne kInt)) rInt (l10), true⟩, ⟨q4.1, cLst rStr (z31.2), true⟩, ⟨q4.2, cDic kInt rInt (z33.2), true⟩] : OS))) 14 o.nd (hg_fk fk_least_order_h o (by decide) (ha_cons (hx_lix (t := (RT.cons (rLst K rStr) (RT.cons (rLst K rStr) (RT.one (rLst K (rTup K (RT.cons rStr (RT.one rStr)))))))) (k := 0) (f := (fun (x : ((List Str) × (List Str) × (List (Str × Str)))) => x.1)) tg_0 (hx_var (w := true) (r := (rLsH K (RT.cons (rLst K rStr) (RT.cons (rLst K rStr) (RT.one (rLst K (rTup K (RT.cons rStr (RT.one rStr))))))))) 3)) (ha_cons (hx_lix (t := (RT.cons (rLst K rStr) (RT.cons (rLst K rStr) (RT.one (rLst K (rTup K (RT.cons rStr (RT.one rStr)))))))) (k := 1) (f := (fun (x : ((List Str) × (List Str) × (List (Str × Str)))) => x.2.1)) (tg_s tg_0) (hx_var (w := true) (r := (rLsH K (RT.cons (rLst K rStr) (RT.cons (rLst K rStr) (RT.one (rLst K (rTup K (RT.cons rStr (RT.one rStr))))))))) 3)) (ha_one (hx_lix (t := (RT.cons (rLst K rStr) (RT.cons (rLst K rStr) (RT.one (rLst K (rTup K (RT.cons rStr (RT.one rStr)))))))) (k := 2) (f := (fun (x : ((List Str) × (List Str) × (List (Str × Str)))) => x.2.2)) (tg_s (tg_s tg_one)) (hx_var (w := true) (r := (rLsH K (RT.cons (rLst K rStr) (RT.cons (rLst K rStr) (RT.one (rLst K (rTup K (RT.cons rStr (RT.one rStr))))))))) 3))))) (fun _ _ => pg_tup (pgs_c pg_at (pgs_c pg_ptr (pgs_c pg_ptr pgs_n)))) (fun _ _ => (allF_cons (allF_cons allF_nil)))) () (fun z35 q36 =>
  hb_ret (ς := Unit) (O := (fun (_ : Unit) => ([⟨q36.1, cLst rStr (z35.1.2.1), true⟩, ⟨q36.2, cDic kInt rInt (z35.1.2.2), true⟩, ⟨q8, cDicT (ktCons kInt (ktOne kInt)) rInt (l10), true⟩, ⟨q4.1, cLst rStr (z31.2), true⟩, ⟨q4.2, cDic kInt rInt (z33.2), true⟩] : OS))) (hx_pk (fun (t37 : Unit) => [none, some (VP.at true (rLst K rStr) (x.2.1)), none, none, none, some (VP.at true rInt (z3.1.1)), none, none, some (VP.at false (rDicT (ktCons kInt (ktOne kInt)) rInt) (l10)), none, none, none, none, some (VP.at true rInt (l25)), some (VP.tup K [(VP.at true rInt (z35.1.1)), (VP.at false (rLst K rStr) (z35.1.2.1)), (VP.at false (rDic kInt rInt) (z35.1.2.2))])]) _ (by exact fun _ => ⟨.no, ⟨.same, ⟨.no, ⟨.no, ⟨.no, ⟨.same, ⟨.no, ⟨.no, ⟨pk_dicT 2, ⟨.no, ⟨.no, ⟨.no, ⟨.no, ⟨.same, ⟨pk_tup (pkl_same (pkl_rd (K := K) (pk_lst 0) (pkl_rd (K := K) (pk_dic 1) pkl_nil))), trivial⟩⟩⟩⟩⟩⟩⟩⟩⟩⟩⟩⟩⟩⟩⟩) fun _ _ => (hx_andV (hx_eq (hx_var (w := true) (r := rInt) 13) (hx_var (w := true) (r := rInt) 5)) (hx_andV (hx_eq (hx_tixW (k := 0) (r := rInt) (w := true) (x := z35.1.1) (fun _ => rfl) (hx_varV 14)) (hx_var (w := true) (r := rInt) 5)) (hx_one (hg_fk fk__law_table_right_h (Ok.pk o _) (by decide) (ha_cons (hx_tixW (k := 2) (r := (rDic kInt rInt)) (w := false) (x := z35.1.2.2) (fun _ => rfl) (hx_varV 14)) (ha_cons (hx_var (w := false) (r := (rDicT (ktCons kInt (ktOne kInt)) rInt)) 8) (ha_one (hx_lenL bi.len (hx_var (w := true) (r := (rLst K rStr)) 1))))) (fun _ _ => pg_at) (fun _ _ => allF_nil)))))) () (fun _ => rfl) (fun z q v S H st ow pv => ⟨(), S, st, trivial, pv⟩)))))))))))))))) (fun _ _ _ _ _ _ us hl => match us, hl with | [_, _, _], _ => rfl)
abbrev s_law : Stmt := top 23
theorem sc_law : FnScope ["script", "cell", "source", "fixed", "marks", "lines"] ["script"] (defScope s_law) := ⟨rfl, rfl, rfl, by decide +kernel, rfl, by decide +kernel, by decide +kernel⟩
def law_b8 (l2 : Unit) (a3 : Int) : R (Oc Unit Bool) :=
  ((SM.bnd1 (fun z => (_law_source z).calm) (SM.ret a3)) ()).bind fun z4 =>
  ((fun s => ((SM.ret ()) s).bind fun z => (_law_drawn ((fun (_ : Unit) (d : (List Int)) => d) z.1 ((fun (s : (List Int)) => s) z.2))).calm.bind fun r => R.ok (r.1, (fun (s : (List Int)) (d : (List Int)) => (d)) z.2 r.2)) (z4.1)).bind fun z6 =>
  ((SM.not (SM.bnd1 (fun z => (_law_right z).calm) (SM.map2 Prod.mk (SM.ret z6.1.1) (SM.map2 Prod.mk (SM.ret z6.1.2.1) (SM.ret z6.1.2.2))))) ()).bind fun z => if z.1 = true then
  ((SM.ret false) ()).bind fun z => R.ok ((Oc.rt z.1)) else
  R.ok (Oc.nx ())
def law (x : (List Int)) : R Bool :=
  ((SM.map3 cutL (SM.bnd2 catL (SM.ret x) (SM.bnd1 dispR (SM.map2 List.cons (SM.ret (0 : Int)) (SM.ret [])))) (SM.ret none) (SM.map1 some (SM.ret (3 : Int)))) ()).bind fun z1 => (forR law_b8 () z1.1).bind fun o => ocB o (fun (l2 : Unit) =>
  ((SM.ret true) ()).bind fun z => R.ok z.1) (fun r => r)
abbrev law_sp (K : PySem.W.Frag) : Sp := (spF (π0 := Unit) (π := Unit) noX (fun (x : (List Int)) _ => [VP.at true (rLst K rInt) (x)]) (fun _ _ => []) law (fun (r : Bool) q => VP.at true rBl r) (fun _ _ => []) fun r q => ([] : OS))
theorem fk_law (bi : Bi mg) (D : Dfd K mg "law" s_law) (fk__law_source_h : Fk P w K mg base 1 "_law_source" ["cell"] (_law_source_sp K)) (fk__law_drawn_h : Fk P w K mg base 3 "_law_drawn" ["source"] (_law_drawn_sp K)) (fk__law_right_h : Fk P w K mg base 5 "_law_right" ["fixed", "marks", "lines"] (_law_right_sp K)) : Fk P w K mg base 6 "law" ["script"] (law_sp K) :=
  mkFk D (fun fd F => fd_ok F sc_law 5 (fun _ _ => rfl) rfl fun cdv A outer s H E B x q0 o =>
  hb_forY (kr := (fun r => r)) (ς := Unit) (O := (fun (_ : Unit) => ([] : OS))) (P := VP.at true rInt) (l0 := (fun (s : Unit) => ())) (asL := (fun l2 => [some (VP.at true (rLst K rInt) (x)), none, none, none, none, none])) (osL := (fun l2 => ([] : OS))) (f := law_b8) o (hi_list (HG.frzL (f := id) (hn_cut (HG.frzL (f := id) (hn_catL (hx_var (w := true) (r := (rLst K rInt)) 0) (HG.frzL (f := id) (hn_lstD (hl_cons hx_int (hl_nil)))))) ho_none (ho_some hx_int)))) () (by exact fun _ => ⟨.inr rfl, ⟨.inl rfl, ⟨.inl rfl, ⟨.inl rfl, ⟨.inl rfl, ⟨.inl rfl, trivial⟩⟩⟩⟩⟩⟩) (fun _ => rfl) (fun l2 a3 => (htg_name 1 (by exact o.nd))) (fun l2 a3 =>
  hb_asg (ς := Unit) (O := (fun (_ : Unit) => ([] : OS))) 2 o.nd (hg_fk fk__law_source_h o (by decide) (ha_one (hx_var (w := true) (r := rInt) 1)) (fun _ _ => pg_ptr) (fun _ _ => allF_cons allF_nil)) () (fun z4 q5 =>
  hb_asgT (ς := (List Int)) (O := (fun (s : (List Int)) => ([⟨q5, cLst rInt (s), true⟩] : OS))) (hg_fkM fk__law_drawn_h o (by decide) 0 (fun (s : (List Int)) => s) (fun (s : (List Int)) (d : (List Int)) => (d)) (fun (_ : Unit) (d : (List Int)) => d) (ha_one (hx_ptr 2)) (hB := fun _ _ => pg_at) (hf := fun _ _ => allF_nil)) (z4.1) (fun _ _ => (htg_tup (t := (RT.cons (rLst K rStr) (RT.cons (rLst K rStr) (RT.one (rLst K (rTup K (RT.cons rStr (RT.one rStr)))))))) (by exact o.calm) (htgs_cons (htg_name 3 (by exact o.nd)) (htgs_cons (htg_name 4 (by exact o.nd)) (htgs_cons (htg_name 5 (by exact o.nd)) htgs_nil))))) (fun z6 q7 =>
  hb_ifR0 (ht_not (ht_val (hg_fk fk__law_right_h o (by decide) (ha_cons (hx_var (w := true) (r := (rLst K rStr)) 3) (ha_cons (hx_var (w := true) (r := (rLst K rStr)) 4) (ha_one (hx_var (w := true) (r := (rLst K (rTup K (RT.cons rStr (RT.one rStr))))) 5)))) (fun _ _ => pg_at) (fun _ _ => allF_nil)))) (
  hb_ret (ς := Unit) (O := (fun (_ : Unit) => ([⟨q5, cLst rInt (z6.2), true⟩] : OS))) hx_bl () (fun _ => rfl) (fun z q v S H st ow pv => ⟨(), S, st, trivial, pv⟩)) (
  hb_ow [] (os' := ([] : OS)) (hb_endO (as' := (fun l2 => [some (VP.at true (rLst K rInt) (x)), none, none, none, none, none])) (os' := (fun l2 => ([] : OS))) (l := ()) (by exact ⟨.inr rfl, ⟨.inl rfl, ⟨.inl rfl, ⟨.inl rfl, ⟨.inl rfl, ⟨.inl rfl, trivial⟩⟩⟩⟩⟩⟩)))))) (fun l2 =>
  hb_ret (ς := Unit) (O := (fun (_ : Unit) => ([] : OS))) hx_bl () (fun _ => rfl) (fun z q v S H st ow pv => ⟨(), S, st, trivial, pv⟩))) (fun _ _ _ _ _ _ us hl => match us, hl with | [_], _ => rfl)
end
end K57

/-! Plain laws of k57: dicts, places, ends, costs, members. -/
namespace Y
section
variable {κ α : Type} [DecidableEq κ]
theorem dget_nil (k : κ) : dget ([] : List (κ × α)) k = none := rfl
theorem dget_cons (e : κ × α) (d : List (κ × α)) (k : κ) : dget (e :: d) k = if e.1 = k then some e.2 else dget d k := by
  by_cases h : e.1 = k
  · simp [dget, List.find?_cons, h]
  · simp [dget, List.find?_cons, h]
theorem dget_append (d e : List (κ × α)) (k : κ) : dget (d ++ e) k = (dget d k).or (dget e k) := by
  induction d with
  | nil => rw [List.nil_append, dget_nil]; rfl
  | cons a d ih =>
    rw [List.cons_append, dget_cons, dget_cons, ih]
    split <;> rfl
theorem dget_map (d : List (κ × α)) (k k' : κ) (v : α) : dget (d.map fun e => if e.1 = k then (e.1, v) else e) k' = if k' = k then (dget d k').map (fun _ => v) else dget d k' := by
  induction d with
  | nil => simp [dget_nil]
  | cons a d ih =>
    rw [List.map_cons, dget_cons, ih, dget_cons]
    by_cases h1 : a.1 = k
    · rw [if_pos h1]
      by_cases h2 : k' = k
      · subst h2; simp [h1]
      · rw [if_neg h2, if_neg h2]
        have h3 : ¬ a.1 = k' := fun z => h2 (z.symm.trans h1)
        rw [if_neg h3, if_neg h3]
    · rw [if_neg h1]
      by_cases h3 : a.1 = k'
      · rw [if_pos h3]
        have h2 : ¬ k' = k := fun z => h1 (h3.trans z)
        rw [if_neg h2, if_pos h3]
      · rw [if_neg h3, if_neg h3]
theorem dget_some_any {d : List (κ × α)} {k : κ} : (d.any fun e => decide (e.1 = k)) = (dget d k).isSome := by
  induction d with
  | nil => rfl
  | cons a d ih =>
    rw [List.any_cons, dget_cons, ih]
    by_cases h : a.1 = k <;> simp [h]
theorem dget_put (d : List (κ × α)) (k k' : κ) (v : α) : dget (dput d k v) k' = if k' = k then some v else dget d k' := by
  unfold dput
  rw [dget_some_any]
  cases h : dget d k with
  | none =>
    rw [if_neg (by simp), dget_append, dget_cons, dget_nil]
    by_cases h2 : k' = k
    · subst h2; rw [h]; simp
    · rw [if_neg h2, if_neg (fun z => h2 z.symm)]; cases dget d k' <;> rfl
  | some a =>
    rw [if_pos (by simp), dget_map]
    by_cases h2 : k' = k
    · subst h2; rw [h]; simp
    · rw [if_neg h2, if_neg h2]
theorem dput_length (d : List (κ × α)) (k : κ) (v : α) : (dput d k v).length ≤ d.length + 1 := by
  unfold dput
  split <;> simp
theorem dput_new {d : List (κ × α)} {k : κ} (v : α) (h : dget d k = none) : dput d k v = d ++ [(k, v)] := by
  unfold dput
  rw [dget_some_any, h, if_neg (by simp)]
end
theorem enumL_get' {α : Type} {xs : List α} {i : Nat} {x : α} (h : xs[i]? = some x) : (enumL xs)[i]? = some ((i : Int), x) := by
  have hi := (List.getElem?_eq_some_iff.mp h).1
  unfold enumL
  rw [List.getElem?_zipWith, List.getElem?_range hi, h]
theorem getI_nat {α : Type} {xs : List α} {i : Nat} {x : α} (h : xs[i]? = some x) : getI xs (i : Int) = .ok x := by
  unfold getI
  have e : L2.atI xs (i : Int) = some x := L2.atI_nat h
  rw [e]; rfl
theorem idxR_of {α : Type} [DecidableEq α] {xs : List α} {x : α} (h : x ∈ xs) : idxR xs x = .ok (xs.idxOf x : Int) := by
  unfold idxR
  have e : (xs.findIdx? fun z => decide (z = x)) = some (xs.idxOf x) := by
    rw [List.findIdx?_eq_some_iff_getElem]
    have hl := List.idxOf_lt_length_of_mem h
    refine ⟨hl, by simp [List.getElem_idxOf hl], fun j hj => ?_⟩
    have z := List.not_of_lt_findIdx (xs := xs) (p := fun z => z == x) (i := j) hj
    simpa using z
  rw [e]; rfl
theorem nodup_idx {α : Type} [DecidableEq α] {xs : List α} (hn : xs.Nodup) {i : Nat} {x : α} (h : xs[i]? = some x) : xs.idxOf x = i := by
  obtain ⟨hi, e⟩ := List.getElem?_eq_some_iff.mp h
  subst e
  exact hn.idxOf_getElem i hi
end Y
namespace K57
open PySem PySem.Spec PyProof.Rows L2 Y
theorem places_ok {xs : List Str} (hn : xs.Nodup) (hl : xs.length ≤ 16777216) : ∃ d, places_of xs = .ok d ∧ ∀ x ∈ xs, dget d x = some (xs.idxOf x : Int) := by
  obtain ⟨d, h1, h2⟩ := foldR_inv (f := places_of_b10) (fun n d => d.length ≤ n ∧ ∀ i < n, ∀ x, xs[i]? = some x → dget d x = some (i : Int)) (enumL xs) 0 [] ⟨Nat.le_refl _, fun i h => absurd h (Nat.not_lt_zero _)⟩ fun i l a ⟨g1, g2⟩ ha => by
    obtain ⟨e1, e2⟩ := enumL_get ha
    have hi := (List.getElem?_eq_some_iff.mp e1).1
    rw [Nat.zero_add] at g1 g2 ⊢
    refine ⟨dput l a.2 a.1, ?_, Nat.le_trans (dput_length _ _ _) (by omega), fun j hj x hx => ?_⟩
    · unfold places_of_b10
      simp only [sm_ret, R.bind_ok, dputR]
      rw [R.guard_true (by omega)]
      simp only [R.bind_ok]
    · rw [dget_put]
      by_cases hq : x = a.2
      · subst hq
        rw [if_pos rfl, e2]
        have u1 := nodup_idx hn hx
        have u2 := nodup_idx hn e1
        rw [← u1, u2]
      · rw [if_neg hq]
        refine g2 j ?_ x hx
        rcases Nat.lt_succ_iff_lt_or_eq.mp hj with h | h
        · exact h
        · subst h; rw [e1] at hx; exact (hq (Option.some.inj hx).symm).elim
  refine ⟨d, ?_, fun x hx => ?_⟩
  · unfold places_of
    simp only [sm_ret, sm_map1, R.bind_ok]
    rw [h1]; rfl
  · have hlt := List.idxOf_lt_length_of_mem hx
    exact h2.2 (xs.idxOf x) (by rw [enumL_len]; omega) x (by rw [List.getElem?_eq_getElem hlt, List.getElem_idxOf hlt])
/-- the places of the lines at a mark -/
def endsM (fixed : List Str) (lines : List (Str × Str)) (m : Str) : List Int := (lines.filter fun z => decide (z.2 = m)).map fun z => (fixed.idxOf z.1 : Int)
theorem ends_ok {fixed free : List Str} {lines : List (Str × Str)} (hn : fixed.Nodup) (hf : fixed.length ≤ 16777216) (hm : free.length ≤ 16777216) (hl : lines.length ≤ 16777216) (hin : ∀ z ∈ lines, z.1 ∈ fixed) : ends_of (fixed, free, lines) = .ok (free.map (endsM fixed lines)) := by
  obtain ⟨d, h1, h2⟩ := places_ok hn hf
  unfold ends_of
  simp only [sm_ret, sm_map1, sm_map2, sm_bnd1, sm_bnd2, R.bind_ok, R.bind_assoc, h1, R.calm_ok]
  rw [lc_ok (p := fun _ => true) (g := endsM fixed lines) (xs := free) (s' := ()) rfl (fun _ _ => rfl) (fun m _ _ => ?_) hm]
  · simp [filter_tt]
  · rw [lc_ok (p := fun z => eqS z.2 m) (g := fun z => (fixed.idxOf z.1 : Int)) (xs := lines) (s' := ()) rfl (fun _ _ => rfl) (fun z hz _ => ?_) hl]
    · rfl
    · simp [h2 z.1 (hin z hz)]
/-- of two rows of places, the pairs that cross -/
def cst (A B : List Int) : Int := (A.map fun x => ((B.filter fun y => decide (y < x)).length : Int)).sum
theorem cost_ok {ends : List (List Int)} {a b : Nat} {A B : List Int} (ha : ends[a]? = some A) (hb : ends[b]? = some B) (lA : A.length ≤ 16777216) (lB : B.length ≤ 16777216) : cost (ends, (a : Int), (b : Int)) = .ok (cst A B) := by
  unfold cost
  simp only [sm_ret, sm_map1, sm_map2, sm_bnd1, sm_bnd2, R.bind_ok, R.bind_assoc]
  rw [lc_ok (p := fun _ => true) (g := fun x => ((B.filter fun y => decide (y < x)).length : Int)) (xs := A) (s' := ()) (by simp [getI_nat ha]) (fun _ _ => rfl) (fun x _ _ => ?_) lA]
  · simp [filter_tt]
    rfl
  · rw [sm_map1, lc_ok (p := fun y => ltB y x) (g := fun y => y) (xs := B) (s' := ()) (by simp [getI_nat hb]) (fun _ _ => rfl) (fun y _ _ => rfl) lB]
    simp only [R.bind_ok, List.map_id']
    rfl
/-- the members of a set -/
def mem (N s : Nat) : List Nat := (List.range N).filter fun h => s.testBit h
theorem shr_test (s h : Nat) : Builtin.bitAnd ((s : Int) / 2 ^ h) 1 = if s.testBit h then 1 else 0 := by
  have e : ((s : Int) / 2 ^ h) = ((s / 2 ^ h : Nat) : Int) := by push_cast; rfl
  rw [e, bitAnd_m1]
  rw [Nat.testBit_eq_decide_div_mod_eq]
  by_cases q : s / 2 ^ h % 2 = 1
  · rw [decide_eq_true q, if_pos rfl]; omega
  · rw [decide_eq_false q, if_neg (by simp)]; omega
theorem members_ok {N s : Nat} (hN : N ≤ 64) : members ((s : Int), (N : Int)) = .ok ((mem N s).map fun (h : Nat) => (h : Int)) := by
  unfold members
  simp only [sm_ret, sm_map1, sm_map2, sm_bnd1, sm_bnd2, R.bind_ok, R.bind_assoc]
  rw [lc_ok (p := fun h => eqB (Builtin.bitAnd ((s : Int) / 2 ^ h.toNat) 1) 1) (g := fun h => h) (xs := rangeL 0 (N : Int)) (s' := ()) ?_ (fun h hh => ?_) (fun _ _ _ => rfl) (by rw [rangeL_len]; omega)]
  · simp only [R.bind_ok]
    have e : rangeL 0 (N : Int) = (List.range N).map fun (h : Nat) => (h : Int) := by
      unfold rangeL
      simp
    rw [e, List.map_id']
    unfold mem
    rw [List.filter_map]
    congr 2
    apply List.filter_congr
    intro h _
    show eqB (Builtin.bitAnd ((s : Int) / 2 ^ ((h : Int)).toNat) 1) 1 = s.testBit h
    rw [Int.toNat_natCast, shr_test]
    cases s.testBit h <;> rfl
  · simp only [sm_bnd1, sm_ret, R.bind_ok]
    rw [rng1_ok (by omega) (by omega), R.bind_ok]
  · have h0 : 0 ≤ h := by
      unfold rangeL at hh
      obtain ⟨k, _, e⟩ := List.mem_map.mp hh
      omega
    simp only [sm_map2, sm_bnd2, sm_ret, R.bind_ok, shrR]
    rw [R.guard_true h0]
    rfl
end K57

/-! k57: the table of least costs. -/
namespace K57
open PySem PySem.Spec PyProof.Rows L2 Y
def bits8 : Bool := (List.range 256).all fun s => (List.range 8).all fun l => !s.testBit l || (decide (2 ^ l ≤ s) && (List.range 8).all fun h => (s - 2 ^ l).testBit h == (s.testBit h && (h != l)))
theorem bits8_t : bits8 = true := by decide +kernel
theorem bit_sub {s l : Nat} (hs : s < 256) (hl : l < 8) (h : s.testBit l = true) : 2 ^ l ≤ s ∧ ∀ k < 8, (s - 2 ^ l).testBit k = (s.testBit k && (k != l)) := by
  have z := List.all_eq_true.mp bits8_t s (List.mem_range.mpr hs)
  have z := List.all_eq_true.mp z l (List.mem_range.mpr hl)
  rw [h, Bool.not_true, Bool.false_or, Bool.and_eq_true] at z
  refine ⟨of_decide_eq_true z.1, fun k hk => ?_⟩
  exact eq_of_beq (List.all_eq_true.mp z.2 k (List.mem_range.mpr hk))
theorem mem_lt {N s h : Nat} (m : h ∈ mem N s) : h < N ∧ s.testBit h = true := by
  unfold mem at m
  rw [List.mem_filter, List.mem_range] at m
  exact m
theorem mem_sub {N s l : Nat} (hN : N ≤ 8) (hs : s < 256) (m : l ∈ mem N s) : mem N (s - 2 ^ l) = (mem N s).filter fun h => h != l := by
  obtain ⟨h1, h2⟩ := mem_lt m
  obtain ⟨_, hb⟩ := bit_sub hs (by omega) h2
  unfold mem
  rw [List.filter_filter]
  apply List.filter_congr
  intro h hh
  rw [List.mem_range] at hh
  rw [hb h (by omega), Bool.and_comm]
theorem mem_ne {N s : Nat} (hs : s < 2 ^ N) (h0 : s ≠ 0) : mem N s ≠ [] := fun e => by
  have all : ∀ h < N, s.testBit h = false := fun h hh => by
    cases q : s.testBit h with
    | false => rfl
    | true =>
      have : h ∈ mem N s := by unfold mem; rw [List.mem_filter, List.mem_range]; exact ⟨hh, q⟩
      rw [e] at this; cases this
  refine h0 (Nat.eq_of_testBit_eq fun i => ?_)
  rw [Nat.zero_testBit]
  by_cases hi : i < N
  · exact all i hi
  · exact Nat.testBit_lt_two_pow (Nat.lt_of_lt_of_le hs (Nat.pow_le_pow_right (by decide) (by omega)))
def minD : List Int → Int
  | [] => 0
  | x :: xs => xs.foldl (fun a b => if b < a then b else a) x
theorem minL_ok {xs : List Int} (h : xs ≠ []) : minL xs = .ok (minD xs) := by
  cases xs with
  | nil => exact (h rfl).elim
  | cons x xs => rfl
theorem minD_mem {xs : List Int} (h : xs ≠ []) : minD xs ∈ xs := by
  cases xs with
  | nil => exact (h rfl).elim
  | cons x xs => exact (min_fold xs x).1
section
variable (c : Nat → Nat → Int) (N : Nat)
/-- what the set s costs, l the last one, T the table so far -/
def entT (T : List Int) (s l : Nat) : Int := T.getD (s - 2 ^ l) 0 + ((mem N (s - 2 ^ l)).map fun g => c g l).sum
def tabL : Nat → List Int
  | 0 => []
  | a + 1 => tabL a ++ [if a = 0 then 0 else minD ((mem N a).map (entT c N (tabL a) a))]
def tt (s : Nat) : Int := (tabL c N (s + 1)).getD s 0
def ent (s l : Nat) : Int := tt c N (s - 2 ^ l) + ((mem N (s - 2 ^ l)).map fun g => c g l).sum
theorem tabL_succ (a : Nat) : tabL c N (a + 1) = tabL c N a ++ [if a = 0 then 0 else minD ((mem N a).map (entT c N (tabL c N a) a))] := rfl
theorem tabL_len : ∀ a, (tabL c N a).length = a
  | 0 => rfl
  | a + 1 => by unfold tabL; rw [List.length_append, tabL_len a]; rfl
theorem tabL_get : ∀ {a s : Nat}, s < a → (tabL c N a).getD s 0 = tt c N s
  | a + 1, s, h => by
    by_cases e : s = a
    · subst e; rfl
    · have h' : s < a := by omega
      unfold tabL
      rw [List.getD_eq_getElem?_getD, List.getElem?_append_left (by rw [tabL_len]; exact h'), ← List.getD_eq_getElem?_getD]
      exact tabL_get h'
theorem tt_zero : tt c N 0 = 0 := rfl
theorem tt_pos {s : Nat} (hN : N ≤ 8) (hs : s < 256) (h0 : s ≠ 0) : tt c N s = minD ((mem N s).map (ent c N s)) := by
  have e : tt c N s = minD ((mem N s).map (entT c N (tabL c N s) s)) := by
    show (tabL c N (s + 1)).getD s 0 = _
    rw [tabL_succ, List.getD_eq_getElem?_getD, List.getElem?_append_right (by rw [tabL_len]; exact Nat.le_refl _), tabL_len, Nat.sub_self, if_neg h0]
    rfl
  rw [e]
  congr 1
  apply List.map_congr_left
  intro l hl
  obtain ⟨h1, h2⟩ := mem_lt hl
  obtain ⟨hb, _⟩ := bit_sub hs (by omega) h2
  have hp : 0 < 2 ^ l := Nat.pow_pos (by decide)
  unfold entT ent
  rw [tabL_get c N (by omega)]
def dic (a : Nat) : List (Int × Int) := (List.range a).map fun (s : Nat) => ((s : Int), tt c N s)
theorem dic_len (a : Nat) : (dic c N a).length = a := by unfold dic; rw [List.length_map, List.length_range]
theorem dic_succ (a : Nat) : dic c N (a + 1) = dic c N a ++ [((a : Int), tt c N a)] := by
  unfold dic
  rw [List.range_succ, List.map_append]
  rfl
theorem dic_get : ∀ {a s : Nat}, s < a → dget (dic c N a) (s : Int) = some (tt c N s)
  | a + 1, s, h => by
    rw [dic_succ, dget_append]
    by_cases e : s < a
    · rw [dic_get e]; rfl
    · have e2 : s = a := by omega
      subst e2
      have none : dget (dic c N s) (s : Int) = none := by
        unfold dic
        cases q : dget ((List.range s).map fun (s : Nat) => ((s : Int), tt c N s)) (s : Int) with
        | none => rfl
        | some v =>
          have m : ((s : Int), v) ∈ (List.range s).map fun (s : Nat) => ((s : Int), tt c N s) := by
            unfold dget at q
            obtain ⟨e, he, hv⟩ := Option.map_eq_some_iff.mp q
            have e1 := List.mem_of_find?_eq_some he
            have e2 := List.find?_some he
            have e2 : e.1 = (s : Int) := by simpa using e2
            rw [← e2, ← hv]
            exact e1
          obtain ⟨k, hk, ek⟩ := List.mem_map.mp m
          rw [List.mem_range] at hk
          have := congrArg Prod.fst ek
          simp at this
          omega
      rw [none, dget_cons, if_pos rfl]
      rfl
theorem dic_new (a : Nat) : dget (dic c N a) (a : Int) = none := by
  cases q : dget (dic c N a) (a : Int) with
  | none => rfl
  | some v =>
    unfold dic dget at q
    obtain ⟨e, he, hv⟩ := Option.map_eq_some_iff.mp q
    have e1 := List.mem_of_find?_eq_some he
    have e2 := List.find?_some he
    have e2 : e.1 = (a : Int) := by simpa using e2
    obtain ⟨k, hk, ek⟩ := List.mem_map.mp e1
    rw [List.mem_range] at hk
    rw [← ek] at e2
    have e2 : (k : Int) = (a : Int) := e2
    omega
end
/-- the costs of the marks' places -/
def cc (E : List (List Int)) (a b : Nat) : Int := cst (E.getD a []) (E.getD b [])
theorem cost_cc {E : List (List Int)} {a b : Nat} (ha : a < E.length) (hb : b < E.length) (hl : ∀ A ∈ E, A.length ≤ 16777216) : cost (E, (a : Int), (b : Int)) = .ok (cc E a b) := by
  unfold cc
  rw [List.getD_eq_getElem?_getD, List.getD_eq_getElem?_getD, List.getElem?_eq_getElem ha, List.getElem?_eq_getElem hb]
  exact cost_ok (List.getElem?_eq_getElem ha) (List.getElem?_eq_getElem hb) (hl _ (List.getElem_mem ha)) (hl _ (List.getElem_mem hb))
theorem sub_pow {s l : Nat} (h : 2 ^ l ≤ s) : (s : Int) - ((2 ^ l : Nat) : Int) = ((s - 2 ^ l : Nat) : Int) := by omega
theorem entry_ok {T : List (Int × Int)} {E : List (List Int)} {s l a : Nat} (hN : E.length ≤ 8) (hs : s < 256) (hm : l ∈ mem E.length s) (hl : ∀ A ∈ E, A.length ≤ 16777216) (hT : ∀ k < a, dget T (k : Int) = some (tt (cc E) E.length k)) (ha : s ≤ a) : entry (T, E, (s : Int), (l : Int)) = .ok (ent (cc E) E.length s l) := by
  obtain ⟨h1, h2⟩ := mem_lt hm
  obtain ⟨hb, _⟩ := bit_sub hs (by omega) h2
  have hp : 0 < 2 ^ l := Nat.pow_pos (by decide)
  unfold entry
  simp only [sm_ret, sm_map1, sm_map2, sm_bnd1, sm_bnd2, R.bind_ok, R.bind_assoc]
  rw [shlR_ok (by omega)]
  simp only [R.bind_ok, sub_pow hb]
  rw [members_ok (by omega)]
  simp only [R.bind_ok, R.calm_ok]
  rw [hT _ (by omega)]
  simp only [R.ofO_some, R.bind_ok]
  rw [lc_ok (p := fun _ => true) (g := fun g => cc E g.toNat l) (xs := (mem E.length (s - 2 ^ l)).map fun (h : Nat) => (h : Int)) (s' := ()) (by simp) (fun _ _ => by simp) (fun g hg _ => ?hf) ?hl]
  · simp only [R.bind_ok, filter_tt, List.map_map]
    rfl
  case hf =>
    obtain ⟨k, hk, e⟩ := List.mem_map.mp hg
    subst e
    obtain ⟨k1, _⟩ := mem_lt hk
    simp only [sm_ret, sm_map2, sm_bnd1, R.bind_ok, Int.toNat_natCast]
    rw [cost_cc k1 h1 hl]
    simp
  case hl =>
    rw [List.length_map]
    have : (mem E.length (s - 2 ^ l)).length ≤ E.length := by
      unfold mem
      exact Nat.le_trans (List.length_filter_le _ _) (by rw [List.length_range]; exact Nat.le_refl _)
    omega
end K57

/-! k57: least_order. -/
namespace K57
open PySem PySem.Spec PyProof.Rows L2 Y
theorem psum {xs ys : List Int} (h : xs.Perm ys) : xs.sum = ys.sum := by
  induction h with
  | nil => rfl
  | cons x _ ih => simp [ih]
  | swap x y l => simp; omega
  | trans _ _ h1 h2 => exact h1.trans h2
section
variable (c : Nat → Nat → Int) (N : Nat)
def picks (s : Nat) : List Nat := (mem N s).filter fun h => decide (ent c N s h = tt c N s)
def pick (s : Nat) : Nat := (picks c N s).headD 0
theorem picks_ne {s : Nat} (hN : N ≤ 8) (hs : s < 2 ^ N) (h0 : s ≠ 0) : picks c N s ≠ [] := fun e => by
  have h256 : s < 256 := Nat.lt_of_lt_of_le hs (Nat.pow_le_pow_right (by decide) hN)
  have hm := mem_ne hs h0
  have z := minD_mem (xs := (mem N s).map (ent c N s)) (by simpa using hm)
  rw [← tt_pos c N hN h256 h0] at z
  obtain ⟨l, hl, el⟩ := List.mem_map.mp z
  have : l ∈ picks c N s := by
    unfold picks
    rw [List.mem_filter]
    exact ⟨hl, decide_eq_true el⟩
  rw [e] at this; cases this
theorem pick_mem {s : Nat} (hN : N ≤ 8) (hs : s < 2 ^ N) (h0 : s ≠ 0) : pick c N s ∈ mem N s ∧ ent c N s (pick c N s) = tt c N s ∧ (picks c N s)[0]? = some (pick c N s) := by
  have hne := picks_ne c N hN hs h0
  cases e : picks c N s with
  | nil => exact (hne e).elim
  | cons x xs =>
    have hp : pick c N s = x := by unfold pick; rw [e]; rfl
    have hm : x ∈ picks c N s := by rw [e]; exact List.mem_cons_self
    unfold picks at hm
    rw [List.mem_filter] at hm
    rw [hp]
    exact ⟨hm.1, of_decide_eq_true hm.2, rfl⟩
def chain : Nat → Nat → List Nat
  | 0, _ => []
  | k + 1, s => if s = 0 then [] else chain k (s - 2 ^ pick c N s) ++ [pick c N s]
/-- all pairs, the first one ahead -/
def pairS : List Nat → Int
  | [] => 0
  | x :: xs => (xs.map (c x)).sum + pairS xs
theorem pairS_snoc (l : Nat) : ∀ xs : List Nat, pairS c (xs ++ [l]) = pairS c xs + (xs.map fun g => c g l).sum
  | [] => by simp [pairS]
  | x :: xs => by
    simp only [List.cons_append, pairS, List.map_append, List.sum_append, List.map_cons, List.map_nil, List.sum_cons, List.sum_nil, pairS_snoc l xs]
    omega
theorem chain_ok (hN : N ≤ 8) : ∀ (k s : Nat), s < 2 ^ N → s < k → (chain c N k s).Perm (mem N s) ∧ pairS c (chain c N k s) = tt c N s
  | k + 1, s, hs, hk => by
    unfold chain
    by_cases h0 : s = 0
    · subst h0
      rw [if_pos rfl]
      refine ⟨?_, rfl⟩
      have : mem N 0 = [] := by
        unfold mem
        rw [List.filter_eq_nil_iff]
        intro a _
        rw [Nat.zero_testBit]; decide
      rw [this]
    · rw [if_neg h0]
      obtain ⟨h1, h2, _⟩ := pick_mem c N hN hs h0
      obtain ⟨m1, m2⟩ := mem_lt h1
      have h256 : s < 256 := Nat.lt_of_lt_of_le hs (Nat.pow_le_pow_right (by decide) hN)
      obtain ⟨hb, _⟩ := bit_sub h256 (by omega) m2
      have hp : 0 < 2 ^ pick c N s := Nat.pow_pos (by decide)
      obtain ⟨g1, g2⟩ := chain_ok hN k (s - 2 ^ pick c N s) (by omega) (by omega)
      refine ⟨?_, ?_⟩
      · rw [mem_sub hN h256 h1] at g1
        have hnd : (mem N s).Nodup := List.nodup_range.sublist List.filter_sublist
        have e : (mem N s).filter (fun h => h != pick c N s) = (mem N s).erase (pick c N s) := by
          rw [hnd.erase_eq_filter]
        rw [e] at g1
        exact ((g1.append_right _).trans List.perm_append_comm).trans (List.perm_cons_erase h1).symm
      · rw [pairS_snoc, g2, ← h2]
        unfold ent
        congr 1
        exact psum (g1.map _)
theorem chain_mem {k s h : Nat} (hN : N ≤ 8) (hs : s < 2 ^ N) (hk : s < k) (m : h ∈ chain c N k s) : h < N := (mem_lt (((chain_ok c N hN k s hs hk).1).mem_iff.mp m)).1
end
theorem rangeL_get' {lo hi : Int} {i : Nat} {a : Int} (h : (rangeL lo hi)[i]? = some a) : i < (hi - lo).toNat ∧ a = lo + (i : Int) := rangeL_get h
theorem mem_len (N s : Nat) : (mem N s).length ≤ N := by
  unfold mem
  exact Nat.le_trans (List.length_filter_le _ _) (by rw [List.length_range]; exact Nat.le_refl _)
theorem pow_le256 {N : Nat} (h : N ≤ 8) : 2 ^ N ≤ 256 := Nat.pow_le_pow_right (by decide) h
section
variable {E : List (List Int)} (hN : E.length ≤ 8) (hl : ∀ A ∈ E, A.length ≤ 16777216)
include hN hl
theorem table_ok : foldR (least_order_b16 ((E.length : Int), ()) (E, ())) [(0, 0)] (rangeL 1 ((2 ^ E.length : Nat) : Int)) = .ok (dic (cc E) E.length (2 ^ E.length)) := by
  have h256 := pow_le256 hN
  have hp : 0 < 2 ^ E.length := Nat.pow_pos (by decide)
  obtain ⟨d, h1, h2⟩ := foldR_inv (f := least_order_b16 ((E.length : Int), ()) (E, ())) (fun n d => d = dic (cc E) E.length (n + 1)) (rangeL 1 ((2 ^ E.length : Nat) : Int)) 0 [(0, 0)] rfl fun i l a hI ha => by
    obtain ⟨g1, g2⟩ := rangeL_get ha
    rw [Nat.zero_add] at hI ⊢
    subst hI
    have e2 : a = ((i + 1 : Nat) : Int) := by rw [g2]; omega
    subst e2
    have hs : i + 1 < 2 ^ E.length := by omega
    refine ⟨_, ?_, rfl⟩
    unfold least_order_b16
    simp only [sm_ret, sm_map1, sm_map2, sm_bnd1, sm_bnd2, sm_pk, R.bind_ok, R.bind_assoc]
    rw [lc_ok (p := fun _ => true) (g := fun h => ent (cc E) E.length (i + 1) h.toNat) (xs := (mem E.length (i + 1)).map fun (h : Nat) => (h : Int)) (s' := ()) ?hm (fun _ _ => by simp) (fun h hh _ => ?hf) ?hl]
    case hm =>
      simp only [sm_ret, sm_map2, sm_bnd1, R.bind_ok]
      rw [members_ok (by omega)]
      simp
    case hf =>
      obtain ⟨k, hk, e⟩ := List.mem_map.mp hh
      subst e
      simp only [sm_ret, sm_map2, sm_bnd1, R.bind_ok, Int.toNat_natCast]
      rw [entry_ok (a := i + 1) hN (by omega) hk hl (fun k hk => dic_get _ _ hk) (Nat.le_refl _)]
      simp
    case hl =>
      rw [List.length_map]
      have := mem_len E.length (i + 1)
      omega
    simp only [R.bind_ok, R.calm_ok, filter_tt, List.map_map]
    have hne := mem_ne hs (by omega)
    rw [minL_ok (by simpa using hne)]
    simp only [R.bind_ok, R.calm_ok, dputR]
    rw [R.guard_true (by rw [dic_len]; omega)]
    simp only [R.bind_ok]
    rw [dput_new _ (dic_new _ _ _), dic_succ _ _ (i + 1), tt_pos (cc E) E.length hN (by omega) (by omega)]
    rfl
  rw [h1, h2]
  congr 2
  rw [rangeL_len]
  omega
theorem walk_ok {fixed free : List Str} {lines : List (Str × Str)} (hf : free.length = E.length) : ∀ (k s : Nat) (acc : List Str), s < 2 ^ E.length → s < k →
    (mem E.length s).length + acc.length ≤ 1000000 →
    whileR (fun l => least_order_c34 l ()) (fun l (_ : Unit) => least_order_w33 (fixed, free, lines) ((E.length : Int), ()) (E, ()) (dic (cc E) E.length (2 ^ E.length)) l) k ((s : Int), acc) = .ok (((0 : Int), (chain (cc E) E.length k s).map (fun h => free.getD h ⟨#[]⟩) ++ acc), ())
  | k + 1, s, acc, hs, hk, hz => by
    have h256 := pow_le256 hN
    unfold whileR
    have ec : least_order_c34 ((s : Int), acc) () = .ok (gtB (s : Int) 0, ()) := by unfold least_order_c34; simp
    simp only [ec, R.bind_ok]
    unfold chain
    by_cases h0 : s = 0
    · subst h0
      rw [if_pos rfl, if_neg (by decide)]
      rfl
    · rw [if_neg h0, if_pos (by unfold gtB; simp; omega)]
      obtain ⟨p1, p2, p3⟩ := pick_mem (cc E) E.length hN hs h0
      obtain ⟨m1, m2⟩ := mem_lt p1
      obtain ⟨hb, _⟩ := bit_sub (by omega) (by omega) m2
      have hp : 0 < 2 ^ pick (cc E) E.length s := Nat.pow_pos (by decide)
      have hf2 : free[pick (cc E) E.length s]? = some (free.getD (pick (cc E) E.length s) ⟨#[]⟩) := by
        rw [List.getD_eq_getElem?_getD, List.getElem?_eq_getElem (by omega)]; rfl
      have ew : least_order_w33 (fixed, free, lines) ((E.length : Int), ()) (E, ()) (dic (cc E) E.length (2 ^ E.length)) ((s : Int), acc) = .ok (((s - 2 ^ pick (cc E) E.length s : Nat) : Int), free.getD (pick (cc E) E.length s) ⟨#[]⟩ :: acc) := by
        unfold least_order_w33
        simp only [sm_ret, sm_map1, sm_map2, sm_bnd1, sm_bnd2, sm_pk, R.bind_ok, R.bind_assoc]
        rw [lc_ok (p := fun h => decide (ent (cc E) E.length s h.toNat = tt (cc E) E.length s)) (g := fun h => h) (xs := (mem E.length s).map fun (h : Nat) => (h : Int)) (s' := ()) ?hm (fun h hh => ?hf) (fun _ _ _ => by simp) ?hl]
        case hm =>
          simp only [sm_ret, sm_map2, sm_bnd1, R.bind_ok]
          rw [members_ok (by omega)]
          simp
        case hf =>
          obtain ⟨k, hk, e⟩ := List.mem_map.mp hh
          subst e
          simp only [sm_ret, sm_map2, sm_bnd1, sm_bnd2, R.bind_ok, Int.toNat_natCast]
          rw [entry_ok (a := 2 ^ E.length) hN (by omega) hk hl (fun k hk => dic_get _ _ hk) (by omega), dic_get _ _ hs]
          simp [eqB]
        case hl =>
          rw [List.length_map]
          have := mem_len E.length s
          omega
        simp only [R.bind_ok, R.calm_ok, List.map_id']
        have ep : ((mem E.length s).map fun (h : Nat) => (h : Int)).filter (fun h => decide (ent (cc E) E.length s h.toNat = tt (cc E) E.length s)) = (picks (cc E) E.length s).map fun (h : Nat) => (h : Int) := by
          rw [List.filter_map]
          rfl
        rw [ep]
        have g0 : getI ((picks (cc E) E.length s).map fun (h : Nat) => (h : Int)) ((0 : Nat) : Int) = .ok (pick (cc E) E.length s : Int) := getI_nat (by rw [List.getElem?_map, p3]; rfl)
        rw [show (0 : Int) = ((0 : Nat) : Int) from rfl, g0]
        simp only [R.bind_ok, R.calm_ok]
        rw [getI_nat hf2]
        simp only [R.bind_ok, insR]
        rw [R.guard_true (by refine ⟨by omega, by decide, by rw [p63]; decide⟩)]
        simp only [R.bind_ok]
        rw [shlR_ok (by omega)]
        simp only [R.bind_ok, sub_pow hb]
        rfl
      rw [ew, R.bind_ok]
      have hz' : (mem E.length (s - 2 ^ pick (cc E) E.length s)).length + 1 ≤ (mem E.length s).length := by
        rw [mem_sub hN (by omega) p1]
        have hnd : (mem E.length s).Nodup := List.nodup_range.sublist List.filter_sublist
        have e : (mem E.length s).filter (fun h => h != pick (cc E) E.length s) = (mem E.length s).erase (pick (cc E) E.length s) := by
          rw [hnd.erase_eq_filter]
        rw [e, List.length_erase_of_mem p1]
        have := List.length_pos_of_mem p1
        omega
      rw [walk_ok hf k (s - 2 ^ pick (cc E) E.length s) _ (by omega) (by omega) (by rw [List.length_cons]; omega)]
      simp
/-- what least_order tells -/
def ordM (E : List (List Int)) (free : List Str) : List Str := (chain (cc E) E.length (2 ^ E.length) (2 ^ E.length - 1)).map fun h => free.getD h ⟨#[]⟩
end
theorem least_ok {fixed free : List Str} {lines : List (Str × Str)} (hn : fixed.Nodup) (hf : fixed.length ≤ 16777216) (h8 : free.length ≤ 8) (hl : lines.length ≤ 16777216) (hin : ∀ z ∈ lines, z.1 ∈ fixed) :
    least_order (fixed, free, lines) = .ok (tt (cc (free.map (endsM fixed lines))) free.length (2 ^ free.length - 1), ordM (free.map (endsM fixed lines)) free, dic (cc (free.map (endsM fixed lines))) free.length (2 ^ free.length)) := by
  have hE : (free.map (endsM fixed lines)).length = free.length := List.length_map ..
  have hp : 0 < 2 ^ free.length := Nat.pow_pos (by decide)
  have h256 := pow_le256 h8
  have hA : ∀ A ∈ free.map (endsM fixed lines), A.length ≤ 16777216 := fun A m => by
    obtain ⟨x, _, e⟩ := List.mem_map.mp m
    subst e
    unfold endsM
    rw [List.length_map]
    exact Nat.le_trans (List.length_filter_le _ _) hl
  have t := table_ok (E := free.map (endsM fixed lines)) (by rw [hE]; exact h8) hA
  have wk := walk_ok (E := free.map (endsM fixed lines)) (by rw [hE]; exact h8) hA (fixed := fixed) (lines := lines) (free := free) hE.symm (2 ^ free.length) (2 ^ free.length - 1) [] (by rw [hE]; omega) (by omega) (by have := mem_len (free.map (endsM fixed lines)).length (2 ^ free.length - 1); rw [hE] at this ⊢; simp; omega)
  rw [hE] at t wk
  unfold least_order
  simp only [sm_ret, sm_map1, sm_map2, sm_bnd1, sm_bnd2, sm_pk, R.bind_ok, R.bind_assoc]
  rw [if_neg (by unfold gtB; simp; omega)]
  rw [ends_ok hn hf (by omega) hl hin]
  simp only [R.bind_ok, R.calm_ok]
  rw [shlR_ok (by omega)]
  simp only [R.bind_ok]
  rw [rng2_ok (by decide) (by decide) (by omega) (by omega)]
  simp only [R.bind_ok]
  rw [t]
  simp only [R.bind_ok]
  have e1 : ((2 ^ free.length : Nat) : Int) - 1 = ((2 ^ free.length - 1 : Nat) : Int) := by omega
  rw [e1, dic_get _ _ (by omega)]
  simp only [R.ofO_some, R.bind_ok, Int.toNat_natCast, whileR0]
  rw [show 2 ^ free.length - 1 + 1 = 2 ^ free.length by omega, wk]
  simp only [R.bind_ok, List.append_nil]
  unfold ordM
  rw [hE]
  simp only [R.calm_ok, R.bind_ok]
end K57

/-! k57: sums over pairs of lines. -/
namespace K57
open PySem PySem.Spec PyProof.Rows L2 Y
section sums
variable {α β : Type}
def S (xs : List α) (f : α → Int) : Int := (xs.map f).sum
theorem S_nil (f : α → Int) : S [] f = 0 := rfl
theorem S_cons (x : α) (xs : List α) (f : α → Int) : S (x :: xs) f = f x + S xs f := by simp [S]
theorem S_append (xs ys : List α) (f : α → Int) : S (xs ++ ys) f = S xs f + S ys f := by simp [S]
theorem S_add (xs : List α) (f g : α → Int) : S xs (fun x => f x + g x) = S xs f + S xs g := by
  induction xs with
  | nil => rfl
  | cons x xs ih => rw [S_cons, S_cons, S_cons, ih]; omega
theorem S_zero (xs : List α) : S xs (fun _ => 0) = 0 := by
  induction xs with
  | nil => rfl
  | cons x xs ih => rw [S_cons, ih]; rfl
theorem S_congr {xs : List α} {f g : α → Int} (h : ∀ x ∈ xs, f x = g x) : S xs f = S xs g := by
  unfold S
  rw [List.map_congr_left h]
theorem S_comm (xs : List α) (ys : List β) (f : α → β → Int) : S xs (fun x => S ys (f x)) = S ys fun y => S xs fun x => f x y := by
  induction xs with
  | nil => rw [S_nil, ← S_zero ys]; rfl
  | cons x xs ih =>
    rw [S_cons, ih, ← S_add]
    exact S_congr fun y _ => (S_cons x xs fun x => f x y).symm
theorem S_filter (xs : List α) (p : α → Bool) (f : α → Int) : S (xs.filter p) f = S xs fun x => if p x = true then f x else 0 := by
  induction xs with
  | nil => rfl
  | cons x xs ih =>
    rw [S_cons, List.filter_cons]
    by_cases h : p x = true
    · rw [if_pos h, if_pos h, S_cons, ih]
    · rw [if_neg h, if_neg h, ih]; omega
theorem S_map (xs : List α) (g : α → β) (f : β → Int) : S (xs.map g) f = S xs fun x => f (g x) := by
  unfold S
  rw [List.map_map]
  rfl
theorem len_S (xs : List α) (p : α → Bool) : ((xs.filter p).length : Int) = S xs fun x => if p x = true then 1 else 0 := by
  induction xs with
  | nil => rfl
  | cons x xs ih =>
    rw [S_cons, List.filter_cons]
    by_cases h : p x = true
    · rw [if_pos h, if_pos h, ← ih, List.length_cons]; omega
    · rw [if_neg h, if_neg h, ← ih]; omega
theorem S_ite (xs : List α) (c : Prop) [Decidable c] (f : α → Int) : S xs (fun x => if c then f x else 0) = if c then S xs f else 0 := by
  by_cases h : c
  · simp only [if_pos h]
  · simp only [if_neg h]; exact S_zero xs
end sums
section
variable (fixed : List Str) (lines : List (Str × Str))
def topI (l : Str × Str) : Int := (fixed.idxOf l.1 : Int)
/-- the cost of two marks -/
def cs (m m' : Str) : Int := cst (endsM fixed lines m) (endsM fixed lines m')
theorem cs_S (m m' : Str) : cs fixed lines m m' = S lines fun l => S lines fun l' => if l.2 = m ∧ l'.2 = m' ∧ topI fixed l' < topI fixed l then 1 else 0 := by
  unfold cs cst
  show S (endsM fixed lines m) _ = _
  unfold endsM
  rw [S_map, S_filter]
  refine S_congr fun l _ => ?_
  by_cases h : l.2 = m
  · rw [if_pos (by simpa using h), List.filter_map, List.length_map, List.filter_filter, len_S]
    refine S_congr fun l' _ => ?_
    by_cases h2 : l'.2 = m' <;> by_cases h3 : topI fixed l' < topI fixed l <;> simp [topI, h, h2] at h3 ⊢ <;> simp [h3]
  · rw [if_neg (by simpa using h)]
    refine (S_zero lines).symm.trans (S_congr fun l' _ => ?_)
    rw [if_neg fun z => h z.1]
/-- which pairs cross, by an order of the marks -/
def wO (o : List Str) (l l' : Str × Str) : Int := if l.2 ∈ o ∧ l'.2 ∈ o ∧ o.idxOf l.2 < o.idxOf l'.2 ∧ topI fixed l' < topI fixed l then 1 else 0
def pairT (c : Str → Str → Int) : List Str → Int
  | [] => 0
  | x :: xs => S xs (c x) + pairT c xs
theorem ind_mem {o : List Str} (hn : o.Nodup) (m : Str) : (if m ∈ o then (1 : Int) else 0) = S o fun x => if m = x then 1 else 0 := by
  induction o with
  | nil => rfl
  | cons y o ih =>
    rw [List.nodup_cons] at hn
    rw [S_cons, ← ih hn.2]
    by_cases h : m = y
    · subst h
      rw [if_pos List.mem_cons_self, if_pos rfl, if_neg hn.1]; rfl
    · rw [if_neg h]
      by_cases h2 : m ∈ o
      · rw [if_pos (List.mem_cons_of_mem _ h2), if_pos h2]; rfl
      · rw [if_neg (by simp [h, h2]), if_neg h2]; rfl
theorem pairT_S {o : List Str} (hn : o.Nodup) : pairT (cs fixed lines) o = S lines fun l => S lines fun l' => wO fixed o l l' := by
  induction o with
  | nil =>
    show (0 : Int) = _
    rw [← S_zero lines]
    refine S_congr fun l _ => ?_
    rw [← S_zero lines]
    refine S_congr fun l' _ => ?_
    unfold wO
    rw [if_neg (by simp)]
  | cons m o ih =>
    have hn' := List.nodup_cons.mp hn
    show S o (cs fixed lines m) + pairT (cs fixed lines) o = _
    rw [ih hn'.2]
    have e1 : S o (cs fixed lines m) = S lines fun l => S lines fun l' => if l.2 = m ∧ l'.2 ∈ o ∧ topI fixed l' < topI fixed l then 1 else 0 := by
      rw [S_congr fun m' _ => cs_S fixed lines m m', S_comm]
      refine S_congr fun l _ => ?_
      rw [S_comm]
      refine S_congr fun l' _ => ?_
      by_cases h1 : l.2 = m
      · by_cases h3 : topI fixed l' < topI fixed l
        · have e := ind_mem hn'.2 l'.2
          simp only [h1, h3, true_and, and_true]
          exact e.symm
        · simp only [h3, and_false, if_false]; exact S_zero o
      · simp only [h1, false_and, if_false]; exact S_zero o
    rw [e1, ← S_add]
    refine S_congr fun l _ => ?_
    rw [← S_add]
    refine S_congr fun l' _ => ?_
    unfold wO
    have q1 : (m :: o).idxOf m = 0 := by simp
    have qs : ∀ x, x ≠ m → (m :: o).idxOf x = o.idxOf x + 1 := fun x hx => by
      rw [List.idxOf_cons]
      have e : (m == x) = false := beq_false_of_ne (Ne.symm hx)
      rw [e]
      rfl
    by_cases h1 : l.2 = m
    · have n1 : l.2 ∉ o := by rw [h1]; exact hn'.1
      by_cases h2 : l'.2 = m
      · have n2 : l'.2 ∉ o := by rw [h2]; exact hn'.1
        simp [h1, h2, hn'.1]
      · have h2' : l'.2 ≠ m := h2
        simp only [h1, q1, qs _ h2', List.mem_cons, true_or, h2, false_or, true_and, Nat.zero_lt_succ]
        rw [if_neg (c := m ∈ o ∧ _) fun z => hn'.1 z.1]
        omega
    · have h1' : l.2 ≠ m := h1
      by_cases h2 : l'.2 = m
      · simp [h1, h2, hn'.1]
      · have h2' : l'.2 ≠ m := h2
        simp only [h1, qs _ h1', qs _ h2', List.mem_cons, h2, false_or, false_and, if_false, Nat.add_lt_add_iff_right]
        omega
end
end K57

/-! k57: crossings, the law's own costs and table. -/
namespace K57
open PySem PySem.Spec PyProof.Rows L2 Y
theorem cutL_take {α : Type} {xs : List α} {k : Nat} : cutL xs none (some (k : Int)) = xs.take k := by
  unfold cutL
  show (xs.drop 0).take (HT.sIx xs.length xs.length (some (k : Int)) - 0) = _
  rw [HT.sIx_nat, List.drop_zero, Nat.sub_zero]
  by_cases h : k ≤ xs.length
  · rw [Nat.min_eq_left h]
  · rw [Nat.min_eq_right (by omega), List.take_length, List.take_of_length_le (by omega)]
theorem cutL_drop {α : Type} {xs : List α} {k : Nat} : cutL xs (some (k : Int)) none = xs.drop k := by
  unfold cutL
  show (xs.drop (HT.sIx xs.length 0 (some (k : Int)))).take (xs.length - HT.sIx xs.length 0 (some (k : Int))) = _
  rw [HT.sIx_nat]
  by_cases h : k ≤ xs.length
  · rw [Nat.min_eq_left h, List.take_of_length_le (by rw [List.length_drop]; exact Nat.le_refl _)]
  · rw [Nat.min_eq_right (by omega), List.drop_of_length_le (Nat.le_refl _), List.drop_of_length_le (by omega)]
    simp
section
variable {fixed : List Str} {lines : List (Str × Str)} {o : List Str}
/-- the crossings of pairs, in both orders -/
def xO (fixed o : List Str) (l l' : Str × Str) : Int := wO fixed o l l' + wO fixed o l' l
theorem cross_ok {tops lows : List (Str × Int)} {l l' : Str × Str} (h1 : dget tops l.1 = some (topI fixed l)) (h2 : dget tops l'.1 = some (topI fixed l')) (h3 : dget lows l.2 = some (o.idxOf l.2 : Int)) (h4 : dget lows l'.2 = some (o.idxOf l'.2 : Int)) (m : l.2 ∈ o) (m' : l'.2 ∈ o) :
    ∃ b, cross (l, l', tops, lows) = .ok b ∧ (if b = true then (1 : Int) else 0) = xO fixed o l l' := by
  unfold cross
  simp only [sm_ret, sm_map1, sm_map2, sm_bnd1, sm_bnd2, sm_and, sm_or, R.bind_ok, R.bind_assoc, h1, h2, h3, h4, R.ofO_some]
  unfold xO wO ltB gtB
  generalize topI fixed l = a
  generalize topI fixed l' = b
  have e : ∀ x y : Nat, ((x : Int) - (y : Int) < 0 ↔ x < y) := fun x y => by omega
  generalize o.idxOf l.2 = p
  generalize o.idxOf l'.2 = q
  simp only [m, m', true_and]
  by_cases c1 : a - b < 0
  · rw [if_pos (by simpa using c1)]
    simp only [R.bind_ok]
    by_cases c2 : (0 : Int) < (p : Int) - (q : Int)
    · rw [if_pos (by simpa using c2)]
      refine ⟨true, rfl, ?_⟩
      rw [if_pos rfl, if_neg (by omega), if_pos (by omega)]; rfl
    · rw [if_neg (by simpa using c2), if_neg (by simp; omega)]
      refine ⟨false, rfl, ?_⟩
      rw [if_neg (by decide), if_neg (by omega), if_neg (by omega)]; rfl
  · rw [if_neg (by simpa using c1)]
    simp only [R.bind_ok]
    rw [if_neg (by decide)]
    by_cases c3 : (0 : Int) < a - b
    · rw [if_pos (by simpa using c3)]
      refine ⟨decide ((p : Int) - (q : Int) < 0), rfl, ?_⟩
      by_cases c4 : (p : Int) - (q : Int) < 0
      · rw [if_pos (by simpa using c4), if_pos (by omega), if_neg (by omega)]; rfl
      · rw [if_neg (by simpa using c4), if_neg (by omega), if_neg (by omega)]; rfl
    · rw [if_neg (by simpa using c3)]
      refine ⟨false, rfl, ?_⟩
      rw [if_neg (by decide), if_neg (by omega), if_neg (by omega)]; rfl
theorem wO_self (l : Str × Str) : wO fixed o l l = 0 := by
  unfold wO
  rw [if_neg (by omega)]
theorem S_snoc2 (xs : List (Str × Str)) (l : Str × Str) : S (xs ++ [l]) (fun a => S (xs ++ [l]) (wO fixed o a)) = S xs (fun a => S xs (wO fixed o a)) + S xs (fun b => xO fixed o l b) := by
  rw [S_append, S_cons, S_nil, S_append, S_cons, S_nil, wO_self]
  have e1 : S xs (fun a => S (xs ++ [l]) (wO fixed o a)) = S xs (fun a => S xs (wO fixed o a)) + S xs fun a => wO fixed o a l := by
    rw [← S_add]
    refine S_congr fun a _ => ?_
    rw [S_append, S_cons, S_nil]; omega
  have e2 : S xs (fun b => xO fixed o l b) = S xs (wO fixed o l) + S xs fun a => wO fixed o a l := by
    unfold xO
    exact S_add xs (wO fixed o l) fun a => wO fixed o a l
  rw [e1, e2]
  omega
theorem crossings_ok (hn : fixed.Nodup) (ho : o.Nodup) (lf : fixed.length ≤ 16777216) (lo : o.length ≤ 16777216) (hin : ∀ z ∈ lines, z.1 ∈ fixed ∧ z.2 ∈ o) : crossings (fixed, o, lines) = .ok (S lines fun a => S lines (wO fixed o a)) := by
  obtain ⟨tops, t1, t2⟩ := places_ok hn lf
  obtain ⟨lows, l1, l2⟩ := places_ok ho lo
  unfold crossings
  simp only [sm_ret, sm_map1, sm_map2, sm_bnd1, sm_bnd2, R.bind_ok, R.bind_assoc, t1, l1, R.calm_ok]
  obtain ⟨r, r1, r2⟩ := foldR_inv (f := crossings_b17 (fixed, o, lines) (tops, ()) (lows, ())) (fun k acc => acc = S (lines.take k) fun a => S (lines.take k) (wO fixed o a)) (enumL lines) 0 0 rfl fun i acc a hI ha => by
    obtain ⟨g1, g2⟩ := enumL_get ha
    rw [Nat.zero_add] at hI ⊢
    obtain ⟨hi, ei⟩ := List.getElem?_eq_some_iff.mp g1
    obtain ⟨r, r1, r2⟩ := foldR_inv (f := crossings_b16 (tops, ()) (lows, ()) a) (fun k acc' => acc' = acc + S ((lines.take i).take k) fun b => xO fixed o a.2 b) (lines.take i) 0 acc (by show acc = acc + 0; omega) fun j ac x hJ hx => by
      rw [Nat.zero_add] at hJ ⊢
      have hx0 : x ∈ lines := List.mem_of_mem_take (List.mem_of_getElem? hx)
      have ha0 : a.2 ∈ lines := List.mem_of_getElem? g1
      obtain ⟨b, b1, b2⟩ := cross_ok (fixed := fixed) (o := o) (tops := tops) (lows := lows) (l := a.2) (l' := x) (t2 _ (hin _ ha0).1) (t2 _ (hin _ hx0).1) (l2 _ (hin _ ha0).2) (l2 _ (hin _ hx0).2) (hin _ ha0).2 (hin _ hx0).2
      refine ⟨ac + (if b = true then 1 else 0), ?_, ?_⟩
      · unfold crossings_b16
        simp only [sm_ret, sm_map1, sm_map2, sm_bnd1, sm_bnd2, R.bind_ok, R.bind_assoc, b1, R.calm_ok]
        cases b
        · simp
        · simp
      · rw [hJ, b2]
        have : ((lines.take i).take (j + 1)) = (lines.take i).take j ++ [x] := by
          rw [List.take_add_one, hx]; rfl
        rw [this, S_append, S_cons, S_nil]
        omega
    refine ⟨r, ?_, ?_⟩
    · unfold crossings_b17
      simp only [sm_ret, sm_map1, sm_map2, sm_map3, sm_bnd1, sm_bnd2, R.bind_ok, R.bind_assoc, g2]
      rw [cutL_take, r1, R.bind_ok]
    · rw [r2, Nat.zero_add, List.take_of_length_le (Nat.le_refl _), hI]
      have : lines.take (i + 1) = lines.take i ++ [a.2] := by
        rw [List.take_add_one, g1]; rfl
      rw [this, S_snoc2]
  rw [r1, r2, R.bind_ok, Nat.zero_add, enumL_len, List.take_of_length_le (Nat.le_refl _)]
theorem lawcost_ok {m m' : Str} (hl : lines.length ≤ 16777216) (hin : ∀ z ∈ lines, z.1 ∈ fixed) : _law_cost (fixed, lines, m, m') = .ok (cs fixed lines m m') := by
  unfold _law_cost
  have first : ∀ x : Str, SM.lc (SM.ret lines) (fun a2 => SM.map2 eqS (SM.ret a2.2) (SM.ret x)) (fun a2 => SM.bnd2 idxR (SM.ret fixed) (SM.ret a2.1)) () = .ok (endsM fixed lines x, ()) := fun x => by
    rw [lc_ok (p := fun z => eqS z.2 x) (g := fun z => (fixed.idxOf z.1 : Int)) (xs := lines) (s' := ()) (by simp) (fun _ _ => by simp) (fun z hz _ => ?_) hl]
    · rfl
    · simp only [sm_ret, sm_bnd2, R.bind_ok]
      rw [idxR_of (hin z hz), R.bind_ok]
  have lenE : ∀ x, (endsM fixed lines x).length ≤ 16777216 := fun x => by
    unfold endsM
    rw [List.length_map]
    exact Nat.le_trans (List.length_filter_le _ _) hl
  simp only [sm_map1, R.bind_assoc, first, R.bind_ok]
  rw [lc_ok (p := fun _ => true) (g := fun x => (((endsM fixed lines m').filter fun y => decide (y < x)).length : Int)) (xs := endsM fixed lines m) (s' := ()) (by simp) (fun _ _ => by simp) (fun x _ _ => ?_) (lenE m)]
  · simp only [R.bind_ok, filter_tt]
    rfl
  · rw [sm_map1, lc_ok (p := fun y => ltB y x) (g := fun y => y) (xs := endsM fixed lines m') (s' := ()) (by simp) (fun y _ => by simp) (fun y _ _ => by simp) (lenE m')]
    simp only [R.bind_ok, List.map_id']
    rfl
end
end K57

/-! k57: the law's costs, table, sums. -/
namespace K57
open PySem PySem.Spec PyProof.Rows L2 Y
theorem foldR_app {α β : Type} {f : List β → α → R (List β)} {h : α → β} {M : Nat} : ∀ (xs : List α) (acc : List β), (∀ l, l.length < M → ∀ x ∈ xs, f l x = .ok (l ++ [h x])) → acc.length + xs.length ≤ M → foldR f acc xs = .ok (acc ++ xs.map h)
  | [], acc, _, _ => by simp [foldR]
  | x :: xs, acc, hf, hl => by
    rw [List.length_cons] at hl
    unfold foldR
    rw [hf acc (by omega) x List.mem_cons_self, R.bind_ok, foldR_app xs _ (fun l h1 y hy => hf l h1 y (List.mem_cons_of_mem _ hy)) (by simp; omega)]
    simp
/-- the law's costs -/
def CostD (c : Nat → Nat → Int) (n : Nat) (d : List ((Int × Int) × Int)) : Prop := ∀ k < n, ∀ j < n, dget d ((k : Int), (j : Int)) = some (c k j)
section
variable {fixed marks : List Str} {lines : List (Str × Str)}
theorem endsD (h : Nat) (hh : h < marks.length) : (marks.map (endsM fixed lines)).getD h [] = endsM fixed lines (marks.getD h ⟨#[]⟩) := by
  rw [List.getD_eq_getElem?_getD, List.getD_eq_getElem?_getD, List.getElem?_map, List.getElem?_eq_getElem hh]
  rfl
theorem cc_cs {k j : Nat} (hk : k < marks.length) (hj : j < marks.length) : cc (marks.map (endsM fixed lines)) k j = cs fixed lines (marks.getD k ⟨#[]⟩) (marks.getD j ⟨#[]⟩) := by
  unfold cc cs
  rw [endsD k hk, endsD j hj]
theorem getD_of {k : Nat} {m : Str} (h : marks[k]? = some m) : marks.getD k ⟨#[]⟩ = m := by
  rw [List.getD_eq_getElem?_getD, h]; rfl
theorem costs_ok (h8 : marks.length ≤ 8) (hl : lines.length ≤ 16777216) (hin : ∀ z ∈ lines, z.1 ∈ fixed) : ∃ d, foldR (_law_right_b20 (fixed, marks, lines)) [] (enumL marks) = .ok d ∧ CostD (cc (marks.map (endsM fixed lines))) marks.length d := by
  obtain ⟨d, d1, d2⟩ := foldR_inv (f := _law_right_b20 (fixed, marks, lines)) (fun n d => d.length ≤ n * marks.length ∧ ∀ k < n, ∀ j < marks.length, dget d ((k : Int), (j : Int)) = some (cc (marks.map (endsM fixed lines)) k j)) (enumL marks) 0 [] ⟨by simp, fun k hk => absurd hk (Nat.not_lt_zero _)⟩ fun i d a ⟨H1, H2⟩ ha => by
    rw [Nat.zero_add] at H1 H2 ⊢
    obtain ⟨g1, g2⟩ := enumL_get ha
    have hi := (List.getElem?_eq_some_iff.mp g1).1
    have hil : i * marks.length ≤ 64 := Nat.le_trans (Nat.mul_le_mul (show i ≤ 8 by omega) h8) (by decide)
    obtain ⟨e, e1, e2⟩ := foldR_inv (f := _law_right_b19 (fixed, marks, lines) a) (fun n e => e.length ≤ d.length + n ∧ (∀ k < i, ∀ j < marks.length, dget e ((k : Int), (j : Int)) = some (cc (marks.map (endsM fixed lines)) k j)) ∧ ∀ j < n, dget e ((i : Int), (j : Int)) = some (cc (marks.map (endsM fixed lines)) i j)) (enumL marks) 0 d ⟨by omega, H2, fun j hj => absurd hj (Nat.not_lt_zero _)⟩ fun j e b ⟨E1, E2, E3⟩ hb => by
      rw [Nat.zero_add] at E1 E3 ⊢
      obtain ⟨u1, u2⟩ := enumL_get hb
      have hj := (List.getElem?_eq_some_iff.mp u1).1
      refine ⟨dput e (a.1, b.1) (cs fixed lines a.2 b.2), ?_, Nat.le_trans (dput_length _ _ _) (by omega), fun k hk j' hj' => ?_, fun j' hj' => ?_⟩
      · unfold _law_right_b19
        simp only [sm_ret, sm_map1, sm_map2, sm_bnd1, sm_bnd2, R.bind_ok, R.bind_assoc]
        rw [lawcost_ok hl hin]
        simp only [R.calm_ok, R.bind_ok, dputR]
        rw [R.guard_true (by omega)]
        simp only [R.bind_ok]
      · rw [dget_put, if_neg (by rw [g2, u2]; intro z; have := congrArg Prod.fst z; simp at this; omega)]
        exact E2 k hk j' hj'
      · rw [dget_put, g2, u2]
        by_cases q : j' = j
        · subst q
          rw [if_pos rfl, cc_cs hi hj, getD_of g1, getD_of u1]
        · rw [if_neg (by intro z; have := congrArg Prod.snd z; simp at this; omega)]
          exact E3 j' (by omega)
    rw [Nat.zero_add, enumL_len] at e2
    refine ⟨e, ?_, ?_, fun k hk j hj => ?_⟩
    · unfold _law_right_b20
      simp only [sm_ret, sm_map1, R.bind_ok]
      rw [e1]; simp
    · rw [Nat.add_mul, Nat.one_mul]; omega
    · by_cases q : k = i
      · subst q; exact e2.2.2 j hj
      · exact e2.2.1 k (by omega) j hj
  rw [Nat.zero_add, enumL_len] at d2
  exact ⟨d, d1, d2.2⟩
end
theorem table_right_ok {c : Nat → Nat → Int} {n : Nat} {d : List ((Int × Int) × Int)} (h8 : n ≤ 8) (hd : CostD c n d) : _law_table_right (dic c n (2 ^ n), d, (n : Int)) = .ok true := by
  have h256 := pow_le256 h8
  have hp : 0 < 2 ^ n := Nat.pow_pos (by decide)
  unfold _law_table_right
  simp only [sm_ret, sm_map1, sm_map2, sm_bnd1, sm_bnd2, sm_or, R.bind_ok, R.bind_assoc]
  rw [shlR_ok (by omega)]
  simp only [R.bind_ok]
  rw [dic_len, if_neg (by simp [neB])]
  have z0 : dget (dic c n (2 ^ n)) ((0 : Nat) : Int) = some (tt c n 0) := dic_get c n hp
  rw [show (0 : Int) = ((0 : Nat) : Int) from rfl, z0]
  simp only [R.ofO_some, R.bind_ok]
  rw [if_neg (by rw [tt_zero]; decide)]
  rw [rng2_ok (by decide) (by decide) (by omega) (by omega)]
  simp only [R.bind_ok]
  obtain ⟨u, u1, _⟩ := forR_inv (f := _law_table_right_b16 (dic c n (2 ^ n), d, (n : Int))) (fun _ _ => True) (rangeL 1 ((2 ^ n : Nat) : Int)) 0 () trivial fun i l a _ ha => by
    obtain ⟨g1, g2⟩ := rangeL_get ha
    have e2 : a = ((i + 1 : Nat) : Int) := by rw [g2]; omega
    subst e2
    have hs : i + 1 < 2 ^ n := by omega
    refine ⟨(), ?_, trivial⟩
    unfold _law_table_right_b16
    simp only [sm_ret, sm_map1, sm_map2, sm_bnd1, sm_bnd2, sm_or, R.bind_ok, R.bind_assoc]
    rw [lc_ok (p := fun h => eqB (Builtin.bitAnd (((i + 1 : Nat) : Int) / 2 ^ h.toNat) 1) 1) (g := fun h => h) (xs := rangeL 0 (n : Int)) (s' := ()) ?hm (fun h hh => ?hf) (fun _ _ _ => by simp) (by rw [rangeL_len]; omega)]
    case hm =>
      simp only [sm_bnd1, sm_ret, R.bind_ok]
      rw [rng1_ok (by omega) (by omega), R.bind_ok]
    case hf =>
      have h0 : 0 ≤ h := by
        unfold rangeL at hh
        obtain ⟨k, _, e⟩ := List.mem_map.mp hh
        omega
      simp only [sm_map2, sm_bnd2, sm_ret, R.bind_ok, shrR]
      rw [R.guard_true h0]
      simp only [R.bind_ok]
    have em : (rangeL 0 (n : Int)).filter (fun h => eqB (Builtin.bitAnd (((i + 1 : Nat) : Int) / 2 ^ h.toNat) 1) 1) = (mem n (i + 1)).map fun (h : Nat) => (h : Int) := by
      have e : rangeL 0 (n : Int) = (List.range n).map fun (h : Nat) => (h : Int) := by
        unfold rangeL
        simp
      rw [e]
      unfold mem
      rw [List.filter_map]
      congr 1
      apply List.filter_congr
      intro h _
      show eqB (Builtin.bitAnd (((i + 1 : Nat) : Int) / 2 ^ ((h : Int)).toNat) 1) 1 = (i + 1).testBit h
      rw [Int.toNat_natCast, shr_test]
      cases (i + 1).testBit h <;> rfl
    rw [List.map_id', em]
    simp only [R.bind_ok]
    have ml := mem_len n (i + 1)
    rw [foldR_app (h := fun h => ent c n (i + 1) h.toNat) (M := 16777216) _ [] (fun l hl x hx => ?hg) (by simp; omega)]
    case hg =>
      obtain ⟨k, hk, e⟩ := List.mem_map.mp hx
      subst e
      obtain ⟨m1, m2⟩ := mem_lt hk
      obtain ⟨hb, _⟩ := bit_sub (by omega) (by omega) m2
      have hp2 : 0 < 2 ^ k := Nat.pow_pos (by decide)
      unfold _law_table_right_b14
      simp only [sm_ret, sm_map1, sm_map2, sm_bnd1, sm_bnd2, R.bind_ok, R.bind_assoc]
      rw [shlR_ok (by omega)]
      simp only [R.bind_ok, sub_pow hb]
      rw [dic_get c n (by omega)]
      simp only [R.ofO_some, R.bind_ok]
      rw [lc_ok (p := fun g => neB g (k : Int)) (g := fun g => c g.toNat k) (xs := (mem n (i + 1)).map fun (h : Nat) => (h : Int)) (s' := l) (by simp) (fun _ _ => by simp) (fun g hg _ => ?hq) (by rw [List.length_map]; omega)]
      case hq =>
        obtain ⟨g', hg', e⟩ := List.mem_map.mp hg
        subst e
        simp only [sm_ret, sm_map2, sm_bnd2, R.bind_ok, Int.toNat_natCast]
        rw [hd g' (mem_lt hg').1 k m1]
        simp
      simp only [R.bind_ok, appR]
      rw [R.guard_true (by omega)]
      simp only [R.bind_ok]
      congr 2
      congr 1
      rw [Int.toNat_natCast]
      unfold ent
      congr 2
      rw [mem_sub h8 (by omega) hk, List.filter_map, List.map_map]
      congr 1
      apply List.filter_congr
      intro g _
      show neB (g : Int) (k : Int) = (g != k)
      unfold neB
      by_cases q : g = k
      · subst q; simp
      · have q2 : ¬ ((g : Int) = (k : Int)) := by omega
        simp [q, q2]
    simp only [R.bind_ok, List.nil_append, List.map_map, sm_pk, sm_or, sm_map2, sm_bnd2, sm_bnd1, sm_map1, sm_ret, R.bind_assoc]
    rw [dic_get c n hs]
    simp only [R.ofO_some, R.bind_ok]
    have hne := mem_ne hs (by omega)
    rw [minL_ok (by simpa using hne)]
    simp only [R.bind_ok, R.calm_ok]
    have et : minD ((mem n (i + 1)).map ((fun h : Int => ent c n (i + 1) h.toNat) ∘ fun (h : Nat) => (h : Int))) = tt c n (i + 1) := by
      rw [tt_pos c n h8 (by omega) (by omega)]
      rfl
    rw [et, if_neg (by simp [neB])]
    simp
  rw [u1]
  simp only [R.bind_ok, ocB]
end K57

/-! k57: _law_right. -/
namespace K57
open PySem PySem.Spec PyProof.Rows L2 Y
structure Good (fixed marks : List Str) (lines : List (Str × Str)) : Prop where
  fn : fixed.Nodup
  mn : marks.Nodup
  lf : fixed.length ≤ 60
  lm : marks.length ≤ 9
  ll : lines.length ≤ 40
  hin : ∀ z ∈ lines, z.1 ∈ fixed ∧ z.2 ∈ marks
  kf : ∀ z ∈ fixed, PyData.strOk z = true
  km : ∀ z ∈ marks, PyData.strOk z = true
section
variable {fixed marks : List Str} {lines : List (Str × Str)}
theorem Good.can (g : Good fixed marks lines) : (dqLsH (dtCons (dqLst dqStr) (dtCons (dqLst dqStr) (dtOne (dqLst (dqTup (dtCons dqStr (dtOne dqStr))))))) : DQ K0 _).can (fixed, marks, lines) = true := by
  show ((fixed.all PyData.strOk) && ((marks.all PyData.strOk) && (lines.all fun z => PyData.strOk z.1 && PyData.strOk z.2))) = true
  rw [Bool.and_eq_true, Bool.and_eq_true, List.all_eq_true, List.all_eq_true, List.all_eq_true]
  exact ⟨g.kf, g.km, fun z hz => by rw [g.kf _ (g.hin z hz).1, g.km _ (g.hin z hz).2]; rfl⟩
theorem refused_ok (h : 8 < marks.length) : _law_refused (fixed, marks, lines) = .ok true := by
  have e : least_order (fixed, marks, lines) = .ex ⟨1, .no⟩ := by
    unfold least_order
    simp only [sm_ret, sm_map1, sm_map2, R.bind_ok, R.bind_assoc]
    rw [if_pos (by unfold gtB; simp; omega)]
  unfold _law_refused
  simp only [sm_ret, sm_map2, sm_bnd1, R.bind_ok, R.bind_assoc]
  rw [e]
  rfl
theorem full_mem (n : Nat) : mem n (2 ^ n - 1) = List.range n := by
  unfold mem
  rw [List.filter_eq_self]
  intro i hi
  rw [Nat.testBit_two_pow_sub_one]
  exact decide_eq_true (List.mem_range.mp hi)
theorem map_getD (xs : List Str) : (List.range xs.length).map (fun h => xs.getD h ⟨#[]⟩) = xs := by
  apply List.ext_getElem
  · simp
  · intro i h1 h2
    rw [List.getElem_map, List.getElem_range, List.getD_eq_getElem?_getD, List.getElem?_eq_getElem h2]
    rfl
theorem ord_perm (h8 : marks.length ≤ 8) : (ordM (marks.map (endsM fixed lines)) marks).Perm marks ∧ pairT (cs fixed lines) (ordM (marks.map (endsM fixed lines)) marks) = tt (cc (marks.map (endsM fixed lines))) marks.length (2 ^ marks.length - 1) := by
  have hE : (marks.map (endsM fixed lines)).length = marks.length := List.length_map ..
  have hp : 0 < 2 ^ marks.length := Nat.pow_pos (by decide)
  unfold ordM
  rw [hE]
  obtain ⟨h1, h2⟩ := chain_ok (cc (marks.map (endsM fixed lines))) marks.length h8 (2 ^ marks.length) (2 ^ marks.length - 1) (by omega) (by omega)
  refine ⟨?_, ?_⟩
  · have z := h1.map fun h => marks.getD h ⟨#[]⟩
    rw [full_mem, map_getD] at z
    exact z
  · rw [← h2]
    have all : ∀ h ∈ chain (cc (marks.map (endsM fixed lines))) marks.length (2 ^ marks.length) (2 ^ marks.length - 1), h < marks.length := fun h m => chain_mem _ _ h8 (by omega) (by omega) m
    generalize chain (cc (marks.map (endsM fixed lines))) marks.length (2 ^ marks.length) (2 ^ marks.length - 1) = ch at all
    induction ch with
    | nil => rfl
    | cons x xs ih =>
      rw [List.map_cons]
      show S _ _ + pairT _ _ = (xs.map (cc (marks.map (endsM fixed lines)) x)).sum + pairS _ xs
      rw [ih fun h m => all h (List.mem_cons_of_mem _ m), S_map]
      congr 1
      exact S_congr fun y hy => (cc_cs (all x List.mem_cons_self) (all y (List.mem_cons_of_mem _ hy))).symm
theorem sort_eq {xs ys : List Str} (h : xs.Perm ys) : xs.mergeSort leT = ys.mergeSort leT :=
  List.Perm.eq_of_pairwise (fun a b _ _ => leT_anti) (List.pairwise_mergeSort leT_trans leT_tot xs) (List.pairwise_mergeSort leT_trans leT_tot ys) (((List.mergeSort_perm xs leT).trans h).trans (List.mergeSort_perm ys leT).symm)
theorem own_ok {d : List ((Int × Int) × Int)} {o : List Str} {z3 : (Int × List Str × List (Int × Int)) × Unit} (ho : z3.1.2.1 = o) (h8 : marks.length ≤ 8) (mn : marks.Nodup) (hd : CostD (cc (marks.map (endsM fixed lines))) marks.length d) (hm : ∀ x ∈ o, x ∈ marks) (lo : o.length ≤ 8) :
    forR (_law_right_b30 (fixed, marks, lines) z3 d) 0 (enumL o) = .ok (.nx (pairT (cs fixed lines) o)) := by
  have hget : ∀ x ∈ marks, ∀ y ∈ marks, dget d ((marks.idxOf x : Int), (marks.idxOf y : Int)) = some (cs fixed lines x y) := fun x hx y hy => by
    have lx := List.idxOf_lt_length_of_mem hx
    have ly := List.idxOf_lt_length_of_mem hy
    rw [hd _ lx _ ly, cc_cs lx ly]
    congr 2
    · exact getD_of (by rw [List.getElem?_eq_getElem lx, List.getElem_idxOf lx])
    · exact getD_of (by rw [List.getElem?_eq_getElem ly, List.getElem_idxOf ly])
  obtain ⟨r, r1, r2⟩ := forR_inv (f := _law_right_b30 (fixed, marks, lines) z3 d) (fun k acc => acc + pairT (cs fixed lines) (o.drop k) = pairT (cs fixed lines) o) (enumL o) 0 0 (by rw [List.drop_zero]; omega) fun i acc a hI ha => by
    rw [Nat.zero_add] at hI ⊢
    obtain ⟨g1, g2⟩ := enumL_get ha
    obtain ⟨hi, ei⟩ := List.getElem?_eq_some_iff.mp g1
    have ha0 : a.2 ∈ o := List.mem_of_getElem? g1
    refine ⟨acc + S (o.drop (i + 1)) (cs fixed lines a.2), ?_, ?_⟩
    · unfold _law_right_b30
      simp only [sm_ret, sm_map1, sm_map2, sm_map3, sm_bnd1, sm_bnd2, R.bind_ok, R.bind_assoc]
      rw [lc_ok (p := fun _ => true) (g := fun y => cs fixed lines a.2 y) (xs := o.drop (i + 1)) (s' := ()) ?hm (fun _ _ => by simp) (fun y hy _ => ?hf) (by rw [List.length_drop]; omega)]
      case hm =>
        simp only [sm_ret, sm_map1, sm_map2, sm_map3, R.bind_ok]
        rw [ho, g2, show ((i : Int) + 1) = ((i + 1 : Nat) : Int) by omega, cutL_drop]
      case hf =>
        simp only [sm_ret, sm_map2, sm_bnd2, R.bind_ok]
        rw [idxR_of (hm _ ha0), idxR_of (hm _ (List.mem_of_mem_drop hy))]
        simp only [R.bind_ok]
        rw [hget _ (hm _ ha0) _ (hm _ (List.mem_of_mem_drop hy))]
        simp
      simp only [R.bind_ok, filter_tt]
      rfl
    · have ed : o.drop i = a.2 :: o.drop (i + 1) := by rw [List.drop_eq_getElem_cons hi, ei]
      rw [ed] at hI
      have hI : acc + (S (o.drop (i + 1)) (cs fixed lines a.2) + pairT (cs fixed lines) (o.drop (i + 1))) = pairT (cs fixed lines) o := hI
      omega
  rw [r1]
  rw [Nat.zero_add, enumL_len, List.drop_of_length_le (Nat.le_refl _)] at r2
  have r2 : r + 0 = pairT (cs fixed lines) o := r2
  rw [← r2]
  simp
theorem right_ok (g : Good fixed marks lines) : _law_right (fixed, marks, lines) = .ok true := by
  unfold _law_right
  simp only [sm_ret, sm_map1, sm_map2, sm_map3, sm_bnd1, sm_bnd2, sm_and, sm_or, sm_not, sm_pk, R.bind_ok, R.bind_assoc, id]
  have hc := g.can
  have hll := g.ll
  have hlf := g.lf
  have hin1 : ∀ z ∈ lines, z.1 ∈ fixed := fun z hz => (g.hin z hz).1
  by_cases h9 : 8 < marks.length
  · rw [if_pos (by unfold gtB; simp; omega), refused_ok h9]
    simp only [R.calm_ok, R.bind_ok]
    rw [if_pos trivial]
    simp only [eqD]
    rw [R.guard_true ⟨hc, hc⟩]
    simp
  · have h8 : marks.length ≤ 8 := by omega
    have h256 := pow_le256 h8
    have hp : 0 < 2 ^ marks.length := Nat.pow_pos (by decide)
    rw [if_neg (by unfold gtB; simp; omega)]
    have lo := least_ok (fixed := fixed) (free := marks) (lines := lines) g.fn (by omega) h8 (by omega) hin1
    rw [lo]
    obtain ⟨op, ot⟩ := ord_perm (fixed := fixed) (marks := marks) (lines := lines) h8
    obtain ⟨d, d1, d2⟩ := costs_ok (fixed := fixed) (marks := marks) (lines := lines) h8 (by omega) hin1
    have tr := table_right_ok h8 d2
    simp only [R.calm_ok, R.bind_ok]
    rw [if_neg (by decide), if_neg (by decide)]
    simp only [neD]
    rw [R.guard_true ⟨hc, hc⟩]
    simp only [R.bind_ok]
    rw [if_neg (by simp)]
    rw [d1]
    simp only [R.bind_ok]
    rw [tr]
    simp only [R.calm_ok, R.bind_ok]
    rw [if_neg (by decide), shlR_ok (by omega)]
    simp only [R.bind_ok]
    rw [show ((2 ^ marks.length : Nat) : Int) - 1 = ((2 ^ marks.length - 1 : Nat) : Int) by omega, dic_get _ _ (by omega)]
    simp only [R.ofO_some, R.bind_ok, R.calm_ok]
    rw [if_neg (by simp [neB])]
    have lop := op.length_eq
    simp only [sortS]
    rw [R.guard_true (by omega), R.guard_true (by omega)]
    simp only [R.bind_ok, R.calm_ok]
    rw [sort_eq op]
    rw [R.guard_true ?hsm]
    case hsm =>
      have : ((dqLst dqStr : DQ K0 _).can (marks.mergeSort leT)) = true := by
        show (marks.mergeSort leT).all PyData.strOk = true
        rw [List.all_eq_true]
        exact fun z hz => g.km z ((List.mergeSort_perm marks leT).mem_iff.mp hz)
      exact ⟨this, this⟩
    simp only [R.bind_ok, R.calm_ok]
    rw [if_neg (by simp)]
    have ho : (ordM (marks.map (endsM fixed lines)) marks).Nodup := op.nodup_iff.mpr g.mn
    rw [crossings_ok (o := ordM (marks.map (endsM fixed lines)) marks) g.fn ho (by omega) (by omega) fun z hz => ⟨(g.hin z hz).1, op.mem_iff.mpr (g.hin z hz).2⟩]
    simp only [R.bind_ok, R.calm_ok]
    rw [← pairT_S fixed lines ho, ot]
    rw [if_neg (by simp [neB])]
    rw [own_ok rfl h8 g.mn d2 (fun x hx => op.mem_iff.mp hx) (by show (ordM (marks.map (endsM fixed lines)) marks).length ≤ 8; omega)]
    simp only [R.bind_ok, R.calm_ok, ocB, revR]
    rw [ot, if_pos (by simp [eqB]), if_pos (by simp [eqB])]
    simp
end
end K57

/-! k57: what is drawn. -/
namespace K57
open PySem PySem.Spec PyProof.Rows L2 Y
theorem log2_small {j : Int} (h0 : 0 < j) (h1 : j < 10000000000) : j.natAbs.log2 < 9000 := by
  have : j.natAbs.log2 < 34 := by
    rw [Nat.log2_lt (by omega)]
    have : (2 : Nat) ^ 34 = 17179869184 := by decide
    omega
  omega
theorem divS {i j : Int} (h0 : 0 < j) (h1 : j < 10000000000) : divR i j = .ok (i / j) := divR_ok h0 (log2_small h0 h1)
theorem mixed_ok (cell k : Int) (h0 : 0 ≤ k) (h1 : k ≤ 1000000) : ∃ v, _law_mixed (cell, k) = .ok v := by
  unfold _law_mixed
  simp only [sm_ret, sm_map1, sm_map2, sm_map3, sm_bnd1, sm_bnd2, R.bind_ok, R.bind_assoc]
  rw [modR_ok (by decide)]
  simp only [R.bind_ok]
  rw [mulR_ok (.inr ⟨by decide, by decide⟩)]
  simp only [R.bind_ok]
  rw [mulR_ok (.inr ⟨by omega, by omega⟩)]
  simp only [R.bind_ok]
  rw [modR_ok (by decide)]
  simp only [R.bind_ok]
  rw [divS (by decide) (by decide)]
  simp only [R.bind_ok]
  rw [modR_ok (by decide)]
  simp only [R.bind_ok]
  rw [mulR_ok (.inr ⟨by omega, by omega⟩)]
  simp only [R.bind_ok]
  rw [mulR_ok (.inr ⟨by decide, by decide⟩)]
  simp only [R.bind_ok]
  rw [modR_ok (by decide)]
  simp only [R.bind_ok]
  rw [divS (by decide) (by decide)]
  simp only [R.bind_ok]
  rw [mulR_ok (.inl ⟨by have := Int.emod_nonneg ((cell % 2147483646 + 1) * (k * 7919 + 104729) % 2147483647 + cell / 2147483646 % 1000003 * (k + 31)) (show (2147483629 : Int) ≠ 0 by decide); omega, by omega⟩)]
  simp only [R.bind_ok]
  rw [modR_ok (by decide)]
  simp only [R.bind_ok]
  rw [divS (by decide) (by decide)]
  simp only [R.bind_ok]
  rw [mulR_ok (.inl ⟨by omega, by omega⟩)]
  simp only [R.bind_ok]
  rw [modR_ok (by decide)]
  exact ⟨_, R.bind_ok _ _⟩
/-- a source of numbers, drawn n times at most -/
def Src (n : Nat) (s : List Int) : Prop := ∃ a b c : Int, s = [a, b, c] ∧ 0 ≤ c ∧ c ≤ n
theorem Src.up {n m : Nat} {s : List Int} (h : Src n s) (l : n ≤ m) : Src m s := by
  obtain ⟨a, b, c, e, h0, h1⟩ := h
  exact ⟨a, b, c, e, h0, by omega⟩
theorem take_ok {n : Nat} {s : List Int} (hs : Src n s) (hn : n < 1000000) {many : Int} (h0 : 0 < many) (h1 : many < 1000000) : ∃ v s', (_law_take (s, many)).calm = .ok (v, s') ∧ 0 ≤ v ∧ v < many ∧ Src (n + 1) s' := by
  obtain ⟨a, b, c, e, c0, c1⟩ := hs
  subst e
  have g0 : getI [a, b, c] 0 = .ok a := getI_nat (i := 0) rfl
  have g2 : getI [a, b, c] 2 = .ok c := getI_nat (i := 2) rfl
  have pw : powR 10 18 = .ok (10 ^ 18) := by
    unfold powR
    rw [R.guard_true (by unfold CPow; decide)]
    rfl
  unfold _law_take
  simp only [sm_ret, sm_map1, sm_map2, sm_map3, sm_bnd1, sm_bnd2, sm_pk, R.bind_ok, R.bind_assoc, R.calm_ok, g0, g2, pw]
  by_cases hc : geB a (10 ^ 18) = true
  · rw [if_pos hc, modR_ok h0]
    simp only [R.bind_ok, R.calm_ok]
    rw [divS h0 (by omega)]
    simp only [R.bind_ok, R.calm_ok]
    have e0 : setR [a, b, c] 0 (a / many) = .ok [a / many, b, c] := rfl
    rw [e0]
    exact ⟨_, _, rfl, Int.emod_nonneg _ (by omega), Int.emod_lt_of_pos _ h0, _, _, _, rfl, c0, by omega⟩
  · rw [if_neg hc]
    have e2 : setR [a, b, c] 2 (c + 1) = .ok [a, b, c + 1] := rfl
    rw [e2]
    simp only [R.bind_ok]
    have g1' : getI [a, b, c + 1] 1 = .ok b := getI_nat (i := 1) rfl
    have g2' : getI [a, b, c + 1] 2 = .ok (c + 1) := getI_nat (i := 2) rfl
    rw [g1', g2']
    simp only [R.bind_ok]
    obtain ⟨v, hv⟩ := mixed_ok b (c + 1) (by omega) (by omega)
    rw [hv]
    simp only [R.calm_ok, R.bind_ok]
    rw [modR_ok h0]
    exact ⟨_, _, rfl, Int.emod_nonneg _ (by omega), Int.emod_lt_of_pos _ h0, _, _, _, rfl, by omega, by omega⟩
/-- a name -/
def nm (p : Str) (k : Nat) : Str := p ++ Str.ofString (toString (k : Int))
def nmOk (p : Str) : Bool := (List.range 64).all fun k => decide (p.length + (Str.ofString (toString (k : Int))).length ≤ 16777216) && decide ((k : Int).natAbs.log2 < 1920) && PyData.strOk (nm p k)
theorem nmf : nmOk "f" = true := by decide +kernel
theorem nmm : nmOk "m" = true := by decide +kernel
theorem ndf : ((List.range 60).map (nm "f")).Nodup := by decide +kernel
theorem ndm : ((List.range 9).map (nm "m")).Nodup := by decide +kernel
theorem nm_ok {p : Str} (h : nmOk p = true) {k : Nat} (hk : k < 64) : ((strI (k : Int)).bind fun b => catS p b) = .ok (nm p k) ∧ PyData.strOk (nm p k) = true := by
  have z := List.all_eq_true.mp h k (List.mem_range.mpr hk)
  simp only [Bool.and_eq_true, decide_eq_true_eq] at z
  unfold strI
  rw [R.guard_true z.1.2]
  simp only [R.bind_ok, catS]
  rw [R.guard_true z.1.1]
  exact ⟨R.bind_ok _ _, z.2⟩
theorem names_ok {ς : Type} {p : Str} (h : nmOk p = true) {n : Nat} (hn : n < 64) (s : ς) : SM.lc (SM.bnd1 rng1 (SM.ret (n : Int))) (fun _ => SM.ret true) (fun a => SM.bnd2 catS (SM.ret p) (SM.bnd1 strI (SM.ret a))) s = .ok ((List.range n).map (nm p), s) := by
  rw [lc_ok (p := fun _ => true) (g := fun k => nm p k.toNat) (xs := rangeL 0 (n : Int)) (s' := s) ?hm (fun _ _ => by simp) (fun k hk _ => ?hf) (by rw [rangeL_len]; omega)]
  case hm =>
    simp only [sm_bnd1, sm_ret, R.bind_ok]
    rw [rng1_ok (by omega) (by omega), R.bind_ok]
  case hf =>
    unfold rangeL at hk
    obtain ⟨i, hi, e⟩ := List.mem_map.mp hk
    rw [List.mem_range] at hi
    have e : k = (i : Int) := by omega
    subst e
    have z := (nm_ok h (k := i) (by omega)).1
    simp only [sm_bnd2, sm_bnd1, sm_ret, R.bind_ok, R.bind_assoc, Int.toNat_natCast]
    rw [← R.bind_assoc, z, R.bind_ok]
  rw [filter_tt]
  have e : rangeL 0 (n : Int) = (List.range n).map fun (h : Nat) => (h : Int) := by
    unfold rangeL
    simp
  rw [e, List.map_map]
  rfl
theorem disp_ok {α : Type} {xs : List α} (h : xs.length ≤ 16777216) : dispR xs = .ok xs := by
  unfold dispR
  rw [R.guard_true h, R.bind_ok]
theorem get3 {α : Type} (x y z : α) {v : Int} (h0 : 0 ≤ v) (h1 : v < 3) : ∃ r, getI [x, y, z] v = .ok r ∧ (r = x ∨ r = y ∨ r = z) := by
  have : v = 0 ∨ v = 1 ∨ v = 2 := by omega
  rcases this with e | e | e
  · subst e; exact ⟨x, getI_nat (i := 0) rfl, .inl rfl⟩
  · subst e; exact ⟨y, getI_nat (i := 1) rfl, .inr (.inl rfl)⟩
  · subst e; exact ⟨z, getI_nat (i := 2) rfl, .inr (.inr rfl)⟩
theorem get2 {α : Type} (x y : α) {v : Int} (h0 : 0 ≤ v) (h1 : v < 2) : ∃ r, getI [x, y] v = .ok r ∧ (r = x ∨ r = y) := by
  have : v = 0 ∨ v = 1 := by omega
  rcases this with e | e
  · subst e; exact ⟨x, getI_nat (i := 0) rfl, .inl rfl⟩
  · subst e; exact ⟨y, getI_nat (i := 1) rfl, .inr rfl⟩
theorem getI_in {α : Type} {xs : List α} {v : Int} (h0 : 0 ≤ v) (h1 : v < xs.length) : ∃ r, getI xs v = .ok r ∧ r ∈ xs := by
  obtain ⟨k, rfl⟩ := Int.eq_ofNat_of_zero_le h0
  have hk : k < xs.length := by omega
  exact ⟨xs[k], getI_nat (List.getElem?_eq_getElem hk), List.getElem_mem hk⟩
theorem b2n_lt (b : Bool) : 0 ≤ b2n b ∧ b2n b < 2 := by cases b <;> decide
end K57

/-! k57: the law. -/
namespace K57
open PySem PySem.Spec PyProof.Rows L2 Y
section
variable {L F : Int} {fx ms : List Str} {u1 u3 u7 : List Int}
theorem b27_ok {n : Nat} {src : List Int} {ls : List (Str × Str)} {i : Int} (hL : 0 < L) (hL2 : L ≤ 60) (hF : 0 < F) (hF2 : F ≤ 9) (lf : (fx.length : Int) = L) (lm : (ms.length : Int) = F) (hs : Src n src) (hn : n < 900000) (hls : ls.length ≤ 1000) (hin : ∀ z ∈ ls, z.1 ∈ fx ∧ z.2 ∈ ms) :
    ∃ src' ls', _law_drawn_b27 (L, u1) (F, u3) (fx, ()) (ms, u7) (src, ls) i = .ok (src', ls') ∧ Src (n + 5) src' ∧ ls'.length ≤ ls.length + 2 ∧ ∀ z ∈ ls', z.1 ∈ fx ∧ z.2 ∈ ms := by
  unfold _law_drawn_b27 _law_drawn_t25 _law_drawn_e26
  simp only [sm_ret, sm_map1, sm_map2, sm_map3, sm_bnd1, sm_bnd2, sm_and, sm_or, sm_not, sm_pk, R.bind_ok, R.bind_assoc, R.calm_ok]
  have em : max2 (1, L) = L := by
    unfold max2
    by_cases h : L > 1
    · rw [if_pos h]
    · rw [if_neg h]; omega
  rw [em]
  obtain ⟨v1, s1, e1, a1, b1, S1⟩ := take_ok hs (by omega) hL (by omega)
  rw [e1]
  simp only [R.bind_ok]
  rw [disp_ok (by simp)]
  simp only [R.bind_ok]
  obtain ⟨v2, s2, e2, a2, b2, S2⟩ := take_ok S1 (by omega) (many := 6) (by decide) (by decide)
  rw [e2]
  simp only [R.bind_ok]
  obtain ⟨at', g1, h1⟩ := get2 v1 (L - 1) (b2n_lt (eqB v2 0)).1 (b2n_lt (eqB v2 0)).2
  rw [g1]
  simp only [R.bind_ok]
  obtain ⟨f, gf, mf⟩ := getI_in (xs := fx) (v := at') (by rcases h1 with h | h <;> omega) (by rcases h1 with h | h <;> omega)
  rw [gf]
  simp only [R.bind_ok]
  obtain ⟨v3, s3, e3, a3, b3, S3⟩ := take_ok S2 (by omega) hF (by omega)
  rw [e3]
  simp only [R.bind_ok]
  obtain ⟨m, gm, mm⟩ := getI_in (xs := ms) (v := v3) a3 (by omega)
  rw [gm]
  simp only [R.bind_ok, appR]
  rw [R.guard_true (by omega)]
  simp only [R.bind_ok]
  obtain ⟨v4, s4, e4, a4, b4, S4⟩ := take_ok S3 (by omega) (many := 5) (by decide) (by decide)
  rw [e4]
  simp only [R.bind_ok]
  have hin1 : ∀ z ∈ ls ++ [(f, m)], z.1 ∈ fx ∧ z.2 ∈ ms := fun z hz => by
    rcases List.mem_append.mp hz with h | h
    · exact hin z h
    · have : z = (f, m) := by simpa using h
      subst this; exact ⟨mf, mm⟩
  by_cases h4 : eqB v4 0 = true
  · rw [if_pos h4]
    have hlen : ((ls ++ [(f, m)]).length : Int) = ls.length + 1 := by simp
    obtain ⟨v5, s5, e5, a5, b5, S5⟩ := take_ok S4 (by omega) (many := ((ls ++ [(f, m)]).length : Int)) (by omega) (by omega)
    rw [e5]
    simp only [R.bind_ok]
    obtain ⟨y, gy, my⟩ := getI_in (xs := ls ++ [(f, m)]) (v := v5) a5 b5
    rw [gy]
    simp only [R.bind_ok]
    rw [R.guard_true (by simp; omega)]
    simp only [R.bind_ok]
    refine ⟨_, _, rfl, S5, by simp, fun z hz => ?_⟩
    rcases List.mem_append.mp hz with h | h
    · exact hin1 z h
    · have : z = y := by simpa using h
      subst this; exact hin1 z my
  · rw [if_neg h4]
    simp only [R.bind_ok]
    exact ⟨_, _, rfl, S4.up (by omega), by simp, hin1⟩
end
theorem nodup_take {xs : List Str} {n m : Nat} (p : Str) (h : ((List.range m).map (nm p)).Nodup) (hn : n ≤ m) : ((List.range n).map (nm p)).Nodup := by
  have e : (List.range n).map (nm p) = ((List.range m).map (nm p)).take n := by
    rw [← List.map_take, List.take_range, Nat.min_eq_left hn]
  rw [e]
  exact h.sublist (List.take_sublist _ _)
theorem drawn_ok {src : List Int} (hs : Src 0 src) : ∃ fixed marks lines src', _law_drawn src = .ok ((fixed, marks, lines), src') ∧ Good fixed marks lines := by
  unfold _law_drawn
  simp only [sm_ret, sm_map1, sm_map2, sm_map3, sm_bnd1, sm_bnd2, sm_and, sm_or, sm_not, sm_pk, R.bind_ok, R.bind_assoc, R.calm_ok]
  obtain ⟨v1, s1, e1, a1, b1, S1⟩ := take_ok hs (by omega) (many := 9) (by decide) (by decide)
  rw [e1]
  simp only [R.bind_ok]
  obtain ⟨v2, s2, e2, a2, b2, S2⟩ := take_ok S1 (by omega) (many := 52) (by decide) (by decide)
  rw [e2]
  simp only [R.bind_ok]
  rw [disp_ok (by simp)]
  simp only [R.bind_ok]
  obtain ⟨v3, s3, e3, a3, b3, S3⟩ := take_ok S2 (by omega) (many := 3) (by decide) (by decide)
  rw [e3]
  simp only [R.bind_ok]
  obtain ⟨L, gL, hL⟩ := get3 v1 (9 + v2) 60 a3 b3
  rw [gL]
  simp only [R.bind_ok]
  have hL0 : 0 ≤ L ∧ L ≤ 60 := by rcases hL with h | h | h <;> omega
  obtain ⟨v4, s4, e4, a4, b4, S4⟩ := take_ok S3 (by omega) (many := 5) (by decide) (by decide)
  rw [e4]
  simp only [R.bind_ok]
  obtain ⟨v5, s5, e5, a5, b5, S5⟩ := take_ok S4 (by omega) (many := 5) (by decide) (by decide)
  rw [e5]
  simp only [R.bind_ok]
  obtain ⟨v6, s6, e6, a6, b6, S6⟩ := take_ok S5 (by omega) (many := 2) (by decide) (by decide)
  rw [e6]
  simp only [R.bind_ok]
  rw [disp_ok (by simp)]
  simp only [R.bind_ok]
  obtain ⟨v7, s7, e7, a7, b7, S7⟩ := take_ok S6 (by omega) (many := 8) (by decide) (by decide)
  rw [e7]
  simp only [R.bind_ok]
  rw [mulR_ok (.inr ⟨by decide, by decide⟩)]
  simp only [R.bind_ok]
  have hb := b2n_lt (eqB v7 0)
  obtain ⟨F, gF, hF⟩ := get3 v4 v5 (8 + v6) (v := b2n (eqB v7 0) * 2) (by omega) (by omega)
  rw [gF]
  simp only [R.bind_ok]
  have hF0 : 0 ≤ F ∧ F ≤ 9 := by rcases hF with h | h | h <;> omega
  obtain ⟨l, rfl⟩ := Int.eq_ofNat_of_zero_le hL0.1
  obtain ⟨f, rfl⟩ := Int.eq_ofNat_of_zero_le hF0.1
  rw [names_ok nmf (by omega)]
  simp only [R.bind_ok]
  rw [names_ok nmm (by omega)]
  simp only [R.bind_ok]
  rw [disp_ok (by simp)]
  simp only [R.bind_ok]
  obtain ⟨v8, s8, e8, a8, b8, S8⟩ := take_ok S7 (by omega) (many := 2) (by decide) (by decide)
  rw [e8]
  simp only [R.bind_ok]
  obtain ⟨st, gst, hst⟩ := get2 (1 : Int) (-1) a8 b8
  rw [gst]
  simp only [R.bind_ok]
  obtain ⟨ms, hms, pms⟩ : ∃ ms, stepL ((List.range f).map (nm "m")) st = .ok ms ∧ ms.Perm ((List.range f).map (nm "m")) := by
    rcases hst with h | h
    · subst h; exact ⟨_, rfl, .refl _⟩
    · subst h; exact ⟨_, rfl, List.reverse_perm _⟩
  rw [hms]
  simp only [R.bind_ok]
  obtain ⟨v9, s9, e9, a9, b9, S9⟩ := take_ok S8 (by omega) (many := 41) (by decide) (by decide)
  rw [e9]
  simp only [R.bind_ok]
  have lfx : ((List.range l).map (nm "f")).length = l := by simp
  have lms : ms.length = f := by rw [pms.length_eq]; simp
  -- the number of lines
  obtain ⟨N, hN, hN40, hpos⟩ : ∃ N : Nat, N ≤ 40 ∧ (N > 0 → 0 < l ∧ 0 < f) ∧ ∃ b : Bool, ((if gtB (l : Int) 0 = true then R.ok (gtB (f : Int) 0, s9) else R.ok (false, s9)) : R (Bool × List Int)) = .ok (b, s9) ∧ mulR v9 (b2n b) = .ok (N : Int) := by
    obtain ⟨k, rfl⟩ := Int.eq_ofNat_of_zero_le a9
    by_cases q : gtB (l : Int) 0 = true
    · rw [if_pos q]
      by_cases q2 : gtB (f : Int) 0 = true
      · refine ⟨k, by omega, fun _ => ⟨?_, ?_⟩, true, by rw [q2], ?_⟩
        · unfold gtB at q; simpa using q
        · unfold gtB at q2; simpa using q2
        · rw [mulR_ok (.inr ⟨by decide, by decide⟩)]
          show R.ok ((k : Int) * 1) = _
          rw [Int.mul_one]
      · have q3 : gtB (f : Int) 0 = false := by simpa using q2
        refine ⟨0, by omega, fun h => absurd h (by omega), false, by rw [q3], ?_⟩
        rw [mulR_ok (.inr ⟨by decide, by decide⟩)]
        show R.ok ((k : Int) * 0) = _
        rw [Int.mul_zero]; rfl
    · rw [if_neg q]
      refine ⟨0, by omega, fun h => absurd h (by omega), false, rfl, ?_⟩
      rw [mulR_ok (.inr ⟨by decide, by decide⟩)]
      show R.ok ((k : Int) * 0) = _
      rw [Int.mul_zero]; rfl
  obtain ⟨b, eb, emul⟩ := hpos
  rw [eb]
  simp only [R.bind_ok]
  rw [emul]
  simp only [R.bind_ok]
  rw [rng1_ok (by omega) (by omega)]
  simp only [R.bind_ok]
  obtain ⟨r, r1, r2, r3, r4⟩ := foldR_inv (f := _law_drawn_b27 ((l : Int), s3) ((f : Int), s7) ((List.range l).map (nm "f"), ()) (ms, s8)) (fun k (z : List Int × List (Str × Str)) => Src (20 + 5 * k) z.1 ∧ z.2.length ≤ 2 * k ∧ ∀ y ∈ z.2, y.1 ∈ (List.range l).map (nm "f") ∧ y.2 ∈ ms) (rangeL 0 (N : Int)) 0 (s9, []) ⟨S9.up (by omega), by simp, fun _ h => by cases h⟩ fun i z x ⟨H1, H2, H3⟩ hx => by
    obtain ⟨g1, _⟩ := rangeL_get hx
    rw [Nat.zero_add] at H1 H2 ⊢
    obtain ⟨p1, p2⟩ := hN40 (by omega)
    obtain ⟨sr, ls, q1, q2, q3, q4⟩ := b27_ok (L := (l : Int)) (F := (f : Int)) (fx := (List.range l).map (nm "f")) (ms := ms) (u1 := s3) (u3 := s7) (u7 := s8) (i := x) (by omega) (by omega) (by omega) (by omega) (by rw [lfx]) (by rw [lms]) H1 (by omega) (by omega) H3
    exact ⟨(sr, ls), q1, q2.up (by omega), by show ls.length ≤ _; omega, q4⟩
  rw [r1]
  simp only [R.bind_ok]
  refine ⟨_, _, _, _, rfl, ?_⟩
  have hcut : cutL r.2 none (some 40) = r.2.take 40 := cutL_take (k := 40)
  rw [hcut]
  exact {
    fn := nodup_take (xs := []) "f" ndf (by omega)
    mn := pms.nodup_iff.mpr (nodup_take (xs := []) "m" ndm (by omega))
    lf := by rw [lfx]; omega
    lm := by rw [lms]; omega
    ll := by rw [List.length_take]; omega
    hin := fun z hz => r4 z (List.mem_of_mem_take hz)
    kf := fun z hz => by
      obtain ⟨k, hk, e⟩ := List.mem_map.mp hz
      rw [List.mem_range] at hk
      subst e
      exact (nm_ok nmf (by omega)).2
    km := fun z hz => by
      obtain ⟨k, hk, e⟩ := List.mem_map.mp (pms.mem_iff.mp hz)
      rw [List.mem_range] at hk
      subst e
      exact (nm_ok nmm (by omega)).2 }
theorem law_ok (ns : List Int) (h : ns.length ≤ 63) : law ns = .ok true := by
  unfold law
  simp only [sm_ret, sm_map1, sm_map2, sm_map3, sm_bnd1, sm_bnd2, R.bind_ok, R.bind_assoc]
  rw [disp_ok (by simp)]
  simp only [R.bind_ok, catL]
  rw [R.guard_true (by simp; omega)]
  simp only [R.bind_ok]
  obtain ⟨u, u1, _⟩ := forR_inv (f := law_b8) (fun _ _ => True) (cutL (ns ++ [0]) none (some 3)) 0 () trivial fun i l a _ ha => by
    refine ⟨(), ?_, trivial⟩
    have es : _law_source a = .ok [a, a, 0] := by
      unfold _law_source
      simp only [sm_ret, sm_map2, sm_bnd1, R.bind_ok, R.bind_assoc]
      rw [disp_ok (by simp)]
      simp
    obtain ⟨fx, ms, ls, s', e1, g⟩ := drawn_ok (src := [a, a, 0]) ⟨a, a, 0, rfl, Int.le_refl _, Int.le_refl _⟩
    unfold law_b8
    simp only [sm_ret, sm_map1, sm_map2, sm_map3, sm_bnd1, sm_bnd2, sm_not, R.bind_ok, R.bind_assoc]
    rw [es]
    simp only [R.bind_ok, R.calm_ok]
    rw [e1]
    simp only [R.bind_ok, R.calm_ok]
    rw [right_ok g]
    simp
  rw [u1]
  simp only [R.bind_ok, ocB]
end K57

namespace K57
open PySem PySem.Spec PyProof.Rows L2 Y
def dd_places_of : He.DefD := ⟨("places_of", none), "places_of", "places_of", defArgs s_places_of, defBody s_places_of, defScope s_places_of, [], []⟩
def dd_cross : He.DefD := ⟨("cross", none), "cross", "cross", defArgs s_cross, defBody s_cross, defScope s_cross, [], []⟩
def dd_crossings : He.DefD := ⟨("crossings", none), "crossings", "crossings", defArgs s_crossings, defBody s_crossings, defScope s_crossings, [], []⟩
def dd_ends_of : He.DefD := ⟨("ends_of", none), "ends_of", "ends_of", defArgs s_ends_of, defBody s_ends_of, defScope s_ends_of, [], []⟩
def dd_cost : He.DefD := ⟨("cost", none), "cost", "cost", defArgs s_cost, defBody s_cost, defScope s_cost, [], []⟩
def dd_members : He.DefD := ⟨("members", none), "members", "members", defArgs s_members, defBody s_members, defScope s_members, [], []⟩
def dd_entry : He.DefD := ⟨("entry", none), "entry", "entry", defArgs s_entry, defBody s_entry, defScope s_entry, [], []⟩
def dd_least_order : He.DefD := ⟨("least_order", none), "least_order", "least_order", defArgs s_least_order, defBody s_least_order, defScope s_least_order, [], []⟩
def dd__law_mixed : He.DefD := ⟨("_law_mixed", none), "_law_mixed", "_law_mixed", defArgs s__law_mixed, defBody s__law_mixed, defScope s__law_mixed, [], []⟩
def dd__law_source : He.DefD := ⟨("_law_source", none), "_law_source", "_law_source", defArgs s__law_source, defBody s__law_source, defScope s__law_source, [], []⟩
def dd__law_take : He.DefD := ⟨("_law_take", none), "_law_take", "_law_take", defArgs s__law_take, defBody s__law_take, defScope s__law_take, [], []⟩
def dd__law_drawn : He.DefD := ⟨("_law_drawn", none), "_law_drawn", "_law_drawn", defArgs s__law_drawn, defBody s__law_drawn, defScope s__law_drawn, [], []⟩
def dd__law_cost : He.DefD := ⟨("_law_cost", none), "_law_cost", "_law_cost", defArgs s__law_cost, defBody s__law_cost, defScope s__law_cost, [], []⟩
def dd__law_table_right : He.DefD := ⟨("_law_table_right", none), "_law_table_right", "_law_table_right", defArgs s__law_table_right, defBody s__law_table_right, defScope s__law_table_right, [], []⟩
def dd__law_refused : He.DefD := ⟨("_law_refused", none), "_law_refused", "_law_refused", defArgs s__law_refused, defBody s__law_refused, defScope s__law_refused, [], []⟩
def dd__law_right : He.DefD := ⟨("_law_right", none), "_law_right", "_law_right", defArgs s__law_right, defBody s__law_right, defScope s__law_right, [], []⟩
def dd_law : He.DefD := ⟨("law", none), "law", "law", defArgs s_law, defBody s_law, defScope s_law, [], []⟩
def fn : List He.DefD := [dd_places_of, dd_cross, dd_crossings, dd_ends_of, dd_cost, dd_members, dd_entry, dd_least_order, dd__law_mixed, dd__law_source, dd__law_take, dd__law_drawn, dd__law_cost, dd__law_table_right, dd__law_refused, dd__law_right, dd_law]
def fa : List He.Fa := [.glo "places_of", .glo "cross", .glo "crossings", .glo "ends_of", .glo "cost", .glo "members", .glo "entry", .glo "least_order", .glo "_law_mixed", .glo "_law_source", .glo "_law_take", .glo "_law_drawn", .glo "_law_cost", .glo "_law_table_right", .glo "_law_refused", .glo "_law_right", .glo "law", .free "len", .free "sum", .free "min", .free "max", .free "abs", .free "int", .free "str", .free "list", .free "tuple", .free "dict", .free "bool", .free "range", .free "enumerate", .free "zip", .free "reversed", .free "sorted", .free "isinstance", .free "any", .free "all", .free "set", .free "type", .free "repr", .int "MOST" 8, .exc "TooMany", .glo "TooMany", .exm "TooMany" "TooMany" true]
abbrev Rw : PySem.W.OpenRow := PySem.W.OpenLaw.row PySem.Challenge.rw_layerdraw_k57_a_long_fixed_row
abbrev hk : PySem.W.Hook := He.hookD 5 fa fn
def ob (s : PySem.W.SharedT) : He.AlD := He.obsDG 5 fa fn (HandSHeadRun.getT s)
theorem ob_eq (s : PySem.W.SharedT) : ob s = hk.obs s.abs := He.obsDG_eq (HandSHeadRun.getT_eq s)
def loose : List PySem.Str := ["DrawError", "TooMany", "places_of", "cross", "crossings", "MOST", "ends_of", "cost", "members", "entry", "least_order", "_law_mixed", "_law_source", "_law_take", "_law_drawn", "_law_cost", "_law_table_right", "_law_refused", "_law_right"]
theorem run (w : World) : HandSHeadRun.RunEq Rw (PySem.W.view Rw.prog [23]) hk ob 4000 loose w := by
  intro os
  kernel_rfl
theorem facts {P : Program} {w : World} {K : PySem.W.Frag} {h : Heap} {mg : Str → Option Value} {f : Addr} (X : K.In h) (G : h.Ns mainGlobals mg) (hfa : mg ("law" : Str) = some (.ref f)) (c : He.SaysD fa fn K) :
    ∃ fd : FuncData, (∀ (s : Shared) (v : Value), BindsTo s fd ⟨[v], []⟩ [("script", v)]) ∧ ∀ base : Heap, K.In base → base.Ns mainGlobals mg → FnOk P w K mg base (L2.CX P w) 6 f fd ["script"] (law_sp K) := by
  have bi : Bi mg := ⟨He.free_ok X G (c.fact 17 (f := .free "len") rfl), He.free_ok X G (c.fact 18 (f := .free "sum") rfl), He.free_ok X G (c.fact 19 (f := .free "min") rfl), He.free_ok X G (c.fact 20 (f := .free "max") rfl), He.free_ok X G (c.fact 21 (f := .free "abs") rfl), He.free_ok X G (c.fact 22 (f := .free "int") rfl), He.free_ok X G (c.fact 23 (f := .free "str") rfl), He.free_ok X G (c.fact 24 (f := .free "list") rfl), He.free_ok X G (c.fact 25 (f := .free "tuple") rfl), He.free_ok X G (c.fact 26 (f := .free "dict") rfl), He.free_ok X G (c.fact 27 (f := .free "bool") rfl), He.free_ok X G (c.fact 28 (f := .free "range") rfl), He.free_ok X G (c.fact 29 (f := .free "enumerate") rfl), He.free_ok X G (c.fact 30 (f := .free "zip") rfl), He.free_ok X G (c.fact 31 (f := .free "reversed") rfl), He.free_ok X G (c.fact 32 (f := .free "sorted") rfl), He.free_ok X G (c.fact 33 (f := .free "isinstance") rfl), He.free_ok X G (c.fact 34 (f := .free "any") rfl), He.free_ok X G (c.fact 35 (f := .free "all") rfl), He.free_ok X G (c.fact 36 (f := .free "set") rfl), He.free_ok X G (c.fact 37 (f := .free "type") rfl), He.free_ok X G (c.fact 38 (f := .free "repr") rfl)⟩
  have D_places_of : Dfd K mg "places_of" s_places_of := ⟨c.def_ 0 (d := dd_places_of) rfl, He.glo_ok X G (c.fact 0 (f := .glo "places_of") rfl)⟩
  have D_cross : Dfd K mg "cross" s_cross := ⟨c.def_ 1 (d := dd_cross) rfl, He.glo_ok X G (c.fact 1 (f := .glo "cross") rfl)⟩
  have D_crossings : Dfd K mg "crossings" s_crossings := ⟨c.def_ 2 (d := dd_crossings) rfl, He.glo_ok X G (c.fact 2 (f := .glo "crossings") rfl)⟩
  have D_ends_of : Dfd K mg "ends_of" s_ends_of := ⟨c.def_ 3 (d := dd_ends_of) rfl, He.glo_ok X G (c.fact 3 (f := .glo "ends_of") rfl)⟩
  have D_cost : Dfd K mg "cost" s_cost := ⟨c.def_ 4 (d := dd_cost) rfl, He.glo_ok X G (c.fact 4 (f := .glo "cost") rfl)⟩
  have D_members : Dfd K mg "members" s_members := ⟨c.def_ 5 (d := dd_members) rfl, He.glo_ok X G (c.fact 5 (f := .glo "members") rfl)⟩
  have D_entry : Dfd K mg "entry" s_entry := ⟨c.def_ 6 (d := dd_entry) rfl, He.glo_ok X G (c.fact 6 (f := .glo "entry") rfl)⟩
  have D_least_order : Dfd K mg "least_order" s_least_order := ⟨c.def_ 7 (d := dd_least_order) rfl, He.glo_ok X G (c.fact 7 (f := .glo "least_order") rfl)⟩
  have D__law_mixed : Dfd K mg "_law_mixed" s__law_mixed := ⟨c.def_ 8 (d := dd__law_mixed) rfl, He.glo_ok X G (c.fact 8 (f := .glo "_law_mixed") rfl)⟩
  have D__law_source : Dfd K mg "_law_source" s__law_source := ⟨c.def_ 9 (d := dd__law_source) rfl, He.glo_ok X G (c.fact 9 (f := .glo "_law_source") rfl)⟩
  have D__law_take : Dfd K mg "_law_take" s__law_take := ⟨c.def_ 10 (d := dd__law_take) rfl, He.glo_ok X G (c.fact 10 (f := .glo "_law_take") rfl)⟩
  have D__law_drawn : Dfd K mg "_law_drawn" s__law_drawn := ⟨c.def_ 11 (d := dd__law_drawn) rfl, He.glo_ok X G (c.fact 11 (f := .glo "_law_drawn") rfl)⟩
  have D__law_cost : Dfd K mg "_law_cost" s__law_cost := ⟨c.def_ 12 (d := dd__law_cost) rfl, He.glo_ok X G (c.fact 12 (f := .glo "_law_cost") rfl)⟩
  have D__law_table_right : Dfd K mg "_law_table_right" s__law_table_right := ⟨c.def_ 13 (d := dd__law_table_right) rfl, He.glo_ok X G (c.fact 13 (f := .glo "_law_table_right") rfl)⟩
  have D__law_refused : Dfd K mg "_law_refused" s__law_refused := ⟨c.def_ 14 (d := dd__law_refused) rfl, He.glo_ok X G (c.fact 14 (f := .glo "_law_refused") rfl)⟩
  have D__law_right : Dfd K mg "_law_right" s__law_right := ⟨c.def_ 15 (d := dd__law_right) rfl, He.glo_ok X G (c.fact 15 (f := .glo "_law_right") rfl)⟩
  have D_law : Dfd K mg "law" s_law := ⟨c.def_ 16 (d := dd_law) rfl, He.glo_ok X G (c.fact 16 (f := .glo "law") rfl)⟩
  have gc_MOST : ∃ t, mg "MOST" = some (.int 8 t) := He.int_ok X G (c.fact 39 (f := .int "MOST" 8) rfl)
  have xd_TooMany : Xd K mg "TooMany" := ⟨c.fact 40 (f := .exc "TooMany") rfl, He.glo_ok X G (c.fact 41 (f := .glo "TooMany") rfl)⟩
  have xm_TooMany : ∀ ε cls d G H, xrTM K ε cls d G H → PySem.W.exmOne K cls (.ref (He.ga K "TooMany")) = some (ε.k == 1) ∧ ((ε.k == 1) = false → noX ε cls d G H) := fun ε cls d G H ⟨e1, e2, _⟩ => by
    subst e1; subst e2
    exact ⟨He.exm_ok (c.fact 42 (f := .exm "TooMany" "TooMany" true) rfl), fun z => by cases z⟩
  have e := hfa.symm.trans D_law.gl
  cases e
  suffices z : ∀ base : Heap, Fk P w K mg base 6 "law" ["script"] (law_sp K) from Fk.top (h := h) (g := fun _ => True) z
  intro base
  have fk_places_of_h := fk_places_of (P := P) (w := w) (base := base) bi D_places_of
  have fk_cross_h := fk_cross (P := P) (w := w) (base := base) bi D_cross
  have fk_crossings_h := fk_crossings (P := P) (w := w) (base := base) bi D_crossings fk_places_of_h fk_cross_h
  have fk_ends_of_h := fk_ends_of (P := P) (w := w) (base := base) bi D_ends_of fk_places_of_h
  have fk_cost_h := fk_cost (P := P) (w := w) (base := base) bi D_cost
  have fk_members_h := fk_members (P := P) (w := w) (base := base) bi D_members
  have fk_entry_h := fk_entry (P := P) (w := w) (base := base) bi D_entry fk_members_h fk_cost_h
  have fk_least_order_h := fk_least_order (P := P) (w := w) (base := base) bi D_least_order gc_MOST xd_TooMany fk_ends_of_h fk_members_h fk_entry_h
  have fk__law_mixed_h := fk__law_mixed (P := P) (w := w) (base := base) bi D__law_mixed
  have fk__law_source_h := fk__law_source (P := P) (w := w) (base := base) bi D__law_source
  have fk__law_take_h := fk__law_take (P := P) (w := w) (base := base) bi D__law_take fk__law_mixed_h
  have fk__law_drawn_h := fk__law_drawn (P := P) (w := w) (base := base) bi D__law_drawn fk__law_take_h
  have fk__law_cost_h := fk__law_cost (P := P) (w := w) (base := base) bi D__law_cost
  have fk__law_table_right_h := fk__law_table_right (P := P) (w := w) (base := base) bi D__law_table_right
  have fk__law_refused_h := fk__law_refused (P := P) (w := w) (base := base) bi D__law_refused xd_TooMany xm_TooMany fk_least_order_h
  have fk__law_right_h := fk__law_right (P := P) (w := w) (base := base) bi D__law_right fk__law_refused_h fk_least_order_h fk__law_cost_h fk__law_table_right_h fk_crossings_h
  have fk_law_h := fk_law (P := P) (w := w) (base := base) bi D_law fk__law_source_h fk__law_drawn_h fk__law_right_h
  exact fk_law_h
theorem law_sp_of {K : PySem.W.Frag} {H : Hp} {a : Addr} {ns : List Int} (hs : SqL K H a (ns.map V.int)) (hl : law ns = .ok true) : law_sp K [.ref a] H (fun v _ => v = .bl true) fun _ _ _ => False := by
  refine ⟨ns, (), H, Ex.refl _, (fun _ m => by cases m), ⟨⟨a, _, rfl, hs, A2.ofInt ns⟩, trivial⟩, trivial, ?_⟩
  rw [hl]
  exact fun q v S' H' _ _ pv => pv
end K57
open PySem PySem.W PySem.Calls PyProof.Rows in
theorem K57.holds_of (hl : ∀ ns : List Int, ns.length ≤ 63 → K57.law ns = .ok true) : PySem.Challenge.rw_layerdraw_k57_a_long_fixed_row.Holds := by
  w_on; o_law
  refine HandSHeadRun.head_any (r := OpenLaw.row PySem.Challenge.rw_layerdraw_k57_a_long_fixed_row) (q := view (OpenLaw.row PySem.Challenge.rw_layerdraw_k57_a_long_fixed_row).prog [23]) (H := K57.hk) (ob := K57.ob) (M := 4000) (loose := K57.loose) (d := HandSHeadRun.topDef (OpenLaw.row PySem.Challenge.rw_layerdraw_k57_a_long_fixed_row).prog 23) (kwd := []) K57.ob_eq
    (by kernel_rfl) (fun s => by kernel_rfl) K57.run (by kernel_rfl) (by kernel_rfl) (by kernel_rfl) (by rfl) (by first | assumption | decide +kernel) (by decide +kernel) ⟨rfl, rfl, rfl, rfl, rfl, by decide +kernel⟩ ?hw ?hc
  case hw => w_witness2
  case hc =>
    refine Y.walk_ofW (l := PySem.Challenge.rw_layerdraw_k57_a_long_fixed_row) (n := 63) (k := 6) (x := "script") (CX := fun w => L2.CX (PySem.Challenge.rw_layerdraw_k57_a_long_fixed_row).prog w) rfl (by decide) (by kernel_rfl) ⟨rfl, by decide, by decide⟩ ?F (fun _ _ _ _ _ z => Y.cx_none z)
    intro w mg fa h Y G hmg0
    obtain ⟨K, KX, c⟩ := Y
    have hmg : mg ("law" : PySem.Str) = some (.ref fa) := by
      have e : (HandSHeadRun.topDef (OpenLaw.row PySem.Challenge.rw_layerdraw_k57_a_long_fixed_row).prog 23).name = ("law" : PySem.Str) := by kernel_rfl
      rw [← e]
      exact hmg0
    obtain ⟨fd, hb, hF⟩ := K57.facts (P := (PySem.Challenge.rw_layerdraw_k57_a_long_fixed_row).prog) (w := w) KX G hmg c
    exact ⟨K, fd, K57.law_sp K, KX, hb, fun H a ns hn _ hS => K57.law_sp_of hS (hl ns hn), hF⟩

theorem PySem.Challenge.cw_layerdraw_k57_a_long_fixed_row_holds : PySem.Challenge.rw_layerdraw_k57_a_long_fixed_row.Holds := by
  exact K57.holds_of K57.law_ok
