import PyProof.Rows.All
import Wide.All
import OpenK.AllK
import Wide.FinOn
import HandS.ForMost
import HandS.ForExc
import HandS.CallSlots
import HandS.Wide
import HandS.More
import HandS.WordsDict
import HandS.Finally
import HandS.ExcOwn
import HandS.IsInst
import HandS.Style
import HandS.TryOnly
import HandS.Defaults
import HandS.HeadHook2
import HandS.HeadEnd
import HandS.SetKeys
import PySem.Challenge.RW_layerdraw_k56_whole_orders_by_turns
import KE.KStateDown
import Lean
import HandS.Ends
import HandS.Words
import HandS.Head0
import HandS.Head1
import HandS.Head2
import HandS.HeadHook1
set_option Elab.async false
set_option linter.all false
set_option maxRecDepth 100000
set_option maxHeartbeats 0
/-! Y: a mirror monad, states with frozen, readable and owned parts. -/
namespace Y
open PySem PySem.Spec PyProof.Rows L2

/-! ### the mirror's monad -/
inductive Pl where
  | no | str (x : Str) | int (i : Int) | ints (xs : List Int)
structure Er where
  k : Nat
  pl : Pl
inductive R (α : Type) where
  | no | ex (e : Er) | ok (a : α)
namespace R
variable {α β γ : Type}
def bind (m : R α) (f : α → R β) : R β := match m with
  | .no => .no
  | .ex e => .ex e
  | .ok a => f a
def post (m : R α) (q : α → Prop) (x : Er → Prop) : Prop := match m with
  | .no => False
  | .ex e => x e
  | .ok a => q a
@[simp] theorem bind_ok (a : α) (f : α → R β) : (R.ok a).bind f = f a := Eq.trans rfl rfl
@[simp] theorem bind_no (f : α → R β) : (R.no : R α).bind f = .no := Eq.trans rfl rfl
@[simp] theorem bind_ex (e : Er) (f : α → R β) : (R.ex e : R α).bind f = .ex e := Eq.trans rfl rfl
theorem bind_assoc (m : R α) (f : α → R β) (g : β → R γ) : (m.bind f).bind g = m.bind fun a => (f a).bind g := by cases m <;> rfl
theorem bind_id (m : R α) : (m.bind fun a => .ok a) = m := by cases m <;> rfl
theorem post_bind {m : R α} {f : α → R β} {q : β → Prop} {x : Er → Prop} : (m.bind f).post q x ↔ m.post (fun a => (f a).post q x) x := by cases m <;> exact Iff.rfl
theorem post_mono {m : R α} {q q' : α → Prop} {x x' : Er → Prop} (h : m.post q x) (hq : ∀ a, q a → q' a) (hx : ∀ e, x e → x' e) : m.post q' x' := by
  cases m with
  | no => exact h
  | ex e => exact hx e h
  | ok a => exact hq a h
theorem post_ok {m : R α} {a : α} {q : α → Prop} {x : Er → Prop} (e : m = .ok a) (h : q a) : m.post q x := by subst e; exact h
/-- an exception is none here -/
def calm (m : R α) : R α := match m with
  | .ok a => .ok a
  | _ => .no
@[simp] theorem calm_ok (a : α) : (R.ok a).calm = .ok a := Eq.trans rfl rfl
theorem calm_post {m : R α} {q : α → Prop} {x : Er → Prop} (h : m.calm.post q x) (x' : Er → Prop) : m.post q x' := by
  cases m with
  | no => exact h
  | ex e => exact h.elim
  | ok a => exact h
def guard (c : Prop) [Decidable c] : R Unit := if c then .ok () else .no
theorem guard_post {c : Prop} [Decidable c] {q : Unit → Prop} {x : Er → Prop} : (guard c).post q x ↔ c ∧ q () := by
  unfold guard
  by_cases h : c
  · rw [if_pos h]; exact ⟨fun q => ⟨h, q⟩, fun q => q.2⟩
  · rw [if_neg h]; exact ⟨fun q => q.elim, fun q => h q.1⟩
@[simp] theorem guard_true {c : Prop} [Decidable c] (h : c) : guard c = .ok () := if_pos h
def ofO (o : Option α) : R α := match o with
  | some a => .ok a
  | none => .no
@[simp] theorem ofO_some (a : α) : ofO (some a) = .ok a := Eq.trans rfl rfl
theorem ofO_post {o : Option α} {q : α → Prop} {x : Er → Prop} : (ofO o).post q x ↔ ∃ a, o = some a ∧ q a := by
  cases o with
  | none => exact ⟨fun h => h.elim, fun ⟨_, h, _⟩ => by cases h⟩
  | some a => exact ⟨fun h => ⟨a, rfl, h⟩, fun ⟨b, h, q⟩ => by cases h; exact q⟩
end R
/-- with a state -/
abbrev SM (ς α : Type) := ς → R (α × ς)
namespace SM
variable {ς α β γ δ : Type}
def ret (a : α) : SM ς α := fun s => .ok (a, s)
def rd (f : ς → R α) : SM ς α := fun s => (f s).bind fun a => .ok (a, s)
def ofR (m : R α) : SM ς α := fun s => m.bind fun a => .ok (a, s)
def map1 (f : α → β) (m : SM ς α) : SM ς β := fun s => (m s).bind fun z => .ok (f z.1, z.2)
def bnd1 (f : α → R β) (m : SM ς α) : SM ς β := fun s => (m s).bind fun z => (f z.1).bind fun b => .ok (b, z.2)
def map2 (f : α → β → γ) (m : SM ς α) (n : SM ς β) : SM ς γ := fun s => (m s).bind fun z => (n z.2).bind fun w => .ok (f z.1 w.1, w.2)
def bnd2 (f : α → β → R γ) (m : SM ς α) (n : SM ς β) : SM ς γ := fun s => (m s).bind fun z => (n z.2).bind fun w => (f z.1 w.1).bind fun c => .ok (c, w.2)
end SM

/-! ### heaps -/
def Ex (H H' : Hp) : Prop := ∀ a o, H a = some o → H' a = some o
theorem Ex.refl (H : Hp) : Ex H H := fun _ _ h => h
theorem Ex.trans {H H1 H2 : Hp} (a : Ex H H1) (b : Ex H1 H2) : Ex H H2 := fun x o h => b x o (a x o h)
theorem Ex.new {H : Hp} {p : Addr} {o : HO} (h : H p = none) : Ex H (upd H p o) := fun a u e => by
  rw [upd_ne (ne_of_none e h)]
  exact e
theorem Ex.mut {H H' : Hp} {p : Addr} {o : HO} (e : Ex H H') (h : H p = none) : Ex H (upd H' p o) := fun a u ha => by
  rw [upd_ne (ne_of_none ha h)]
  exact e a u ha
theorem Ex.add {H H' : Hp} {p : Addr} {o : HO} (e : Ex H H') (h : H' p = none) : Ex (upd H p o) (upd H' p o) := fun a u ha => by
  by_cases q : a = p
  · subst q
    rw [upd_same] at ha ⊢
    exact ha
  · rw [upd_ne q] at ha ⊢
    exact e a u ha
theorem Ex.upd {H H' : Hp} {p : Addr} {o : HO} (e : Ex H H') (h : H' p = some o) : Ex (L2.upd H p o) H' := fun a u ha => by
  by_cases q : a = p
  · subst q
    rw [upd_same] at ha
    rw [h]; exact ha
  · rw [upd_ne q] at ha
    exact e a u ha
theorem Ex.none {H H' : Hp} (e : Ex H H') {p : Addr} (h : H' p = none) : H p = none := by
  cases q : H p with
  | none => rfl
  | some o => rw [e p o q] at h; cases h
theorem Ex.rd {H H' : Hp} {a : Addr} {u : HO} (e : Ex H H') (h : Rd H a u) : Rd H' a u := by
  rcases h with h | ⟨o, h⟩
  · exact Or.inl (e a _ h)
  · exact Or.inr ⟨o, e a _ h⟩
theorem Ex.seq {K : PySem.W.Frag} {H H' : Hp} {a : Addr} {xs : List V} (e : Ex H H') (h : SqL K H a xs) : SqL K H' a xs := by
  rcases h with h | h
  · exact Or.inl (e.rd h)
  · exact Or.inr h
theorem Ex.tup {K : PySem.W.Frag} {H H' : Hp} {a : Addr} {xs : List V} (e : Ex H H') (h : SqT K H a xs) : SqT K H' a xs := by
  rcases h with h | h
  · exact Or.inl (e.rd h)
  · exact Or.inr h

/-! ### a state's two views: what is frozen, what may be read -/
structure Sv where
  g : Hp
  y : Hp
structure Sv.le (S S' : Sv) : Prop where
  g : Ex S.g S'.g
  y : Ex S.y S'.y
theorem Sv.le.refl (S : Sv) : S.le S := ⟨Ex.refl _, Ex.refl _⟩
theorem Sv.le.trans {S T U : Sv} (a : S.le T) (b : T.le U) : S.le U := ⟨a.g.trans b.g, a.y.trans b.y⟩
def Sv.at (S : Sv) (w : Bool) : Hp := match w with
  | true => S.g
  | false => S.y
theorem Sv.le.at {S S' : Sv} (h : S.le S') (w : Bool) : Ex (S.at w) (S'.at w) := by
  cases w
  · exact h.y
  · exact h.g

/-- a representation of plain data -/
structure Rp (α : Type) where
  rep : α → V → Hp → Prop
  mono : ∀ {a v H H'}, Ex H H' → rep a v H → rep a v H'
/-- what is known of a value -/
structure VP where
  p : V → Sv → Prop
  mono : ∀ {v S S'}, Sv.le S S' → p v S → p v S'
/-- what is known of an owned object -/
structure Ct where
  c : HO → Hp → Prop
  mono : ∀ {o H H'}, Ex H H' → c o H → c o H'
def VP.at {α : Type} (w : Bool) (r : Rp α) (x : α) : VP := ⟨fun v S => r.rep x v (S.at w), fun h q => r.mono (h.at w) q⟩
def VP.ptr (p : Addr) : VP := ⟨fun v _ => v = .ref p, fun _ q => q⟩
def VP.is (x : V) : VP := ⟨fun v _ => v = x, fun _ q => q⟩
structure OE where
  p : Addr
  c : Ct
  f : Bool
abbrev OS := List OE
abbrev SA := List (Option VP)

section
variable {α β : Type} {K : PySem.W.Frag}
def rInt : Rp Int := ⟨fun a v _ => v = .int a, fun _ h => h⟩
def rStr : Rp Str := ⟨fun a v _ => v = .str a, fun _ h => h⟩
def rBl : Rp Bool := ⟨fun a v _ => v = .bl a, fun _ h => h⟩
def rNon : Rp Unit := ⟨fun _ v _ => v = .non, fun _ h => h⟩
/-- item by item -/
def A2 (r : Rp α) (H : Hp) : List α → List V → Prop
  | [], [] => True
  | a :: as, v :: vs => r.rep a v H ∧ A2 r H as vs
  | _, _ => False
theorem A2.mono {r : Rp α} {H H' : Hp} (e : Ex H H') : ∀ {xs : List α} {vs : List V}, A2 r H xs vs → A2 r H' xs vs
  | [], [], _ => trivial
  | _ :: _, _ :: _, h => ⟨r.mono e h.1, A2.mono e h.2⟩
  | [], _ :: _, h => h.elim
  | _ :: _, [], h => h.elim
theorem A2.length {r : Rp α} {H : Hp} : ∀ {xs : List α} {vs : List V}, A2 r H xs vs → xs.length = vs.length
  | [], [], _ => rfl
  | _ :: _, _ :: _, h => congrArg (· + 1) (A2.length h.2)
  | [], _ :: _, h => h.elim
  | _ :: _, [], h => h.elim
theorem A2.get {r : Rp α} {H : Hp} : ∀ {xs : List α} {vs : List V} {i : Nat} {a : α}, A2 r H xs vs → xs[i]? = some a → ∃ v, vs[i]? = some v ∧ r.rep a v H
  | [], [], _, _, _, e => by simp at e
  | a :: _, v :: _, 0, b, h, e => by
    have e' : a = b := Option.some.inj e
    subst e'
    exact ⟨v, rfl, h.1⟩
  | _ :: xs, _ :: vs, i + 1, b, h, e => A2.get (i := i) h.2 e
  | [], _ :: _, _, _, h, _ => h.elim
  | _ :: _, [], _, _, h, _ => h.elim
theorem A2.get' {r : Rp α} {H : Hp} : ∀ {xs : List α} {vs : List V} {i : Nat} {v : V}, A2 r H xs vs → vs[i]? = some v → ∃ a, xs[i]? = some a ∧ r.rep a v H
  | [], [], _, _, _, e => by simp at e
  | a :: _, v :: _, 0, b, h, e => by
    have e' : v = b := Option.some.inj e
    subst e'
    exact ⟨a, rfl, h.1⟩
  | _ :: xs, _ :: vs, i + 1, b, h, e => A2.get' (i := i) h.2 e
  | [], _ :: _, _, _, h, _ => h.elim
  | _ :: _, [], _, _, h, _ => h.elim
theorem A2.append {r : Rp α} {H : Hp} : ∀ {xs ys : List α} {vs ws : List V}, A2 r H xs vs → A2 r H ys ws → A2 r H (xs ++ ys) (vs ++ ws)
  | [], _, [], _, _, h => h
  | _ :: _, _, _ :: _, _, h, k => ⟨h.1, A2.append h.2 k⟩
  | [], _, _ :: _, _, h, _ => h.elim
  | _ :: _, _, [], _, h, _ => h.elim
theorem A2.snoc {r : Rp α} {H : Hp} {xs : List α} {vs : List V} {a : α} {v : V} (h : A2 r H xs vs) (k : r.rep a v H) : A2 r H (xs ++ [a]) (vs ++ [v]) := h.append ⟨k, trivial⟩
theorem A2.set {r : Rp α} {H : Hp} {a : α} {v : V} (k : r.rep a v H) : ∀ {xs : List α} {vs : List V} (i : Nat), A2 r H xs vs → A2 r H (xs.set i a) (vs.set i v)
  | [], [], _, _ => trivial
  | _ :: _, _ :: _, 0, h => ⟨k, h.2⟩
  | _ :: _, _ :: _, i + 1, h => ⟨h.1, A2.set k i h.2⟩
  | [], _ :: _, _, h => h.elim
  | _ :: _, [], _, h => h.elim
theorem A2.take {r : Rp α} {H : Hp} : ∀ (n : Nat) {xs : List α} {vs : List V}, A2 r H xs vs → A2 r H (xs.take n) (vs.take n)
  | 0, _, _, _ => trivial
  | _ + 1, [], [], _ => trivial
  | n + 1, _ :: _, _ :: _, h => ⟨h.1, A2.take n h.2⟩
  | _ + 1, [], _ :: _, h => h.elim
  | _ + 1, _ :: _, [], h => h.elim
theorem A2.drop {r : Rp α} {H : Hp} : ∀ (n : Nat) {xs : List α} {vs : List V}, A2 r H xs vs → A2 r H (xs.drop n) (vs.drop n)
  | 0, _, _, h => h
  | _ + 1, [], [], _ => trivial
  | n + 1, _ :: _, _ :: _, h => A2.drop n h.2
  | _ + 1, [], _ :: _, h => h.elim
  | _ + 1, _ :: _, [], h => h.elim
theorem A2.eraseIdx {r : Rp α} {H : Hp} : ∀ (n : Nat) {xs : List α} {vs : List V}, A2 r H xs vs → A2 r H (xs.eraseIdx n) (vs.eraseIdx n)
  | _, [], [], _ => trivial
  | 0, _ :: _, _ :: _, h => h.2
  | n + 1, _ :: _, _ :: _, h => ⟨h.1, A2.eraseIdx n h.2⟩
  | _, [], _ :: _, h => h.elim
  | _, _ :: _, [], h => h.elim
theorem A2.reverse {r : Rp α} {H : Hp} : ∀ {xs : List α} {vs : List V}, A2 r H xs vs → A2 r H xs.reverse vs.reverse
  | [], [], _ => trivial
  | _ :: _, _ :: _, h => by
    rw [List.reverse_cons, List.reverse_cons]
    exact (A2.reverse h.2).snoc h.1
  | [], _ :: _, h => h.elim
  | _ :: _, [], h => h.elim
theorem A2.insertIdx {r : Rp α} {H : Hp} {a : α} {v : V} (k : r.rep a v H) : ∀ (i : Nat) {xs : List α} {vs : List V}, A2 r H xs vs → A2 r H (xs.take i ++ a :: xs.drop i) (vs.take i ++ v :: vs.drop i) := fun i _ _ h => (A2.take i h).append ⟨k, A2.drop i h⟩
theorem A2.int {H : Hp} : ∀ {xs : List Int} {vs : List V}, A2 rInt H xs vs → vs = xs.map V.int
  | [], [], _ => rfl
  | x :: xs, v :: vs, h => by
    have e : v = .int x := h.1
    rw [e, A2.int h.2]; rfl
  | [], _ :: _, h => h.elim
  | _ :: _, [], h => h.elim
theorem A2.str {H : Hp} : ∀ {xs : List Str} {vs : List V}, A2 rStr H xs vs → vs = xs.map V.str
  | [], [], _ => rfl
  | x :: xs, v :: vs, h => by
    have e : v = .str x := h.1
    rw [e, A2.str h.2]; rfl
  | [], _ :: _, h => h.elim
  | _ :: _, [], h => h.elim
theorem A2.bl {H : Hp} : ∀ {xs : List Bool} {vs : List V}, A2 rBl H xs vs → vs = xs.map V.bl
  | [], [], _ => rfl
  | x :: xs, v :: vs, h => by
    have e : v = .bl x := h.1
    rw [e, A2.bl h.2]; rfl
  | [], _ :: _, h => h.elim
  | _ :: _, [], h => h.elim
theorem A2.ofInt {H : Hp} : ∀ (xs : List Int), A2 rInt H xs (xs.map V.int)
  | [] => trivial
  | _ :: xs => ⟨rfl, A2.ofInt xs⟩
theorem A2.ofStr {H : Hp} : ∀ (xs : List Str), A2 rStr H xs (xs.map V.str)
  | [] => trivial
  | _ :: xs => ⟨rfl, A2.ofStr xs⟩

def rLst (K : PySem.W.Frag) (r : Rp α) : Rp (List α) := ⟨fun xs v H => ∃ p vs, v = .ref p ∧ SqL K H p vs ∧ A2 r H xs vs, fun e ⟨p, vs, h1, h2, h3⟩ => ⟨p, vs, h1, e.seq h2, h3.mono e⟩⟩
/-- values in a row -/
def AV (S : Sv) : List V → List VP → Prop
  | [], [] => True
  | v :: vs, P :: Ps => P.p v S ∧ AV S vs Ps
  | _, _ => False
/-- a tuple's parts -/
structure RT (τ : Type) where
  n : Nat
  rep : τ → List V → Hp → Prop
  vps : Bool → τ → List VP
  mono : ∀ {a vs H H'}, Ex H H' → rep a vs H → rep a vs H'
  len : ∀ {a vs H}, rep a vs H → vs.length = n
  law : ∀ {w a vs S}, AV S vs (vps w a) → rep a vs (S.at w)
  wal : ∀ {w a vs S}, rep a vs (S.at w) → AV S vs (vps w a)
def RT.one (r : Rp α) : RT α := ⟨1, fun x vs H => ∃ v, vs = [v] ∧ r.rep x v H, fun w x => [VP.at w r x], fun e ⟨v, h1, h2⟩ => ⟨v, h1, r.mono e h2⟩, fun ⟨v, h1, _⟩ => by rw [h1]; rfl,
  fun {w a vs S} h => match vs, h with
    | [v], h => ⟨v, rfl, h.1⟩,
  fun {w a vs S} ⟨v, e, h⟩ => by subst e; exact ⟨h, trivial⟩⟩
def RT.cons (r : Rp α) (t : RT β) : RT (α × β) := ⟨t.n + 1, fun x vs H => ∃ v ws, vs = v :: ws ∧ r.rep x.1 v H ∧ t.rep x.2 ws H, fun w x => VP.at w r x.1 :: t.vps w x.2, fun e ⟨v, ws, h1, h2, h3⟩ => ⟨v, ws, h1, r.mono e h2, t.mono e h3⟩, fun ⟨v, ws, h1, _, h3⟩ => by rw [h1, List.length_cons, t.len h3],
  fun {w a vs S} h => match vs, h with
    | v :: ws, h => ⟨v, ws, rfl, h.1, t.law h.2⟩,
  fun {w a vs S} ⟨v, ws, e, h1, h2⟩ => by subst e; exact ⟨h1, t.wal h2⟩⟩
def rTup (K : PySem.W.Frag) (t : RT α) : Rp α := ⟨fun x v H => ∃ p vs, v = .ref p ∧ SqT K H p vs ∧ t.rep x vs H, fun e ⟨p, vs, h1, h2, h3⟩ => ⟨p, vs, h1, e.tup h2, t.mono e h3⟩⟩
def rOpt (r : Rp α) : Rp (Option α) := ⟨fun x v H => match x with
  | none => v = .non
  | some a => v ≠ .non ∧ r.rep a v H, fun {x v H H'} e h => by
    cases x with
    | none => exact h
    | some a => exact ⟨h.1, r.mono e h.2⟩⟩
/-- keys of dicts -/
structure KK (κ : Type) where
  k : κ → Key
  inj : ∀ {a b}, k a = k b → a = b
  rp : Rp κ
  law : ∀ {a v H}, rp.rep a v H → v = kV (k a)
  wal : ∀ {a v H}, v = kV (k a) → rp.rep a v H
def kInt : KK Int := ⟨Sum.inl, fun h => Sum.inl.inj h, rInt, fun h => h, fun h => h⟩
def kStr : KK Str := ⟨Sum.inr, fun h => Sum.inr.inj h, rStr, fun h => h, fun h => h⟩
def AD {κ δ : Type} (f : κ → δ) (r : Rp α) (H : Hp) : List (κ × α) → List (δ × V) → Prop
  | [], [] => True
  | a :: as, v :: vs => v.1 = f a.1 ∧ r.rep a.2 v.2 H ∧ AD f r H as vs
  | _, _ => False
theorem AD.mono {κ δ : Type} {f : κ → δ} {r : Rp α} {H H' : Hp} (e : Ex H H') : ∀ {xs : List (κ × α)} {vs : List (δ × V)}, AD f r H xs vs → AD f r H' xs vs
  | [], [], _ => trivial
  | _ :: _, _ :: _, h => ⟨h.1, r.mono e h.2.1, AD.mono e h.2.2⟩
  | [], _ :: _, h => h.elim
  | _ :: _, [], h => h.elim
theorem AD.length {κ δ : Type} {f : κ → δ} {r : Rp α} {H : Hp} : ∀ {xs : List (κ × α)} {vs : List (δ × V)}, AD f r H xs vs → xs.length = vs.length
  | [], [], _ => rfl
  | _ :: _, _ :: _, h => congrArg (· + 1) (AD.length h.2.2)
  | [], _ :: _, h => h.elim
  | _ :: _, [], h => h.elim
def rDic {κ : Type} (k : KK κ) (r : Rp α) : Rp (List (κ × α)) := ⟨fun xs v H => ∃ p kvs, v = .ref p ∧ H p = some (.dK kvs) ∧ AD k.k r H xs kvs, fun e ⟨p, vs, h1, h2, h3⟩ => ⟨p, vs, h1, e _ _ h2, h3.mono e⟩⟩
def cLst (r : Rp α) (xs : List α) : Ct := ⟨fun o G => ∃ vs, o = .lst vs ∧ A2 r G xs vs, fun h ⟨vs, e, q⟩ => ⟨vs, e, q.mono h⟩⟩
def cDic {κ : Type} (k : KK κ) (r : Rp α) (xs : List (κ × α)) : Ct := ⟨fun o G => ∃ kvs, o = .dK kvs ∧ AD k.k r G xs kvs, fun h ⟨vs, e, q⟩ => ⟨vs, e, q.mono h⟩⟩
end
end Y

/-! Y: states, judgements. -/
namespace Y
open PySem PySem.Spec PyProof.Rows L2

/-- where a body began: what was frozen, the heap, what it may change of that -/
structure Bs where
  g : Hp
  h : Hp
  own : List Addr
  /-- what is kept as it is, and not read -/
  kp : Hp := fun _ => none
structure StOk (B : Bs) (S : Sv) (H : Hp) : Prop where
  gy : Ex S.g S.y
  yh : Ex S.y H
  g0 : Ex B.g S.g
  b0 : ∀ a o, B.h a = some o → a ∉ B.own → S.y a = some o
  fr : ∀ a, B.g a = none → B.h a ≠ none → S.g a = none
  tr : ∀ a, B.h a ≠ none → H a ≠ none
  kp : ∀ a o, B.kp a = some o → H a = some o ∧ S.y a = none

def OwL (B : Bs) (S : Sv) (H : Hp) : OS → Prop
  | [] => True
  | e :: r => S.y e.p = none ∧ (∃ o, H e.p = some o ∧ e.c.c o S.g) ∧ ((e.f = true → B.h e.p = none) ∧ B.kp e.p = none) ∧ (∀ q ∈ r, q.p ≠ e.p) ∧ OwL B S H r
theorem OwL.get {B : Bs} {S : Sv} {H : Hp} : ∀ {os : OS} {i : Nat} {e : OE}, OwL B S H os → os[i]? = some e → S.y e.p = none ∧ (∃ o, H e.p = some o ∧ e.c.c o S.g) ∧ ((e.f = true → B.h e.p = none) ∧ B.kp e.p = none)
  | [], _, _, _, h => by simp at h
  | a :: r, 0, e, h, q => by
    have q' : a = e := Option.some.inj q
    subst q'
    exact ⟨h.1, h.2.1, h.2.2.1⟩
  | a :: r, i + 1, e, h, q => OwL.get (i := i) h.2.2.2.2 q
theorem OwL.mem {B : Bs} {S : Sv} {H : Hp} : ∀ {os : OS} {e : OE}, OwL B S H os → e ∈ os → S.y e.p = none ∧ (∃ o, H e.p = some o ∧ e.c.c o S.g) ∧ ((e.f = true → B.h e.p = none) ∧ B.kp e.p = none) := fun {os e} h q => by
  obtain ⟨i, hi, rfl⟩ := List.mem_iff_getElem.mp q
  exact h.get (List.getElem?_eq_getElem hi)
/-- another state in which the same things are owned -/
theorem OwL.move {B B' : Bs} {S S' : Sv} {H H' : Hp} : ∀ {os : OS}, OwL B S H os → S.le S' → (∀ e ∈ os, S'.y e.p = none) → (∀ e ∈ os, ∀ o, H e.p = some o → H' e.p = some o) → (∀ e ∈ os, e.f = true → B.h e.p = none → B'.h e.p = none) → (∀ e ∈ os, B.kp e.p = none → B'.kp e.p = none) → OwL B' S' H' os
  | [], _, _, _, _, _, _ => trivial
  | a :: r, h, l, hy, hh, hb, hk => by
    obtain ⟨h1, ⟨o, h2, h3⟩, h4, h5, h6⟩ := h
    exact ⟨hy a List.mem_cons_self, ⟨o, hh a List.mem_cons_self o h2, a.c.mono l.g h3⟩, ⟨fun q => hb a List.mem_cons_self q (h4.1 q), hk a List.mem_cons_self h4.2⟩, h5, OwL.move h6 l (fun e m => hy e (List.mem_cons_of_mem _ m)) (fun e m => hh e (List.mem_cons_of_mem _ m)) (fun e m => hb e (List.mem_cons_of_mem _ m)) fun e m => hk e (List.mem_cons_of_mem _ m)⟩
theorem OwL.apart {B : Bs} {S : Sv} {H : Hp} : ∀ {os : OS} {i j : Nat} {e u : OE}, OwL B S H os → os[i]? = some e → os[j]? = some u → i ≠ j → e.p ≠ u.p
  | [], _, _, _, _, _, h, _, _ => by simp at h
  | a :: r, 0, 0, _, _, _, _, _, n => (n rfl).elim
  | a :: r, 0, j + 1, e, u, h, q, k, _ => by
    have q' : a = e := Option.some.inj q
    subst q'
    exact (h.2.2.2.1 u (List.mem_of_getElem? (show r[j]? = some u from k))).symm
  | a :: r, i + 1, 0, e, u, h, q, k, _ => by
    have k' : a = u := Option.some.inj k
    subst k'
    exact h.2.2.2.1 e (List.mem_of_getElem? (show r[i]? = some e from q))
  | a :: r, i + 1, j + 1, e, u, h, q, k, n => OwL.apart (i := i) (j := j) h.2.2.2.2 q k fun z => n (congrArg (· + 1) z)
/-- an owned object is written -/
theorem OwL.put {B : Bs} {S : Sv} {H : Hp} {c : Ct} {o : HO} : ∀ {os : OS} {i : Nat} {e : OE}, OwL B S H os → os[i]? = some e → c.c o S.g → OwL B S (upd H e.p o) (os.set i ⟨e.p, c, e.f⟩)
  | [], _, _, _, h, _ => by simp at h
  | a :: r, 0, e, h, q, k => by
    have q' : a = e := Option.some.inj q
    subst q'
    exact ⟨h.1, ⟨o, upd_same, k⟩, h.2.2.1, h.2.2.2.1, h.2.2.2.2.move (.refl S) (fun e m => (h.2.2.2.2.mem m).1) (fun e m o' z => by rw [upd_ne (h.2.2.2.1 e m)]; exact z) (fun _ _ _ z => z) fun _ _ z => z⟩
  | a :: r, i + 1, e, h, q, k => by
    have q' : r[i]? = some e := q
    have ne : a.p ≠ e.p := (h.2.2.2.1 e (List.mem_of_getElem? q')).symm
    obtain ⟨h1, ⟨o', h2, h3⟩, h4, h5, h6⟩ := h
    refine ⟨h1, ⟨o', by rw [upd_ne ne]; exact h2, h3⟩, h4, fun u m => ?_, OwL.put (i := i) h6 q' k⟩
    rcases List.mem_or_eq_of_mem_set m with m | m
    · exact h5 u m
    · subst m; exact ne.symm
theorem OwL.erase {B : Bs} {S : Sv} {H : Hp} : ∀ {os : OS} (i : Nat), OwL B S H os → OwL B S H (os.eraseIdx i)
  | [], _, _ => trivial
  | a :: r, 0, h => h.2.2.2.2
  | a :: r, i + 1, h => ⟨h.1, h.2.1, h.2.2.1, fun u m => h.2.2.2.1 u (List.mem_of_mem_eraseIdx m), OwL.erase (os := r) i h.2.2.2.2⟩
theorem OwL.take {B : Bs} {S : Sv} {H : Hp} : ∀ {os : OS} (n : Nat), OwL B S H os → OwL B S H (os.take n)
  | _, 0, _ => trivial
  | [], _ + 1, _ => trivial
  | a :: r, n + 1, h => ⟨h.1, h.2.1, h.2.2.1, fun u m => h.2.2.2.1 u (List.mem_of_mem_take m), OwL.take n h.2.2.2.2⟩
theorem OwL.drop {B : Bs} {S : Sv} {H : Hp} : ∀ {os : OS} (n : Nat), OwL B S H os → OwL B S H (os.drop n)
  | _, 0, h => h
  | [], _ + 1, _ => trivial
  | a :: r, n + 1, h => OwL.drop (os := r) n h.2.2.2.2
theorem OwL.left {B : Bs} {S : Sv} {H : Hp} : ∀ {os us : OS}, OwL B S H (os ++ us) → OwL B S H os
  | [], _, _ => trivial
  | a :: r, us, h => ⟨h.1, h.2.1, h.2.2.1, fun u m => h.2.2.2.1 u (List.mem_append_left _ m), OwL.left (os := r) h.2.2.2.2⟩
theorem OwL.right {B : Bs} {S : Sv} {H : Hp} : ∀ {os us : OS}, OwL B S H (os ++ us) → OwL B S H us
  | [], _, h => h
  | a :: r, us, h => OwL.right (os := r) h.2.2.2.2
theorem OwL.app {B : Bs} {S : Sv} {H : Hp} : ∀ {os us : OS}, OwL B S H os → OwL B S H us → (∀ e ∈ os, ∀ u ∈ us, u.p ≠ e.p) → OwL B S H (os ++ us)
  | [], _, _, h, _ => h
  | a :: r, us, h, k, n => ⟨h.1, h.2.1, h.2.2.1, fun u m => by
      rcases List.mem_append.mp m with m | m
      · exact h.2.2.2.1 u m
      · exact n a List.mem_cons_self u m, OwL.app h.2.2.2.2 k fun e m u z => n e (List.mem_cons_of_mem _ m) u z⟩
theorem OwL.sep {B : Bs} {S : Sv} {H : Hp} : ∀ {os us : OS}, OwL B S H (os ++ us) → ∀ e ∈ os, ∀ u ∈ us, u.p ≠ e.p
  | [], _, _, _, m, _, _ => by simp at m
  | a :: r, us, h, e, m, u, z => by
    rcases List.mem_cons.mp m with q | q
    · subst q; exact h.2.2.2.1 u (List.mem_append_right _ z)
    · exact OwL.sep (os := r) h.2.2.2.2 e q u z

/-! ### slots -/
def Sl (S : Sv) (σ : L2.St) (as : SA) : Prop := as.length ≤ σ.length ∧ ∀ (i : Nat) (P : VP), as[i]? = some (some P) → ∃ v, σ[i]? = some (some v) ∧ P.p v S
theorem Sl.mono {S S' : Sv} {σ : L2.St} {as : SA} (h : Sl S σ as) (l : S.le S') : Sl S' σ as := ⟨h.1, fun i P e => by
  obtain ⟨v, h1, h2⟩ := h.2 i P e
  exact ⟨v, h1, P.mono l h2⟩⟩
theorem Sl.set {S : Sv} {σ : L2.St} {as : SA} {i : Nat} {v : V} {P : VP} (h : Sl S σ as) (q : P.p v S) : Sl S (σ.set i (some v)) (as.set i (some P)) := by
  refine ⟨by rw [List.length_set, List.length_set]; exact h.1, fun j Q e => ?_⟩
  by_cases hj : i = j
  · subst hj
    have hi : i < as.length := by
      have z := (List.getElem?_eq_some_iff.mp e).1
      rw [List.length_set] at z
      exact z
    rw [List.getElem?_set_self hi] at e
    have e' : P = Q := by injection e with e; injection e
    subst e'
    exact ⟨v, List.getElem?_set_self (Nat.lt_of_lt_of_le hi h.1), q⟩
  · rw [List.getElem?_set_ne hj] at e ⊢
    exact h.2 j Q e
theorem Sl.un {S : Sv} {σ : L2.St} {as : SA} {i : Nat} {x : Option V} (h : Sl S σ as) : Sl S (σ.set i x) (as.set i none) := by
  refine ⟨by rw [List.length_set, List.length_set]; exact h.1, fun j Q e => ?_⟩
  by_cases hj : i = j
  · subst hj
    have hi : i < as.length := by
      have z := (List.getElem?_eq_some_iff.mp e).1
      rw [List.length_set] at z
      exact z
    rw [List.getElem?_set_self hi] at e
    injection e with e
    cases e
  · rw [List.getElem?_set_ne hj] at e ⊢
    exact h.2 j Q e
/-- forgetting, weakening -/
def Wk : SA → SA → Prop
  | _, [] => True
  | a :: as, b :: bs => (b = none ∨ b = a) ∧ Wk as bs
  | [], _ :: _ => False
theorem Wk.len : ∀ {as bs : SA}, Wk as bs → bs.length ≤ as.length
  | _, [], _ => Nat.zero_le _
  | _ :: _, _ :: _, h => Nat.succ_le_succ (Wk.len h.2)
  | [], _ :: _, h => h.elim
theorem Wk.at : ∀ {as bs : SA} {i : Nat} {P : VP}, Wk as bs → bs[i]? = some (some P) → as[i]? = some (some P)
  | _, [], _, _, _, h => by simp at h
  | a :: _, b :: _, 0, P, h, e => by
    have e' : b = some P := Option.some.inj e
    rcases h.1 with q | q
    · rw [q] at e'; cases e'
    · rw [← q, e']; rfl
  | _ :: as, _ :: bs, i + 1, P, h, e => Wk.at (i := i) h.2 e
  | [], _ :: _, _, _, h, _ => h.elim
theorem Sl.wk {S : Sv} {σ : L2.St} {as bs : SA} (h : Sl S σ as) (w : Wk as bs) : Sl S σ bs := ⟨Nat.le_trans w.len h.1, fun i P e => h.2 i P (w.at e)⟩
theorem Wk.refl : ∀ as : SA, Wk as as
  | [] => trivial
  | _ :: as => ⟨.inr rfl, Wk.refl as⟩
theorem Wk.trans : ∀ {as bs cs : SA}, Wk as bs → Wk bs cs → Wk as cs
  | _, _, [], _, _ => by unfold Wk; trivial
  | a :: as, b :: bs, c :: cs, h, k => ⟨by
      rcases k.1 with q | q
      · exact .inl q
      · rcases h.1 with z | z
        · exact .inl (q.trans z)
        · exact .inr (q.trans z), Wk.trans h.2 k.2⟩
  | _, [], _ :: _, _, k => k.elim
  | [], _ :: _, _ :: _, h, _ => h.elim
theorem AV.mono {S S' : Sv} (l : S.le S') : ∀ {vs : List V} {Ps : List VP}, AV S vs Ps → AV S' vs Ps
  | [], [], _ => trivial
  | _ :: _, P :: _, h => ⟨P.mono l h.1, AV.mono l h.2⟩
  | [], _ :: _, h => h.elim
  | _ :: _, [], h => h.elim
theorem AV.length {S : Sv} : ∀ {vs : List V} {Ps : List VP}, AV S vs Ps → vs.length = Ps.length
  | [], [], _ => rfl
  | _ :: _, P :: _, h => congrArg (· + 1) (AV.length h.2)
  | [], _ :: _, h => h.elim
  | _ :: _, [], h => h.elim
theorem AV.a2 {α : Type} {S : Sv} {w : Bool} {r : Rp α} : ∀ {xs : List α} {vs : List V}, AV S vs (xs.map (VP.at w r)) → A2 r (S.at w) xs vs
  | [], [], _ => trivial
  | _ :: _, _ :: _, h => ⟨h.1, AV.a2 h.2⟩
  | _ :: _, [], h => h.elim
  | [], _ :: _, h => h.elim

/-! ### the judgement of an expression -/
structure Cf where
  B : Bs
  W : WX
  ax : SA
  ox : OS
  xr : Er → Value → Option Addr → Hp → Hp → Prop
def Cf.xq (C : Cf) (L : Sv) (e : Er) : Prop := ∀ cls d S H σ, L.le S → StOk C.B S H → Sl S σ C.ax → OwL C.B S H C.ox → C.xr e cls d S.g H → C.W cls d σ H
theorem xq_le {C : Cf} {L L' : Sv} {e : Er} (z : C.xq L e) (h : L.le L' := by first | exact Sv.le.refl _ | assumption | exact Sv.le.trans (by assumption) (by assumption)) : C.xq L' e := fun cls d S H σ l => z cls d S H σ (h.trans l)
structure Ok (X : Cx) (C : Cf) (k : Nat) : Prop where
  calm : X.calm = true
  nd : X.N.Nodup
  room : Room k X.A
  tk : Takes X C.W
  po : PassesOwn (model X.prog X.w) X.A X.env X.xe
theorem Ok.hu {X : Cx} {C : Cf} {k : Nat} (o : Ok X C k) : X.A.units + 1 < cLine := hu_of o.room

section
variable {ς α π : Type}
def tG (C : Cf) (as : SA) (O : ς → OS) (m : SM ς α) (P : α → π → VP) (nw : α → π → OS) : TE := fun σ H Q =>
  ∃ (s : ς) (S : Sv), StOk C.B S H ∧ Sl S σ as ∧ OwL C.B S H (O s) ∧
    (m s).post (fun z => ∀ (q : π) (v : V) (S' : Sv) (H' : Hp), S.le S' → StOk C.B S' H' → OwL C.B S' H' (nw z.1 q ++ O z.2) → (P z.1 q).p v S' → Q v H') (C.xq S)
structure HG (X : Cx) (C : Cf) (e : Expr) (as : SA) (O : ς → OS) (m : SM ς α) (P : α → π → VP) (nw : α → π → OS) : Prop where
  pe : PE X e (tG C as O m P nw)
/-- nothing new is owned -/
abbrev HX (X : Cx) (C : Cf) (e : Expr) (as : SA) (O : ς → OS) (m : SM ς α) (P : α → VP) : Prop := HG (π := Unit) X C e as O m (fun a _ => P a) (fun _ _ => [])
/-- a new object -/
abbrev HN (X : Cx) (C : Cf) (e : Expr) (as : SA) (O : ς → OS) (m : SM ς α) (c : α → Ct) : Prop := HG (π := Addr) X C e as O m (fun _ p => VP.ptr p) (fun a p => [⟨p, c a, true⟩])
/-- a test -/
def tT (C : Cf) (as : SA) (O : ς → OS) (m : SM ς Bool) : TT := fun σ H Q =>
  ∃ (s : ς) (S : Sv), StOk C.B S H ∧ Sl S σ as ∧ OwL C.B S H (O s) ∧
    (m s).post (fun z => ∀ (S' : Sv) (H' : Hp), S.le S' → StOk C.B S' H' → OwL C.B S' H' (O z.2) → Q z.1 H') (C.xq S)
structure HT (X : Cx) (C : Cf) (e : Expr) (as : SA) (O : ς → OS) (m : SM ς Bool) : Prop where
  pt : PT X e (tT C as O m)
structure HW (X : Cx) (C : Cf) (e : Expr) (as : SA) (O : ς → OS) (m : SM ς Bool) : Prop where
  pw : PW X e (tT C as O m)
/-- arguments -/
def tA (C : Cf) (as : SA) (O : ς → OS) (m : SM ς α) (P : α → List VP) : TA := fun σ H Q =>
  ∃ (s : ς) (S : Sv), StOk C.B S H ∧ Sl S σ as ∧ OwL C.B S H (O s) ∧
    (m s).post (fun z => ∀ (vs : List V) (S' : Sv) (H' : Hp), S.le S' → StOk C.B S' H' → OwL C.B S' H' (O z.2) → AV S' vs (P z.1) → Q vs H') (C.xq S)
structure HA (X : Cx) (C : Cf) (es : List Expr) (as : SA) (O : ς → OS) (m : SM ς α) (P : α → List VP) : Prop where
  pa : PA X es (tA C as O m P)
end
theorem pe_weak {X : Cx} {e : Expr} {t t' : TE} (h : PE X e t) (w : ∀ σ H Q, t' σ H Q → t σ H Q) : PE X e t' := ⟨fun pins s σ H Q I q => h.run pins s σ H Q I (w σ H Q q)⟩
theorem pt_weak {X : Cx} {e : Expr} {t t' : TT} (h : PT X e t) (w : ∀ σ H Q, t' σ H Q → t σ H Q) : PT X e t' := ⟨fun pins s σ H Q I q => h.run pins s σ H Q I (w σ H Q q)⟩
theorem pw_weak {X : Cx} {e : Expr} {t t' : TT} (h : PW X e t) (w : ∀ σ H Q, t' σ H Q → t σ H Q) : PW X e t' := ⟨fun wh pins s σ H Q I q => h.run wh pins s σ H Q I (w σ H Q q)⟩
theorem pa_weak {X : Cx} {e : List Expr} {t t' : TA} (h : PA X e t) (w : ∀ σ H Q, t' σ H Q → t σ H Q) : PA X e t' := ⟨fun pos pins s σ H Q I q => h.run pos pins s σ H Q I (w σ H Q q)⟩

/-! ### growing states -/
section
variable {B : Bs} {S : Sv} {H : Hp} {p : Addr} {o : HO}
theorem StOk.ynone (k : StOk B S H) (h : H p = none) : S.y p = none := k.yh.none h
theorem StOk.gnone (k : StOk B S H) (h : S.y p = none) : S.g p = none := k.gy.none h
/-- a new object, not owned: frozen at once -/
def Sv.add (S : Sv) (p : Addr) (o : HO) : Sv := ⟨upd S.g p o, upd S.y p o⟩
theorem Sv.le_add (hy : S.y p = none) (hg : S.g p = none) : S.le (S.add p o) := ⟨Ex.new hg, Ex.new hy⟩
theorem StOk.frz (k : StOk B S H) (hy : S.y p = none) (hb : B.h p = none) (hk : B.kp p = none) (hp : H p = some o) : StOk B (S.add p o) H where
  gy := k.gy.add hy
  yh := k.yh.upd hp
  g0 := k.g0.trans (Ex.new (k.gnone hy))
  b0 := fun a u h n => by
    have z := k.b0 a u h n
    show upd S.y p o a = some u
    rw [upd_ne (ne_of_none z hy)]
    exact z
  fr := fun a h n => by
    show upd S.g p o a = none
    have ne : a ≠ p := fun z => n (by rw [z]; exact hb)
    rw [upd_ne ne]
    exact k.fr a h n
  tr := k.tr
  kp := fun a u h => by
    obtain ⟨h1, h2⟩ := k.kp a u h
    refine ⟨h1, ?_⟩
    show upd S.y p o a = none
    rw [upd_ne fun z => by rw [z, hk] at h; cases h]
    exact h2
theorem StOk.bnone (k : StOk B S H) (h : H p = none) : B.h p = none := by
  cases q : B.h p with
  | none => rfl
  | some u => exact (k.tr p (by rw [q]; intro z; cases z) h).elim
theorem StOk.knone (k : StOk B S H) (h : H p = none) : B.kp p = none := by
  cases q : B.kp p with
  | none => rfl
  | some u => rw [(k.kp p u q).1] at h; cases h
/-- an object that is not readable is written -/
theorem StOk.put (k : StOk B S H) (h : S.y p = none) (hk : B.kp p = none) : StOk B S (upd H p o) := ⟨k.gy, k.yh.mut h, k.g0, k.b0, k.fr, (fun a n => by
  by_cases z : a = p
  · subst z; rw [upd_same]; intro q; cases q
  · rw [upd_ne z]; exact k.tr a n), fun a u q => by
  obtain ⟨h1, h2⟩ := k.kp a u q
  rw [upd_ne fun z => by rw [z, hk] at q; cases q]
  exact ⟨h1, h2⟩⟩
/-- the heap grows by a new object -/
theorem StOk.grow (k : StOk B S H) (h : H p = none) : StOk B S (upd H p o) := k.put (k.yh.none h) (k.knone h)
theorem OwL.grow {os : OS} (k : OwL B S H os) (h : H p = none) : OwL B S (upd H p o) os := k.move (.refl S) (fun e m => (k.mem m).1) (fun e m u z => by rw [upd_ne (ne_of_none z h)]; exact z) (fun _ _ _ z => z) fun _ _ z => z
theorem OwL.add {os : OS} (k : OwL B S H os) (hy : S.y p = none) (hg : S.g p = none) (n : ∀ e ∈ os, e.p ≠ p) : OwL B (S.add p o) H os := k.move (Sv.le_add hy hg) (fun e m => by
    show upd S.y p o e.p = none
    rw [upd_ne (n e m)]; exact (k.mem m).1) (fun _ _ _ z => z) (fun _ _ _ z => z) fun _ _ z => z
/-- a new object goes to the owned ones -/
theorem OwL.new {os : OS} {c : Ct} (k : OwL B S H os) (st : StOk B S H) (h : H p = none) (q : c.c o S.g) : OwL B S (upd H p o) (⟨p, c, true⟩ :: os) :=
  ⟨st.ynone h, ⟨o, upd_same, q⟩, ⟨fun _ => st.bnone h, st.knone h⟩, (fun e m z => by
    obtain ⟨_, ⟨u, e1, _⟩, _⟩ := k.mem m
    have z' : e.p = p := z
    rw [z', h] at e1; cases e1), k.grow h⟩
/-- .. or is frozen at once -/
theorem StOk.newF (k : StOk B S H) (h : H p = none) : StOk B (S.add p o) (upd H p o) := (k.grow h).frz (k.ynone h) (k.bnone h) (k.knone h) upd_same
theorem OwL.newF {os : OS} (k : OwL B S H os) (st : StOk B S H) (h : H p = none) : OwL B (S.add p o) (upd H p o) os := (k.grow h).add (st.ynone h) (st.gnone (st.ynone h)) fun e m z => by
    obtain ⟨_, ⟨u, e1, _⟩, _⟩ := k.mem m
    rw [z, h] at e1; cases e1
theorem StOk.leF (k : StOk B S H) (h : H p = none) : S.le (S.add p o) := Sv.le_add (k.ynone h) (k.gnone (k.ynone h))
theorem Sv.add_at (w : Bool) : (S.add p o).at w p = some o := by cases w <;> exact upd_same
theorem StOk.atH (k : StOk B S H) (w : Bool) : Ex (S.at w) H := by
  cases w
  · exact k.yh
  · exact k.gy.trans k.yh
end

/-! ### a new object that stays frozen -/
section
variable {ς α : Type} {X : Cx} {C : Cf} {e : Expr} {as : SA} {O : ς → OS} {m : SM ς α}
theorem HG.frz {c : α → Ct} {P : α → VP} (h : HN X C e as O m c) (hc : ∀ a p o S, (c a).c o S.g → S.g p = some o → (P a).p (.ref p) S) : HX X C e as O m P := ⟨pe_weak h.pe fun σ H Q ⟨s, S, st, sl, ow, q⟩ => by
  refine ⟨s, S, st, sl, ow, R.post_mono q (fun z k p v S' H' l st' ow' hv => ?_) fun _ z => xq_le z⟩
  have hv' : v = .ref p := hv
  subst hv'
  obtain ⟨h1, ⟨o, h2, h3⟩, h4, h5, h6⟩ := ow'
  have l2 : S'.le (S'.add p o) := Sv.le_add h1 (st'.gnone h1)
  exact k () (.ref p) (S'.add p o) H' (l.trans l2) (st'.frz h1 (h4.1 rfl) h4.2 h2) (h6.add h1 (st'.gnone h1) fun e m => h5 e m) (hc z.1 p o _ ((c z.1).mono l2.g h3) upd_same)⟩
theorem HG.frzL {β : Type} {r : Rp β} {f : α → List β} (h : HN X C e as O m fun a => cLst r (f a)) : HX X C e as O m fun a => VP.at true (rLst X.K r) (f a) :=
  h.frz fun a p o S hc hg => by
    obtain ⟨vs, e1, h1⟩ := hc
    subst e1
    exact ⟨p, vs, rfl, SqL.of hg, h1⟩
theorem HG.frzD {κ β : Type} {k : KK κ} {r : Rp β} {f : α → List (κ × β)} (h : HN X C e as O m fun a => cDic k r (f a)) : HX X C e as O m fun a => VP.at true (rDic k r) (f a) :=
  h.frz fun a p o S hc hg => by
    obtain ⟨vs, e1, h1⟩ := hc
    subst e1
    exact ⟨p, vs, rfl, hg, h1⟩
end
end Y

/-! Y: names, constants, operators, comparisons, tests, tuples and lists as displays. -/
namespace Y
open PySem PySem.Spec PyProof.Rows L2

section
variable {ς α β γ δ π : Type} {X : Cx} {C : Cf} {as : SA} {O : ς → OS} {a b c e : Expr} {es : List Expr} {pos : Pos}

def Res (C : Cf) (S : Sv) (H : Hp) (os : OS) (m : R γ) (P : γ → π → VP) (nw : γ → π → OS) (Q : VK) : Prop :=
  m.post (fun z => ∀ (q : π) (v : V) (S' : Sv) (H' : Hp), S.le S' → StOk C.B S' H' → OwL C.B S' H' (nw z q ++ os) → (P z q).p v S' → Q v H') (C.xq S)
def OV2 (C : Cf) (r : R2) (P1 : α → VP) (P2 : β → VP) (f : α → β → R γ) (P : γ → π → VP) (nw : γ → π → OS) : Prop :=
  ∀ (x : α) (y : β) (v u : V) (S : Sv) (H : Hp) (os : OS) (Q : VK), StOk C.B S H → OwL C.B S H os → (P1 x).p v S → (P2 y).p u S → Res C S H os (f x y) P nw Q → r v u H Q
def OV1 (C : Cf) (r : V → Hp → VK → Prop) (P1 : α → VP) (f : α → R γ) (P : γ → π → VP) (nw : γ → π → OS) : Prop :=
  ∀ (x : α) (v : V) (S : Sv) (H : Hp) (os : OS) (Q : VK), StOk C.B S H → OwL C.B S H os → (P1 x).p v S → Res C S H os (f x) P nw Q → r v H Q
def OVA (C : Cf) (r : List V → Hp → VK → Prop) (Ps : α → List VP) (f : α → R γ) (P : γ → π → VP) (nw : γ → π → OS) : Prop :=
  ∀ (x : α) (vs : List V) (S : Sv) (H : Hp) (os : OS) (Q : VK), StOk C.B S H → OwL C.B S H os → AV S vs (Ps x) → Res C S H os (f x) P nw Q → r vs H Q
/-- .. a method: the receiver, the arguments -/
def OVM (C : Cf) (r : V → List V → Hp → VK → Prop) (P1 : α → VP) (Ps : β → List VP) (f : α → β → R γ) (P : γ → π → VP) (nw : γ → π → OS) : Prop :=
  ∀ (x : α) (y : β) (v : V) (vs : List V) (S : Sv) (H : Hp) (os : OS) (Q : VK), StOk C.B S H → OwL C.B S H os → (P1 x).p v S → AV S vs (Ps y) → Res C S H os (f x y) P nw Q → r v vs H Q
/-- a result that is there at once -/
theorem Res.imm {S : Sv} {H : Hp} {os : OS} {z : γ} {P : γ → VP} {Q : VK} {v : V} (h : Res (π := Unit) C S H os (.ok z) (fun z _ => P z) (fun _ _ => []) Q) (st : StOk C.B S H) (ow : OwL C.B S H os) (hp : (P z).p v S) : Q v H := h () v S H (.refl S) st ow hp
/-- a result that is a new frozen object -/
theorem Res.newF {S : Sv} {H : Hp} {os : OS} {z : γ} {P : γ → VP} {Q : VK} {p : Addr} {o : HO} (h : Res (π := Unit) C S H os (.ok z) (fun z _ => P z) (fun _ _ => []) Q) (st : StOk C.B S H) (ow : OwL C.B S H os) (n : H p = none) (hp : (P z).p (.ref p) (S.add p o)) : Q (.ref p) (upd H p o) :=
  h () (.ref p) (S.add p o) (upd H p o) (st.leF n) (st.newF n) (ow.newF st n) hp
/-- a result that is a new owned object -/
theorem Res.newO {S : Sv} {H : Hp} {os : OS} {z : γ} {c : γ → Ct} {Q : VK} {p : Addr} {o : HO} (h : Res (π := Addr) C S H os (.ok z) (fun _ p => VP.ptr p) (fun z p => [⟨p, c z, true⟩]) Q) (st : StOk C.B S H) (ow : OwL C.B S H os) (n : H p = none) (hp : (c z).c o S.g) : Q (.ref p) (upd H p o) :=
  h p (.ref p) S (upd H p o) (.refl S) (st.grow n) (ow.new st n hp) rfl
theorem Res.guard {c : Prop} [Decidable c] {S : Sv} {H : Hp} {os : OS} {m : R γ} {P : γ → π → VP} {nw : γ → π → OS} {Q : VK} (h : Res C S H os ((R.guard c).bind fun _ => m) P nw Q) : c ∧ Res C S H os m P nw Q := R.guard_post.mp (R.post_bind.mp h)
theorem Res.ofO {S : Sv} {H : Hp} {os : OS} {m : Option δ} {k : δ → R γ} {P : γ → π → VP} {nw : γ → π → OS} {Q : VK} (h : Res C S H os ((R.ofO m).bind k) P nw Q) : ∃ a, m = some a ∧ Res C S H os (k a) P nw Q := R.ofO_post.mp (R.post_bind.mp h)
theorem Res.ofO1 {S : Sv} {H : Hp} {os : OS} {m : Option γ} {P : γ → π → VP} {nw : γ → π → OS} {Q : VK} (h : Res C S H os (R.ofO m) P nw Q) : ∃ a, m = some a ∧ Res C S H os (.ok a) P nw Q := R.ofO_post.mp h

/-! ### names, constants -/
theorem hx_at {i : Nat} {x : Str} {P : VP} {z : α} {P' : α → VP} (h : as[i]? = some (some P)) (hN : X.N[i]? = some x) (hv : Vis X.env.scope x) (hp : P = P' z) (hd : (x == ("__debug__" : Str)) = false := by decide) (hcd : (x == ("__classdict__" : Str)) = false := by decide) :
    HX X C (.Name x pos) as O (SM.ret z) P' := ⟨pe_weak (pe_var hN hv hd hcd) fun σ H Q ⟨s, S, st, sl, ow, q⟩ => by
  obtain ⟨v, h1, h2⟩ := sl.2 i P h
  refine ⟨v, h1, q () v S H (.refl S) st ow ?_⟩
  show (P' z).p v S
  rw [← hp]
  exact h2⟩
theorem hx_var {w : Bool} {r : Rp α} {z : α} (i : Nat) {x : Str} (h : as[i]? = some (some (VP.at w r z)) := by rfl) (hN : X.N[i]? = some x := by rfl) (hv : Vis X.env.scope x := by first | exact Or.inl rfl | exact Or.inr (Or.inl rfl) | exact Or.inr (Or.inr rfl))
    (hd : (x == ("__debug__" : Str)) = false := by decide) (hcd : (x == ("__classdict__" : Str)) = false := by decide) : HX X C (.Name x pos) as O (SM.ret z) (VP.at w r) := hx_at h hN hv rfl hd hcd
theorem hx_ptr {p : Addr} (i : Nat) {x : Str} (h : as[i]? = some (some (VP.ptr p)) := by rfl) (hN : X.N[i]? = some x := by rfl) (hv : Vis X.env.scope x := by first | exact Or.inl rfl | exact Or.inr (Or.inl rfl) | exact Or.inr (Or.inr rfl))
    (hd : (x == ("__debug__" : Str)) = false := by decide) (hcd : (x == ("__classdict__" : Str)) = false := by decide) : HX X C (.Name x pos) as O (SM.ret ()) (fun _ => VP.ptr p) := hx_at h hN hv rfl hd hcd
theorem hx_tc {v : V} {z : α} {P : α → VP} (h : PE X e (tC v)) (hp : ∀ S, (P z).p v S) : HX X C e as O (SM.ret z) P := ⟨pe_weak h fun σ H Q ⟨s, S, st, sl, ow, q⟩ => q () v S H (.refl S) st ow (hp S)⟩
theorem hx_int {i : Int} {j : Nat} : HX X C (.Constant (.int i) j pos) as O (SM.ret i) (VP.at true rInt) := hx_tc pe_int fun _ => rfl
theorem hx_bl {i : Bool} {j : Nat} : HX X C (.Constant (.bool i) j pos) as O (SM.ret i) (VP.at true rBl) := hx_tc pe_bl fun _ => rfl
theorem hx_str {i : Str} {j : Nat} : HX X C (.Constant (.str i) j pos) as O (SM.ret i) (VP.at true rStr) := hx_tc pe_str fun _ => rfl
theorem hx_non {j : Nat} : HX X C (.Constant .none j pos) as O (SM.ret ()) (VP.at true rNon) := hx_tc pe_non fun _ => rfl
theorem hx_none {r : Rp α} {j : Nat} : HX X C (.Constant .none j pos) as O (SM.ret (none : Option α)) (VP.at true (rOpt r)) := hx_tc pe_non fun _ => rfl
theorem hx_glob {x : Str} {i : Int} (hm : ∃ t, X.mg x = some (.int i t)) (hg : Gl X x := by rfl) (hd : (x == ("__debug__" : Str)) = false := by decide) : HX X C (.Name x pos) as O (SM.ret i) (VP.at true rInt) := by
  obtain ⟨t, ht⟩ := hm
  exact hx_tc (pe_glob hg ht (show RelV (.int i) _ from ⟨t, rfl⟩) hd) fun _ => rfl
theorem hx_globS {x : Str} {i : Str} (hm : ∃ t, X.mg x = some (.str i t)) (hg : Gl X x := by rfl) (hd : (x == ("__debug__" : Str)) = false := by decide) : HX X C (.Name x pos) as O (SM.ret i) (VP.at true rStr) := by
  obtain ⟨t, ht⟩ := hm
  exact hx_tc (pe_glob hg ht (show RelV (.str i) _ from ⟨t, rfl⟩) hd) fun _ => rfl

/-! ### two values, one after another -/
/-- the state behind two operands -/
theorem hg_two {m1 : SM ς α} {m2 : SM ς β} {P1 : α → VP} {P2 : β → VP} {f : α → β → R γ} {P : γ → π → VP} {nw : γ → π → OS} (ha : HX X C a as O m1 P1) (hb : HX X C b as O m2 P2) {σ : L2.St} {H : Hp} {Q : VK}
    (h : tG C as O (SM.bnd2 f m1 m2) P nw σ H Q) : (tG (π := Unit) C as O m1 (fun x _ => P1 x) fun _ _ => []) σ H fun v H1 => (tG (π := Unit) C as O m2 (fun x _ => P2 x) fun _ _ => []) σ H1 fun u H2 =>
      ∃ x y S os, StOk C.B S H2 ∧ OwL C.B S H2 os ∧ (P1 x).p v S ∧ (P2 y).p u S ∧ Res C S H2 os (f x y) P nw Q := by
  obtain ⟨s, S, st, sl, ow, q⟩ := h
  have q1 := R.post_bind.mp q
  refine ⟨s, S, st, sl, ow, R.post_mono q1 (fun z k _ v S1 H1 l1 st1 ow1 p1 => ?_) fun _ z => xq_le z⟩
  have k1 := R.post_bind.mp k
  refine ⟨z.2, S1, st1, sl.mono l1, ow1, R.post_mono k1 (fun w k2 _ u S2 H2 l2 st2 ow2 p2 => ?_) fun _ z => xq_le z⟩
  refine ⟨z.1, w.1, S2, O w.2, st2, ow2, (P1 z.1).mono l2 p1, p2, ?_⟩
  exact R.post_mono (R.post_bind.mp k2) (fun c k3 q v S3 H3 l3 st3 ow3 p3 => k3 q v S3 H3 ((l1.trans l2).trans l3) st3 ow3 p3) fun _ z => xq_le z
theorem hg_op {op : Operator} {r : R2} {m1 : SM ς α} {m2 : SM ς β} {P1 : α → VP} {P2 : β → VP} {f : α → β → R γ} {P : γ → π → VP} {nw : γ → π → OS} (ho : OpR X (binaryOp op) r) (hv : OV2 C r P1 P2 f P nw) (ha : HX X C a as O m1 P1) (hb : HX X C b as O m2 P2) :
    HG X C (.BinOp a op b pos) as O (SM.bnd2 f m1 m2) P nw := ⟨pe_weak (pe_op ho ha.pe hb.pe) fun σ H Q h => by
  obtain ⟨s, S, st, sl, ow, q⟩ := hg_two ha hb h
  refine ⟨s, S, st, sl, ow, R.post_mono q (fun z k w v S1 H1 l1 st1 ow1 p1 => ?_) fun _ z => xq_le z⟩
  obtain ⟨s', S', st', sl', ow', q'⟩ := k w v S1 H1 l1 st1 ow1 p1
  refine ⟨s', S', st', sl', ow', R.post_mono q' (fun z k w v S1 H1 l1 st1 ow1 p1 => ?_) fun _ z => xq_le z⟩
  obtain ⟨x, y, S2, os, st2, ow2, p1, p2, q2⟩ := k w v S1 H1 l1 st1 ow1 p1
  exact hv x y _ _ S2 _ os Q st2 ow2 p1 p2 q2⟩
theorem hg_ix {r : R2} {m1 : SM ς α} {m2 : SM ς β} {P1 : α → VP} {P2 : β → VP} {f : α → β → R γ} {P : γ → π → VP} {nw : γ → π → OS} (ho : IxR X r) (hv : OV2 C r P1 P2 f P nw) (ha : HX X C a as O m1 P1) (hb : HX X C b as O m2 P2) (hs : PlainIx b := by exact fun _ _ => rfl) :
    HG X C (.Subscript a b pos) as O (SM.bnd2 f m1 m2) P nw := ⟨pe_weak (pe_ix ho ha.pe hb.pe hs) fun σ H Q h => by
  obtain ⟨s, S, st, sl, ow, q⟩ := hg_two ha hb h
  refine ⟨s, S, st, sl, ow, R.post_mono q (fun z k w v S1 H1 l1 st1 ow1 p1 => ?_) fun _ z => xq_le z⟩
  obtain ⟨s', S', st', sl', ow', q'⟩ := k w v S1 H1 l1 st1 ow1 p1
  refine ⟨s', S', st', sl', ow', R.post_mono q' (fun z k w v S1 H1 l1 st1 ow1 p1 => ?_) fun _ z => xq_le z⟩
  obtain ⟨x, y, S2, os, st2, ow2, p1, p2, q2⟩ := k w v S1 H1 l1 st1 ow1 p1
  exact hv x y _ _ S2 _ os Q st2 ow2 p1 p2 q2⟩
theorem hg_cmp {op : CmpOp} {r : R2} {m1 : SM ς α} {m2 : SM ς β} {P1 : α → VP} {P2 : β → VP} {f : α → β → R γ} {P : γ → π → VP} {nw : γ → π → OS} (ho : OpR X (compareOp op) r) (hv : OV2 C r P1 P2 f P nw) (ha : HX X C a as O m1 P1) (hb : HX X C b as O m2 P2) (hm : behindInMarks op b = false) :
    HG X C (.Compare a [op] [b] pos) as O (SM.bnd2 f m1 m2) P nw := ⟨pe_weak (pe_cmpR ho ha.pe hb.pe hm) fun σ H Q h => by
  obtain ⟨s, S, st, sl, ow, q⟩ := hg_two ha hb h
  refine ⟨s, S, st, sl, ow, R.post_mono q (fun z k w v S1 H1 l1 st1 ow1 p1 => ?_) fun _ z => xq_le z⟩
  obtain ⟨s', S', st', sl', ow', q'⟩ := k w v S1 H1 l1 st1 ow1 p1
  refine ⟨s', S', st', sl', ow', R.post_mono q' (fun z k w v S1 H1 l1 st1 ow1 p1 => ?_) fun _ z => xq_le z⟩
  obtain ⟨x, y, S2, os, st2, ow2, p1, p2, q2⟩ := k w v S1 H1 l1 st1 ow1 p1
  exact hv x y _ _ S2 _ os Q st2 ow2 p1 p2 q2⟩
theorem hx_cmp {op : CmpOp} {r : R2} {m1 : SM ς α} {m2 : SM ς β} {P1 : α → VP} {P2 : β → VP} {f : α → β → R Bool} (ho : OpR X (compareOp op) r) (hv : OV2 (π := Unit) C r P1 P2 f (fun b _ => VP.at true rBl b) fun _ _ => []) (ha : HX X C a as O m1 P1) (hb : HX X C b as O m2 P2) (hm : behindInMarks op b = false) :
    HX X C (.Compare a [op] [b] pos) as O (SM.bnd2 f m1 m2) (VP.at true rBl) := hg_cmp ho hv ha hb hm
theorem ht_cmp {op : CmpOp} {r : R2} {m1 : SM ς α} {m2 : SM ς β} {P1 : α → VP} {P2 : β → VP} {f : α → β → R Bool} (ho : OpR X (compareOp op) r) (hv : OV2 (π := Unit) C r P1 P2 f (fun b _ => VP.at true rBl b) fun _ _ => []) (ha : HX X C a as O m1 P1) (hb : HX X C b as O m2 P2) (hm : behindInMarks op b = false) :
    HT X C (.Compare a [op] [b] pos) as O (SM.bnd2 f m1 m2) := ⟨pt_weak (pt_cmpR ho ha.pe hb.pe hm) fun σ H Q ⟨s, S, st, sl, ow, q⟩ => by
  have h : tG (π := Unit) C as O (SM.bnd2 f m1 m2) (fun b _ => VP.at true rBl b) (fun _ _ => []) σ H (fun x H' => ∃ k, x = .bl k ∧ Q k H') := ⟨s, S, st, sl, ow, R.post_mono q (fun z k _ v S' H' l' st' ow' pv => ⟨z.1, pv, k S' H' l' st' ow'⟩) fun _ z => xq_le z⟩
  obtain ⟨s, S, st, sl, ow, q⟩ := hg_two ha hb h
  refine ⟨s, S, st, sl, ow, R.post_mono q (fun z k w v S1 H1 l1 st1 ow1 p1 => ?_) fun _ z => xq_le z⟩
  obtain ⟨s', S', st', sl', ow', q'⟩ := k w v S1 H1 l1 st1 ow1 p1
  refine ⟨s', S', st', sl', ow', R.post_mono q' (fun z k w v S1 H1 l1 st1 ow1 p1 => ?_) fun _ z => xq_le z⟩
  obtain ⟨x, y, S2, os, st2, ow2, p1, p2, q2⟩ := k w v S1 H1 l1 st1 ow1 p1
  exact hv x y _ _ S2 _ os _ st2 ow2 p1 p2 q2⟩

/-! ### whole numbers -/
theorem ov_i {C' : Int → Int → Prop} [∀ i j, Decidable (C' i j)] {g : Int → Int → Int} {w1 w2 : Bool} : OV2 (π := Unit) C (rI C' fun i j => .int (g i j)) (VP.at w1 rInt) (VP.at w2 rInt) (fun i j => (R.guard (C' i j)).bind fun _ => .ok (g i j)) (fun z _ => VP.at true rInt z) (fun _ _ => []) := fun x y v u S H os Q st ow h1 h2 q => by
  obtain ⟨hc, q⟩ := q.guard
  exact ⟨x, y, h1, h2, hc, q.imm st ow rfl⟩
theorem ov_i0 {g : Int → Int → Int} {w1 w2 : Bool} : OV2 (π := Unit) C (rI0 fun i j => .int (g i j)) (VP.at w1 rInt) (VP.at w2 rInt) (fun i j => .ok (g i j)) (fun z _ => VP.at true rInt z) (fun _ _ => []) := fun x y v u S H os Q st ow h1 h2 q => ⟨x, y, h1, h2, q.imm st ow rfl⟩
theorem ov_b0 {g : Int → Int → Bool} {w1 w2 : Bool} : OV2 (π := Unit) C (rI0 fun i j => .bl (g i j)) (VP.at w1 rInt) (VP.at w2 rInt) (fun i j => .ok (g i j)) (fun z _ => VP.at true rBl z) (fun _ _ => []) := fun x y v u S H os Q st ow h1 h2 q => ⟨x, y, h1, h2, q.imm st ow rfl⟩
instance (i j : Int) : Decidable (CMul i j) := by unfold CMul; exact inferInstance
instance (i j : Int) : Decidable (CPow i j) := by unfold CPow; exact inferInstance
instance (i j : Int) : Decidable (CDivW i j) := by unfold CDivW; exact inferInstance
def mulR (i j : Int) : R Int := (R.guard (CMul i j)).bind fun _ => .ok (i * j)
def divR (i j : Int) : R Int := (R.guard (CDivW i j)).bind fun _ => .ok (i / j)
def modR (i j : Int) : R Int := (R.guard (0 < j)).bind fun _ => .ok (i % j)
def powR (i j : Int) : R Int := (R.guard (CPow i j)).bind fun _ => .ok (i ^ j.toNat)
def shlR (i j : Int) : R Int := (R.guard (CPow i j)).bind fun _ => .ok (i * 2 ^ j.toNat)
def shrR (i j : Int) : R Int := (R.guard (0 ≤ j)).bind fun _ => .ok (i / 2 ^ j.toNat)
variable {w1 w2 : Bool} {m1 m2 : SM ς Int}
theorem hx_add (ha : HX X C a as O m1 (VP.at w1 rInt)) (hb : HX X C b as O m2 (VP.at w2 rInt)) : HX X C (.BinOp a .Add b pos) as O (SM.map2 (· + ·) m1 m2) (VP.at true rInt) := hg_op op_add ov_i0 ha hb
theorem hx_sub (ha : HX X C a as O m1 (VP.at w1 rInt)) (hb : HX X C b as O m2 (VP.at w2 rInt)) : HX X C (.BinOp a .Sub b pos) as O (SM.map2 (· - ·) m1 m2) (VP.at true rInt) := hg_op op_sub ov_i0 ha hb
theorem hx_mul (ha : HX X C a as O m1 (VP.at w1 rInt)) (hb : HX X C b as O m2 (VP.at w2 rInt)) : HX X C (.BinOp a .Mult b pos) as O (SM.bnd2 mulR m1 m2) (VP.at true rInt) := hg_op op_mul ov_i ha hb
theorem hx_div (ha : HX X C a as O m1 (VP.at w1 rInt)) (hb : HX X C b as O m2 (VP.at w2 rInt)) : HX X C (.BinOp a .FloorDiv b pos) as O (SM.bnd2 divR m1 m2) (VP.at true rInt) := hg_op op_fdivW ov_i ha hb
theorem hx_mod (ha : HX X C a as O m1 (VP.at w1 rInt)) (hb : HX X C b as O m2 (VP.at w2 rInt)) : HX X C (.BinOp a .Mod b pos) as O (SM.bnd2 modR m1 m2) (VP.at true rInt) := hg_op op_mod ov_i ha hb
theorem hx_pow (ha : HX X C a as O m1 (VP.at w1 rInt)) (hb : HX X C b as O m2 (VP.at w2 rInt)) : HX X C (.BinOp a .Pow b pos) as O (SM.bnd2 powR m1 m2) (VP.at true rInt) := hg_op op_pow ov_i ha hb
theorem hx_shl (ha : HX X C a as O m1 (VP.at w1 rInt)) (hb : HX X C b as O m2 (VP.at w2 rInt)) : HX X C (.BinOp a .LShift b pos) as O (SM.bnd2 shlR m1 m2) (VP.at true rInt) := hg_op op_shl ov_i ha hb
theorem hx_shr (ha : HX X C a as O m1 (VP.at w1 rInt)) (hb : HX X C b as O m2 (VP.at w2 rInt)) : HX X C (.BinOp a .RShift b pos) as O (SM.bnd2 shrR m1 m2) (VP.at true rInt) := hg_op op_shr ov_i ha hb
theorem hx_and (ha : HX X C a as O m1 (VP.at w1 rInt)) (hb : HX X C b as O m2 (VP.at w2 rInt)) : HX X C (.BinOp a .BitAnd b pos) as O (SM.map2 Builtin.bitAnd m1 m2) (VP.at true rInt) := hg_op op_and ov_i0 ha hb
def ltB (i j : Int) : Bool := decide (i < j)
def leB (i j : Int) : Bool := decide (i ≤ j)
def gtB (i j : Int) : Bool := decide (j < i)
def geB (i j : Int) : Bool := decide (j ≤ i)
def eqB (i j : Int) : Bool := decide (i = j)
def neB (i j : Int) : Bool := !decide (i = j)
theorem hx_lt (ha : HX X C a as O m1 (VP.at w1 rInt)) (hb : HX X C b as O m2 (VP.at w2 rInt)) : HX X C (.Compare a [.Lt] [b] pos) as O (SM.map2 ltB m1 m2) (VP.at true rBl) := hx_cmp op_lt ov_b0 ha hb (nomark _)
theorem ht_lt (ha : HX X C a as O m1 (VP.at w1 rInt)) (hb : HX X C b as O m2 (VP.at w2 rInt)) : HT X C (.Compare a [.Lt] [b] pos) as O (SM.map2 ltB m1 m2) := ht_cmp op_lt ov_b0 ha hb (nomark _)
theorem hx_le (ha : HX X C a as O m1 (VP.at w1 rInt)) (hb : HX X C b as O m2 (VP.at w2 rInt)) : HX X C (.Compare a [.LtE] [b] pos) as O (SM.map2 leB m1 m2) (VP.at true rBl) := hx_cmp op_le ov_b0 ha hb (nomark _)
theorem ht_le (ha : HX X C a as O m1 (VP.at w1 rInt)) (hb : HX X C b as O m2 (VP.at w2 rInt)) : HT X C (.Compare a [.LtE] [b] pos) as O (SM.map2 leB m1 m2) := ht_cmp op_le ov_b0 ha hb (nomark _)
theorem hx_gt (ha : HX X C a as O m1 (VP.at w1 rInt)) (hb : HX X C b as O m2 (VP.at w2 rInt)) : HX X C (.Compare a [.Gt] [b] pos) as O (SM.map2 gtB m1 m2) (VP.at true rBl) := hx_cmp op_gt ov_b0 ha hb (nomark _)
theorem ht_gt (ha : HX X C a as O m1 (VP.at w1 rInt)) (hb : HX X C b as O m2 (VP.at w2 rInt)) : HT X C (.Compare a [.Gt] [b] pos) as O (SM.map2 gtB m1 m2) := ht_cmp op_gt ov_b0 ha hb (nomark _)
theorem hx_ge (ha : HX X C a as O m1 (VP.at w1 rInt)) (hb : HX X C b as O m2 (VP.at w2 rInt)) : HX X C (.Compare a [.GtE] [b] pos) as O (SM.map2 geB m1 m2) (VP.at true rBl) := hx_cmp op_ge ov_b0 ha hb (nomark _)
theorem ht_ge (ha : HX X C a as O m1 (VP.at w1 rInt)) (hb : HX X C b as O m2 (VP.at w2 rInt)) : HT X C (.Compare a [.GtE] [b] pos) as O (SM.map2 geB m1 m2) := ht_cmp op_ge ov_b0 ha hb (nomark _)
/-! ### == of scalars -/
theorem ov_eqI : OV2 (π := Unit) C rEq (VP.at w1 rInt) (VP.at w2 rInt) (fun i j => .ok (eqB i j)) (fun z _ => VP.at true rBl z) (fun _ _ => []) := fun x y v u S H os Q st ow h1 h2 q => by
  have e1 : v = .int x := h1
  have e2 : u = .int y := h2
  subst e1; subst e2
  refine ⟨rfl, q.imm st ow ?_⟩
  show V.bl _ = V.bl _
  unfold eqB
  simp
theorem ov_neI : OV2 (π := Unit) C rNe (VP.at w1 rInt) (VP.at w2 rInt) (fun i j => .ok (neB i j)) (fun z _ => VP.at true rBl z) (fun _ _ => []) := fun x y v u S H os Q st ow h1 h2 q => by
  have e1 : v = .int x := h1
  have e2 : u = .int y := h2
  subst e1; subst e2
  refine ⟨rfl, q.imm st ow ?_⟩
  show V.bl _ = V.bl _
  unfold neB
  simp
def eqS (i j : Str) : Bool := decide (i = j)
def neS (i j : Str) : Bool := !decide (i = j)
theorem ov_eqS : OV2 (π := Unit) C rEq (VP.at w1 rStr) (VP.at w2 rStr) (fun i j => .ok (eqS i j)) (fun z _ => VP.at true rBl z) (fun _ _ => []) := fun x y v u S H os Q st ow h1 h2 q => by
  have e1 : v = .str x := h1
  have e2 : u = .str y := h2
  subst e1; subst e2
  refine ⟨rfl, q.imm st ow ?_⟩
  show V.bl _ = V.bl _
  unfold eqS
  simp
theorem ov_neS : OV2 (π := Unit) C rNe (VP.at w1 rStr) (VP.at w2 rStr) (fun i j => .ok (neS i j)) (fun z _ => VP.at true rBl z) (fun _ _ => []) := fun x y v u S H os Q st ow h1 h2 q => by
  have e1 : v = .str x := h1
  have e2 : u = .str y := h2
  subst e1; subst e2
  refine ⟨rfl, q.imm st ow ?_⟩
  show V.bl _ = V.bl _
  unfold neS
  simp
theorem hx_eq (ha : HX X C a as O m1 (VP.at w1 rInt)) (hb : HX X C b as O m2 (VP.at w2 rInt)) : HX X C (.Compare a [.Eq] [b] pos) as O (SM.map2 eqB m1 m2) (VP.at true rBl) := hx_cmp op_eq ov_eqI ha hb (nomark _)
theorem ht_eq (ha : HX X C a as O m1 (VP.at w1 rInt)) (hb : HX X C b as O m2 (VP.at w2 rInt)) : HT X C (.Compare a [.Eq] [b] pos) as O (SM.map2 eqB m1 m2) := ht_cmp op_eq ov_eqI ha hb (nomark _)
theorem hx_ne (ha : HX X C a as O m1 (VP.at w1 rInt)) (hb : HX X C b as O m2 (VP.at w2 rInt)) : HX X C (.Compare a [.NotEq] [b] pos) as O (SM.map2 neB m1 m2) (VP.at true rBl) := hx_cmp op_ne ov_neI ha hb (nomark _)
theorem ht_ne (ha : HX X C a as O m1 (VP.at w1 rInt)) (hb : HX X C b as O m2 (VP.at w2 rInt)) : HT X C (.Compare a [.NotEq] [b] pos) as O (SM.map2 neB m1 m2) := ht_cmp op_ne ov_neI ha hb (nomark _)
variable {n1 n2 : SM ς Str}
theorem hx_eqS (ha : HX X C a as O n1 (VP.at w1 rStr)) (hb : HX X C b as O n2 (VP.at w2 rStr)) : HX X C (.Compare a [.Eq] [b] pos) as O (SM.map2 eqS n1 n2) (VP.at true rBl) := hx_cmp op_eq ov_eqS ha hb (nomark _)
theorem ht_eqS (ha : HX X C a as O n1 (VP.at w1 rStr)) (hb : HX X C b as O n2 (VP.at w2 rStr)) : HT X C (.Compare a [.Eq] [b] pos) as O (SM.map2 eqS n1 n2) := ht_cmp op_eq ov_eqS ha hb (nomark _)
theorem hx_neS (ha : HX X C a as O n1 (VP.at w1 rStr)) (hb : HX X C b as O n2 (VP.at w2 rStr)) : HX X C (.Compare a [.NotEq] [b] pos) as O (SM.map2 neS n1 n2) (VP.at true rBl) := hx_cmp op_ne ov_neS ha hb (nomark _)
theorem ht_neS (ha : HX X C a as O n1 (VP.at w1 rStr)) (hb : HX X C b as O n2 (VP.at w2 rStr)) : HT X C (.Compare a [.NotEq] [b] pos) as O (SM.map2 neS n1 n2) := ht_cmp op_ne ov_neS ha hb (nomark _)
def catS (i j : Str) : R Str := (R.guard (i.length + j.length ≤ 16777216)).bind fun _ => .ok (i ++ j)
theorem hx_cat (ha : HX X C a as O n1 (VP.at w1 rStr)) (hb : HX X C b as O n2 (VP.at w2 rStr)) : HX X C (.BinOp a .Add b pos) as O (SM.bnd2 catS n1 n2) (VP.at true rStr) := hg_op op_add_str (fun x y v u S H os Q st ow h1 h2 q => by
  obtain ⟨hc, q⟩ := q.guard
  exact ⟨x, y, h1, h2, by rw [sizeLine_eq]; exact hc, q.imm st ow rfl⟩) ha hb
theorem hx_neg (ha : HX X C a as O m1 (VP.at w1 rInt)) : HX X C (.UnaryOp .USub a pos) as O (SM.map1 (fun i => -i) m1) (VP.at true rInt) := ⟨pe_weak (pe_un un_neg ha.pe) fun σ H Q ⟨s, S, st, sl, ow, q⟩ =>
  ⟨s, S, st, sl, ow, R.post_mono (R.post_bind.mp q) (fun z k _ v S' H' l' st' ow' pv => ⟨z.1, pv, k () _ S' H' l' st' ow' rfl⟩) fun _ z => xq_le z⟩⟩

/-! ### tests -/
section tests
variable {t1 t2 : SM ς Bool} {rest : List Expr}
def SM.and (m n : SM ς Bool) : SM ς Bool := fun s => (m s).bind fun z => if z.1 = true then n z.2 else .ok (false, z.2)
def SM.or (m n : SM ς Bool) : SM ς Bool := fun s => (m s).bind fun z => if z.1 = true then .ok (true, z.2) else n z.2
def SM.not (m : SM ς Bool) : SM ς Bool := SM.map1 (fun b => !b) m
def SM.ite {α : Type} (m : SM ς Bool) (x y : SM ς α) : SM ς α := fun s => (m s).bind fun z => if z.1 = true then x z.2 else y z.2
theorem ht_val (h : HX X C e as O t1 (VP.at w1 rBl)) (he : ∀ whole, isTrue e X.env whole = (do let v ← whole; standAt e.pos; holding [v] (truthy v)) := by intro _; rfl) : HT X C e as O t1 := ⟨pt_weak (pt_val h.pe he) fun σ H Q ⟨s, S, st, sl, ow, q⟩ =>
  ⟨s, S, st, sl, ow, R.post_mono q (fun z k _ v S' H' l' st' ow' pv => ⟨z.1, pv, k S' H' l' st' ow'⟩) fun _ z => xq_le z⟩⟩
theorem hw_and1 (ha : HT X C a as O t1) : HW X C (.BoolOp .And [a] pos) as O t1 := ⟨pw_and1 ha.pt⟩
theorem hw_or1 (ha : HT X C a as O t1) : HW X C (.BoolOp .Or [a] pos) as O t1 := ⟨pw_or1 ha.pt⟩
theorem hw_and (ha : HT X C a as O t1) (hb : HW X C (.BoolOp .And (b :: rest) pos) as O t2) : HW X C (.BoolOp .And (a :: b :: rest) pos) as O (SM.and t1 t2) := ⟨pw_weak (pw_and ha.pt hb.pw) fun σ H Q ⟨s, S, st, sl, ow, q⟩ =>
  ⟨s, S, st, sl, ow, R.post_mono (R.post_bind.mp q) (fun z k S' H' l' st' ow' => by
    by_cases hz : z.1 = true
    · rw [if_pos hz] at k ⊢
      exact ⟨z.2, S', st', sl.mono l', ow', R.post_mono k (fun w k2 S2 H2 l2 st2 ow2 => k2 S2 H2 (l'.trans l2) st2 ow2) fun _ z => xq_le z⟩
    · rw [if_neg hz] at k ⊢
      exact k S' H' l' st' ow') fun _ z => xq_le z⟩⟩
theorem hw_or (ha : HT X C a as O t1) (hb : HW X C (.BoolOp .Or (b :: rest) pos) as O t2) : HW X C (.BoolOp .Or (a :: b :: rest) pos) as O (SM.or t1 t2) := ⟨pw_weak (pw_or ha.pt hb.pw) fun σ H Q ⟨s, S, st, sl, ow, q⟩ =>
  ⟨s, S, st, sl, ow, R.post_mono (R.post_bind.mp q) (fun z k S' H' l' st' ow' => by
    by_cases hz : z.1 = true
    · rw [if_pos hz] at k ⊢
      exact k S' H' l' st' ow'
    · rw [if_neg hz] at k ⊢
      exact ⟨z.2, S', st', sl.mono l', ow', R.post_mono k (fun w k2 S2 H2 l2 st2 ow2 => k2 S2 H2 (l'.trans l2) st2 ow2) fun _ z => xq_le z⟩) fun _ z => xq_le z⟩⟩
theorem HW.t (h : HW X C e as O t1) : HT X C e as O t1 := ⟨h.pw.pt⟩
theorem ht_not (ha : HT X C a as O t1) : HT X C (.UnaryOp .Not a pos) as O (SM.not t1) := ⟨pt_weak (pt_not ha.pt) fun σ H Q ⟨s, S, st, sl, ow, q⟩ =>
  ⟨s, S, st, sl, ow, R.post_mono (R.post_bind.mp q) (fun z k S' H' l' st' ow' => k S' H' l' st' ow') fun _ z => xq_le z⟩⟩
theorem hx_one {op} (h : HX X C a as O t1 (VP.at w1 rBl)) : HX X C (.BoolOp op [a] pos) as O t1 (VP.at w1 rBl) := ⟨pe_one h.pe⟩
theorem hx_andV (ha : HX X C a as O t1 (VP.at w1 rBl)) (hb : HX X C (.BoolOp .And (b :: rest) pos) as O t2 (VP.at w2 rBl)) : HX X C (.BoolOp .And (a :: b :: rest) pos) as O (SM.and t1 t2) (VP.at true rBl) := ⟨pe_weak (pe_and ha.pe hb.pe) fun σ H Q ⟨s, S, st, sl, ow, q⟩ =>
  ⟨s, S, st, sl, ow, R.post_mono (R.post_bind.mp q) (fun z k _ v S' H' l' st' ow' pv => ⟨z.1, pv, by
    by_cases hz : z.1 = true
    · rw [if_pos hz] at k ⊢
      exact ⟨z.2, S', st', sl.mono l', ow', R.post_mono k (fun w k2 _ v2 S2 H2 l2 st2 ow2 p2 => k2 () v2 S2 H2 (l'.trans l2) st2 ow2 p2) fun _ z => xq_le z⟩
    · rw [if_neg hz] at k ⊢
      exact k () _ S' H' l' st' ow' rfl⟩) fun _ z => xq_le z⟩⟩
theorem hx_orV (ha : HX X C a as O t1 (VP.at w1 rBl)) (hb : HX X C (.BoolOp .Or (b :: rest) pos) as O t2 (VP.at w2 rBl)) : HX X C (.BoolOp .Or (a :: b :: rest) pos) as O (SM.or t1 t2) (VP.at true rBl) := ⟨pe_weak (pe_or ha.pe hb.pe) fun σ H Q ⟨s, S, st, sl, ow, q⟩ =>
  ⟨s, S, st, sl, ow, R.post_mono (R.post_bind.mp q) (fun z k _ v S' H' l' st' ow' pv => ⟨z.1, pv, by
    by_cases hz : z.1 = true
    · rw [if_pos hz] at k ⊢
      exact k () _ S' H' l' st' ow' rfl
    · rw [if_neg hz] at k ⊢
      exact ⟨z.2, S', st', sl.mono l', ow', R.post_mono k (fun w k2 _ v2 S2 H2 l2 st2 ow2 p2 => k2 () v2 S2 H2 (l'.trans l2) st2 ow2 p2) fun _ z => xq_le z⟩⟩) fun _ z => xq_le z⟩⟩
theorem hx_not (ha : HX X C a as O t1 (VP.at w1 rBl)) : HX X C (.UnaryOp .Not a pos) as O (SM.not t1) (VP.at true rBl) := ⟨pe_weak (pe_not ha.pe) fun σ H Q ⟨s, S, st, sl, ow, q⟩ =>
  ⟨s, S, st, sl, ow, R.post_mono (R.post_bind.mp q) (fun z k _ v S' H' l' st' ow' pv => ⟨z.1, pv, k () _ S' H' l' st' ow' rfl⟩) fun _ z => xq_le z⟩⟩
end tests

/-! ### arguments, tuples, lists -/
theorem ha_nil {Ps : Unit → List VP} (h : Ps () = []) : HA X C [] as O (SM.ret ()) Ps := ⟨pa_weak pa_nil fun σ H Q ⟨s, S, st, sl, ow, q⟩ => q [] S H (.refl S) st ow (by rw [h]; trivial)⟩
theorem ha_one {m : SM ς α} {P : α → VP} (h : HX X C e as O m P) (hs : starEach [e] X.env = (false, eval e X.env) :: starEach [] X.env := by rfl) : HA X C [e] as O m (fun x => [P x]) := ⟨pa_weak (pa_cons h.pe pa_nil hs) fun σ H Q ⟨s, S, st, sl, ow, q⟩ =>
  ⟨s, S, st, sl, ow, R.post_mono q (fun z k _ v S' H' l' st' ow' pv => k [v] S' H' l' st' ow' ⟨pv, trivial⟩) fun _ z => xq_le z⟩⟩
theorem ha_cons {m1 : SM ς α} {m2 : SM ς β} {P : α → VP} {Ps : β → List VP} (h : HX X C e as O m1 P) (hr : HA X C es as O m2 Ps) (hs : starEach (e :: es) X.env = (false, eval e X.env) :: starEach es X.env := by rfl) : HA X C (e :: es) as O (SM.map2 Prod.mk m1 m2) (fun x => P x.1 :: Ps x.2) :=
  ⟨pa_weak (pa_cons h.pe hr.pa hs) fun σ H Q ⟨s, S, st, sl, ow, q⟩ =>
  ⟨s, S, st, sl, ow, R.post_mono (R.post_bind.mp q) (fun z k _ v S' H' l' st' ow' pv =>
    ⟨z.2, S', st', sl.mono l', ow', R.post_mono (R.post_bind.mp k) (fun w k2 vs S2 H2 l2 st2 ow2 pvs => k2 (v :: vs) S2 H2 (l'.trans l2) st2 ow2 ⟨(P z.1).mono l2 pv, pvs⟩) fun _ z => xq_le z⟩) fun _ z => xq_le z⟩⟩
theorem hl_nil {r : Rp α} {w : Bool} : HA X C [] as O (SM.ret ([] : List α)) (fun xs => xs.map (VP.at w r)) := ⟨pa_weak pa_nil fun σ H Q ⟨s, S, st, sl, ow, q⟩ => q [] S H (.refl S) st ow trivial⟩
theorem hl_cons {m1 : SM ς α} {m2 : SM ς (List α)} {r : Rp α} {w : Bool} (h : HX X C e as O m1 (VP.at w r)) (hr : HA X C es as O m2 (fun xs => xs.map (VP.at w r))) (hs : starEach (e :: es) X.env = (false, eval e X.env) :: starEach es X.env := by rfl) : HA X C (e :: es) as O (SM.map2 List.cons m1 m2) (fun xs => xs.map (VP.at w r)) :=
  ⟨pa_weak (pa_cons h.pe hr.pa hs) fun σ H Q ⟨s, S, st, sl, ow, q⟩ =>
  ⟨s, S, st, sl, ow, R.post_mono (R.post_bind.mp q) (fun z k _ v S' H' l' st' ow' pv =>
    ⟨z.2, S', st', sl.mono l', ow', R.post_mono (R.post_bind.mp k) (fun w' k2 vs S2 H2 l2 st2 ow2 pvs => k2 (v :: vs) S2 H2 (l'.trans l2) st2 ow2 ⟨(VP.at w r z.1).mono l2 pv, pvs⟩) fun _ z => xq_le z⟩) fun _ z => xq_le z⟩⟩
theorem AV.len_map {r : Rp α} {S : Sv} {w : Bool} {xs : List α} {vs : List V} (h : AV S vs (xs.map (VP.at w r))) : vs.length = xs.length := by rw [h.length, List.length_map]
/-- a list as a display: at most 16 items are written -/
theorem hn_lst {m : SM ς (List α)} {r : Rp α} (h : HA X C es as O m (fun xs => xs.map (VP.at true r))) : HN X C (.List es pos) as O (SM.bnd1 (fun xs => (R.guard (xs.length ≤ 16777216)).bind fun _ => .ok xs) m) (cLst r) := ⟨pe_weak (pe_lst h.pa) fun σ H Q ⟨s, S, st, sl, ow, q⟩ =>
  ⟨s, S, st, sl, ow, R.post_mono (R.post_bind.mp q) (fun z k vs S' H' l' st' ow' pv => by
    obtain ⟨hz, k⟩ := R.guard_post.mp (R.post_bind.mp (R.post_bind.mp k))
    refine ⟨by rw [pv.len_map, sizeLine_eq]; exact hz, fun p hp => ?_⟩
    exact k p (.ref p) S' _ l' (st'.grow hp) (ow'.new st' hp ⟨vs, rfl, pv.a2⟩) rfl) fun _ z => xq_le z⟩⟩
theorem hn_nil {r : Rp α} : HN X C (.List [] pos) as O (SM.ret ([] : List α)) (cLst r) := ⟨pe_weak (pe_lst pa_nil) fun σ H Q ⟨s, S, st, sl, ow, q⟩ =>
  ⟨Nat.zero_le _, fun p hp => q p (.ref p) S _ (.refl S) (st.grow hp) (ow.new st hp ⟨[], rfl, trivial⟩) rfl⟩⟩
theorem hx_tup {m : SM ς α} {t : RT α} {w : Bool} (h : HA X C es as O m (t.vps w)) (hn : t.n ≤ 16777216 := by decide) : HX X C (.Tuple es 0 pos) as O m (VP.at w (rTup X.K t)) := ⟨pe_weak (pe_tup h.pa) fun σ H Q ⟨s, S, st, sl, ow, q⟩ =>
  ⟨s, S, st, sl, ow, R.post_mono q (fun z k vs S' H' l' st' ow' pv => by
    have hr := t.law pv
    refine ⟨by rw [t.len hr, sizeLine_eq]; exact hn, fun p hp => ?_⟩
    have l2 : S'.le (S'.add p (.tup vs)) := st'.leF hp
    exact k () (.ref p) (S'.add p (.tup vs)) _ (l'.trans l2) (st'.newF hp) (ow'.newF st' hp) ⟨p, vs, rfl, .inl (.inl (Sv.add_at w)), t.mono (l2.at w) hr⟩) fun _ z => xq_le z⟩⟩
end
end Y

/-! Y: items, slices, dicts, len and other built-ins. -/
namespace Y
open PySem PySem.Spec PyProof.Rows L2

section
variable {α β γ : Type} {K : PySem.W.Frag}
theorem A2.atI {r : Rp α} {H : Hp} {xs : List α} {vs : List V} {i : Int} {a : α} (h : A2 r H xs vs) (e : atI xs i = some a) : ∃ v, atI vs i = some v ∧ r.rep a v H := by
  unfold L2.atI at e ⊢
  rw [← h.length]
  cases q : ixN xs.length i with
  | none => rw [q] at e; cases e
  | some j =>
    rw [q] at e
    exact h.get (show xs[j]? = some a from e)
/-! ### dicts as lists of pairs -/
def dget {κ : Type} [DecidableEq κ] (d : List (κ × α)) (k : κ) : Option α := (d.find? fun e => decide (e.1 = k)).map (·.2)
def dput {κ : Type} [DecidableEq κ] (d : List (κ × α)) (k : κ) (a : α) : List (κ × α) := if (d.any fun e => decide (e.1 = k)) = true then d.map (fun e => if e.1 = k then (e.1, a) else e) else d ++ [(k, a)]
def ddrop {κ : Type} [DecidableEq κ] (d : List (κ × α)) (k : κ) : List (κ × α) := d.filter fun e => decide (e.1 ≠ k)
section
variable {κ δ : Type} [DecidableEq κ] [DecidableEq δ] {f : κ → δ} {r : Rp α} {H : Hp}
theorem AD.val (inj : ∀ {a b}, f a = f b → a = b) (k : κ) : ∀ {d : List (κ × α)} {kvs : List (δ × V)}, AD f r H d kvs → match dget d k with
    | none => valV kvs (f k) = none
    | some a => ∃ v, valV kvs (f k) = some v ∧ r.rep a v H
  | [], [], _ => rfl
  | e :: d, kv :: kvs, h => by
    have ih := AD.val inj k h.2.2
    by_cases q : e.1 = k
    · have e1 : dget (e :: d) k = some e.2 := by simp [dget, List.find?_cons, q]
      rw [e1]
      exact ⟨kv.2, valV_pos (h.1.trans (congrArg f q)), h.2.1⟩
    · have e1 : dget (e :: d) k = dget d k := by simp [dget, List.find?_cons, q]
      rw [e1, valV_neg (fun z => q (inj (h.1.symm.trans z)))]
      exact ih
  | [], _ :: _, h => h.elim
  | _ :: _, [], h => h.elim
theorem AD.get (inj : ∀ {a b}, f a = f b → a = b) {k : κ} {d : List (κ × α)} {kvs : List (δ × V)} {a : α} (h : AD f r H d kvs) (e : dget d k = some a) : ∃ v, valV kvs (f k) = some v ∧ r.rep a v H := by
  have z := h.val inj k
  rw [e] at z; exact z
theorem AD.isSome (inj : ∀ {a b}, f a = f b → a = b) {k : κ} {d : List (κ × α)} {kvs : List (δ × V)} (h : AD f r H d kvs) : (valV kvs (f k)).isSome = (dget d k).isSome := by
  have z := h.val inj k
  cases e : dget d k with
  | none => rw [e] at z; rw [z]; rfl
  | some a => rw [e] at z; obtain ⟨v, z, _⟩ := z; rw [z]; rfl
theorem AD.any (inj : ∀ {a b}, f a = f b → a = b) {k : κ} : ∀ {d : List (κ × α)} {kvs : List (δ × V)}, AD f r H d kvs → (kvs.any fun e => decide (e.1 = f k)) = (d.any fun e => decide (e.1 = k))
  | [], [], _ => rfl
  | e :: d, kv :: kvs, h => by
    rw [List.any_cons, List.any_cons, AD.any inj h.2.2]
    have : decide (kv.1 = f k) = decide (e.1 = k) := by
      by_cases q : e.1 = k
      · rw [decide_eq_true q, decide_eq_true (h.1.trans (congrArg f q))]
      · rw [decide_eq_false q, decide_eq_false fun z => q (inj (h.1.symm.trans z))]
    rw [this]
  | [], _ :: _, h => h.elim
  | _ :: _, [], h => h.elim
theorem AD.snoc {k : κ} {a : α} {v : V} (hr : r.rep a v H) : ∀ {d : List (κ × α)} {kvs : List (δ × V)}, AD f r H d kvs → AD f r H (d ++ [(k, a)]) (kvs ++ [(f k, v)])
  | [], [], _ => ⟨rfl, hr, trivial⟩
  | e :: d, kv :: kvs, h => ⟨h.1, h.2.1, AD.snoc hr h.2.2⟩
  | [], _ :: _, h => h.elim
  | _ :: _, [], h => h.elim
theorem AD.repl (inj : ∀ {a b}, f a = f b → a = b) {k : κ} {a : α} {v : V} (hr : r.rep a v H) : ∀ {d : List (κ × α)} {kvs : List (δ × V)}, AD f r H d kvs → AD f r H (d.map fun e => if e.1 = k then (e.1, a) else e) (kvs.map fun e => if e.1 = f k then (e.1, v) else e)
  | [], [], _ => trivial
  | e :: d, kv :: kvs, h => by
    rw [List.map_cons, List.map_cons]
    refine ⟨?_, ?_, AD.repl inj hr h.2.2⟩
    · by_cases q : e.1 = k
      · rw [if_pos q, if_pos (h.1.trans (congrArg f q))]; exact h.1
      · rw [if_neg q, if_neg fun z => q (inj (h.1.symm.trans z))]; exact h.1
    · by_cases q : e.1 = k
      · rw [if_pos q, if_pos (h.1.trans (congrArg f q))]; exact hr
      · rw [if_neg q, if_neg fun z => q (inj (h.1.symm.trans z))]; exact h.2.1
  | [], _ :: _, h => h.elim
  | _ :: _, [], h => h.elim
theorem AD.put (inj : ∀ {a b}, f a = f b → a = b) {k : κ} {a : α} {v : V} (hr : r.rep a v H) {d : List (κ × α)} {kvs : List (δ × V)} (h : AD f r H d kvs) : AD f r H (dput d k a) (putK kvs (f k) v) := by
  unfold dput putK
  rw [h.any inj]
  by_cases q : (d.any fun e => decide (e.1 = k)) = true
  · rw [if_pos q, if_pos q]; exact h.repl inj hr
  · rw [if_neg q, if_neg q]; exact h.snoc hr
theorem AD.drop (inj : ∀ {a b}, f a = f b → a = b) {k : κ} : ∀ {d : List (κ × α)} {kvs : List (δ × V)}, AD f r H d kvs → AD f r H (ddrop d k) (dropK kvs (f k))
  | [], [], _ => trivial
  | e :: d, kv :: kvs, h => by
    have ih := AD.drop (k := k) inj h.2.2
    unfold ddrop dropK at ih ⊢
    rw [List.filter_cons, List.filter_cons]
    by_cases q : e.1 = k
    · have q2 : kv.1 = f k := h.1.trans (congrArg f q)
      rw [if_neg (by simp [q]), if_neg (by simp [q2])]; exact ih
    · have q2 : ¬ kv.1 = f k := fun z => q (inj (h.1.symm.trans z))
      rw [if_pos (by simp [q]), if_pos (by simp [q2])]; exact ⟨h.1, h.2.1, ih⟩
  | [], _ :: _, h => h.elim
  | _ :: _, [], h => h.elim
end
end

section
variable {ς α β γ δ π τ : Type} {X : Cx} {C : Cf} {as : SA} {O : ς → OS} {a b c e : Expr} {es : List Expr} {pos : Pos} {w w1 w2 : Bool}
/-! ### items -/
def getI (xs : List α) (i : Int) : R α := R.ofO (atI xs i)
theorem hx_idx {r : Rp α} {m1 : SM ς (List α)} {m2 : SM ς Int} (ha : HX X C a as O m1 (VP.at w (rLst X.K r))) (hb : HX X C b as O m2 (VP.at w2 rInt)) (hs : PlainIx b := by exact fun _ _ => rfl) : HX X C (.Subscript a b pos) as O (SM.bnd2 getI m1 m2) (VP.at w r) :=
  hg_ix ix_list (fun x y v u S H os Q st ow h1 h2 q => by
    obtain ⟨z, hz, q⟩ := q.ofO1
    obtain ⟨p, vs, e1, hl, h3⟩ := h1
    obtain ⟨v', hv, hr⟩ := h3.atI hz
    exact ⟨p, vs, y, v', e1, h2, (st.atH w).seq hl, hv, q.imm st ow hr⟩) ha hb hs
/-- an item of a tuple by its written place -/
theorem hx_tix {t : RT τ} {r : Rp β} {f : τ → β} {k : Nat} {m : SM ς τ} {j : Nat} {pi : Pos} (hc : ∀ x vs H, t.rep x vs H → ∃ v, vs[k]? = some v ∧ r.rep (f x) v H) (ha : HX X C a as O m (VP.at w (rTup X.K t))) :
    HX X C (.Subscript a (.Constant (.int (k : Int)) j pi) pos) as O (SM.map1 f m) (VP.at w r) := ⟨pe_weak (pe_ix ix_tup ha.pe pe_int (fun _ _ => rfl)) fun σ H Q ⟨s, S, st, sl, ow, q⟩ =>
  ⟨s, S, st, sl, ow, R.post_mono (R.post_bind.mp q) (fun z k' _ v S' H' l' st' ow' pv => by
    obtain ⟨p, vs, e1, hl, h3⟩ := pv
    obtain ⟨v', hv, hr⟩ := hc _ _ _ h3
    exact ⟨p, vs, k, v', e1, rfl, (st'.atH w).tup hl, atI_nat hv, k' () v' S' H' l' st' ow' hr⟩) fun _ z => xq_le z⟩⟩
theorem tg_one {r : Rp α} : ∀ x vs H, (RT.one r).rep x vs H → ∃ v, vs[0]? = some v ∧ r.rep x v H := fun x vs H ⟨v, e1, h⟩ => ⟨v, by rw [e1]; rfl, h⟩
theorem tg_0 {r : Rp α} {t : RT β} : ∀ x vs H, (RT.cons r t).rep x vs H → ∃ v, vs[0]? = some v ∧ r.rep x.1 v H := fun x vs H ⟨v, ws, e1, h, _⟩ => ⟨v, by rw [e1]; rfl, h⟩
theorem tg_s {r : Rp α} {t : RT β} {r' : Rp γ} {f : β → γ} {k : Nat} (h : ∀ x vs H, t.rep x vs H → ∃ v, vs[k]? = some v ∧ r'.rep (f x) v H) : ∀ x vs H, (RT.cons r t).rep x vs H → ∃ v, vs[k + 1]? = some v ∧ r'.rep (f x.2) v H := fun x vs H ⟨v, ws, e1, _, h2⟩ => by
  obtain ⟨v', e2, h3⟩ := h _ _ _ h2
  exact ⟨v', by rw [e1]; exact e2, h3⟩
def strAt (z : Str) (i : Int) : R Str := (R.guard (z.length ≤ 16777216)).bind fun _ => (R.ofO (atI z.cps.toList i)).bind fun c => .ok ⟨#[c]⟩
theorem hx_sidx {m1 : SM ς Str} {m2 : SM ς Int} (ha : HX X C a as O m1 (VP.at w rStr)) (hb : HX X C b as O m2 (VP.at w2 rInt)) (hs : PlainIx b := by exact fun _ _ => rfl) : HX X C (.Subscript a b pos) as O (SM.bnd2 strAt m1 m2) (VP.at true rStr) :=
  hg_ix ix_str (fun x y v u S H os Q st ow h1 h2 q => by
    obtain ⟨hz, q⟩ := q.guard
    obtain ⟨c, hc, q⟩ := q.ofO
    exact ⟨x, y, c, h1, h2, by rw [sizeLine_eq]; exact hz, hc, q.imm st ow rfl⟩) ha hb hs
/-! ### slices -/
def tO (C : Cf) (as : SA) (O : ς → OS) (m : SM ς (Option Int)) : TO := fun σ H Q =>
  ∃ (s : ς) (S : Sv), StOk C.B S H ∧ Sl S σ as ∧ OwL C.B S H (O s) ∧
    (m s).post (fun z => ∀ (S' : Sv) (H' : Hp), S.le S' → StOk C.B S' H' → OwL C.B S' H' (O z.2) → Q z.1 H') (C.xq S)
structure HO' (X : Cx) (C : Cf) (e : Option Expr) (as : SA) (O : ς → OS) (m : SM ς (Option Int)) : Prop where
  po : PO X e (tO C as O m)
theorem po_weak {e : Option Expr} {t t' : TO} (h : PO X e t) (w : ∀ σ H Q, t' σ H Q → t σ H Q) : PO X e t' := ⟨fun pins s σ H Q I q => h.run pins s σ H Q I (w σ H Q q)⟩
theorem ho_none : HO' X C none as O (SM.ret none) := ⟨po_weak po_none fun σ H Q ⟨s, S, st, sl, ow, q⟩ => q S H (.refl S) st ow⟩
theorem ho_some {m : SM ς Int} (h : HX X C e as O m (VP.at w rInt)) : HO' X C (some e) as O (SM.map1 some m) := ⟨po_weak (po_some h.pe) fun σ H Q ⟨s, S, st, sl, ow, q⟩ =>
  ⟨s, S, st, sl, ow, R.post_mono (R.post_bind.mp q) (fun z k _ v S' H' l' st' ow' pv => ⟨z.1, pv, k S' H' l' st' ow'⟩) fun _ z => xq_le z⟩⟩
def SM.map3 (f : α → β → γ → δ) (m : SM ς α) (n : SM ς β) (o : SM ς γ) : SM ς δ := fun s => (m s).bind fun z => (n z.2).bind fun w => (o w.2).bind fun u => .ok (f z.1 w.1 u.1, u.2)
def cutL (xs : List α) (lo hi : Option Int) : List α := (xs.drop (HT.sIx xs.length 0 lo)).take (HT.sIx xs.length xs.length hi - HT.sIx xs.length 0 lo)
theorem A2.cut {r : Rp α} {H : Hp} {xs : List α} {vs : List V} (h : A2 r H xs vs) (lo hi : Option Int) : A2 r H (cutL xs lo hi) (cutV vs lo hi) := by
  unfold cutL cutV
  rw [← h.length]
  exact (h.drop _).take _
/-- a part of a list: new; frozen parts -/
theorem hn_cut {r : Rp α} {m : SM ς (List α)} {lo hi : Option Expr} {ml mh : SM ς (Option Int)} {p2 : Pos} (ha : HX X C a as O m (VP.at true (rLst X.K r))) (hl : HO' X C lo as O ml) (hh : HO' X C hi as O mh) : HN X C (.Subscript a (.Slice lo hi none p2) pos) as O (SM.map3 cutL m ml mh) (cLst r) :=
  ⟨pe_weak (pe_slice sl_list ha.pe hl.po hh.po) fun σ H Q ⟨s, S, st, sl, ow, q⟩ =>
  ⟨s, S, st, sl, ow, R.post_mono (R.post_bind.mp q) (fun z k _ v S1 H1 l1 st1 ow1 pv =>
    ⟨z.2, S1, st1, sl.mono l1, ow1, R.post_mono (R.post_bind.mp k) (fun w k2 S2 H2 l2 st2 ow2 =>
      ⟨w.2, S2, st2, (sl.mono l1).mono l2, ow2, R.post_mono (R.post_bind.mp k2) (fun u k3 S3 H3 l3 st3 ow3 => by
        obtain ⟨p, vs, e1, hl, h3⟩ := pv
        have l13 := l2.trans l3
        refine ⟨p, vs, e1, (st3.atH true).seq ((l13.at true).seq hl), fun p' hp => ?_⟩
        exact k3 p' (.ref p') S3 _ (l1.trans l13) (st3.grow hp) (ow3.new st3 hp ⟨_, rfl, (h3.mono l13.g).cut _ _⟩) rfl) fun _ z => xq_le z⟩) fun _ z => xq_le z⟩) fun _ z => xq_le z⟩⟩
/-- .. of items that are not frozen -/
theorem hx_cutS {m : SM ς (List Str)} {lo hi : Option Expr} {ml mh : SM ς (Option Int)} {p2 : Pos} (ha : HX X C a as O m (VP.at false (rLst X.K rStr))) (hl : HO' X C lo as O ml) (hh : HO' X C hi as O mh) : HN X C (.Subscript a (.Slice lo hi none p2) pos) as O (SM.map3 cutL m ml mh) (cLst rStr) :=
  ⟨pe_weak (pe_slice sl_list ha.pe hl.po hh.po) fun σ H Q ⟨s, S, st, sl, ow, q⟩ =>
  ⟨s, S, st, sl, ow, R.post_mono (R.post_bind.mp q) (fun z k _ v S1 H1 l1 st1 ow1 pv =>
    ⟨z.2, S1, st1, sl.mono l1, ow1, R.post_mono (R.post_bind.mp k) (fun w k2 S2 H2 l2 st2 ow2 =>
      ⟨w.2, S2, st2, (sl.mono l1).mono l2, ow2, R.post_mono (R.post_bind.mp k2) (fun u k3 S3 H3 l3 st3 ow3 => by
        obtain ⟨p, vs, e1, hl, h3⟩ := pv
        have l13 := l2.trans l3
        refine ⟨p, vs, e1, (st3.atH false).seq ((l13.at false).seq hl), fun p' hp => ?_⟩
        have h4 : A2 rStr S3.g z.1 vs := by
          have q := h3.str
          subst q
          exact A2.ofStr z.1
        exact k3 p' (.ref p') S3 _ (l1.trans l13) (st3.grow hp) (ow3.new st3 hp ⟨_, rfl, h4.cut _ _⟩) rfl) fun _ z => xq_le z⟩) fun _ z => xq_le z⟩) fun _ z => xq_le z⟩⟩
/-! ### built-in functions and classes -/
theorem hg_callB {id : String} {x : Str} {p : Pos} {r : List V → Hp → VK → Prop} {m : SM ς α} {Ps : α → List VP} {f : α → R γ} {P : γ → π → VP} {nw : γ → π → OS} (hc : CallR X (.builtin id) r) (hv : OVA C r Ps f P nw) (hm : X.mg x = none) (hb : bootBuiltins x = some (.builtin id)) (ha : HA X C (e :: es) as O m Ps)
    (hg : Gl X x := by rfl) (hn : x ≠ "__name__" := by decide) (hdb : (x == ("__debug__" : Str)) = false := by decide)
    (he : starEach (e :: es) X.env = (false, eval e X.env) :: starEach es X.env := by rfl) (hpl : (backTo pos (starEach es X.env)).any (·.1) = false := by rfl) : HG X C (.Call (.Name x p) (e :: es) [] pos) as O (SM.bnd1 f m) P nw :=
  ⟨pe_weak (pe_callB hc hg hm hb ha.pa hn hdb he hpl) fun σ H Q ⟨s, S, st, sl, ow, q⟩ =>
  ⟨s, S, st, sl, ow, R.post_mono (R.post_bind.mp q) (fun z k vs S1 H1 l1 st1 ow1 pv => hv z.1 vs S1 H1 (O z.2) Q st1 ow1 pv (R.post_mono (R.post_bind.mp k) (fun w k2 q v S2 H2 l2 st2 ow2 p2 => k2 q v S2 H2 (l1.trans l2) st2 ow2 p2) fun _ z => xq_le z)) fun _ z => xq_le z⟩⟩
theorem hg_callT {T : String} {x : Str} {p : Pos} {r : List V → Hp → VK → Prop} {m : SM ς α} {Ps : α → List VP} {f : α → R γ} {P : γ → π → VP} {nw : γ → π → OS} (hc : CallR X (.type T) r) (hv : OVA C r Ps f P nw) (hm : X.mg x = none) (hb : bootBuiltins x = some (.type T)) (ha : HA X C (e :: es) as O m Ps)
    (hg : Gl X x := by rfl) (hn : x ≠ "__name__" := by decide) (hdb : (x == ("__debug__" : Str)) = false := by decide)
    (he : starEach (e :: es) X.env = (false, eval e X.env) :: starEach es X.env := by rfl) (hpl : (backTo pos (starEach es X.env)).any (·.1) = false := by rfl) : HG X C (.Call (.Name x p) (e :: es) [] pos) as O (SM.bnd1 f m) P nw :=
  ⟨pe_weak (pe_callTy hc hg hm hb ha.pa hn hdb he hpl) fun σ H Q ⟨s, S, st, sl, ow, q⟩ =>
  ⟨s, S, st, sl, ow, R.post_mono (R.post_bind.mp q) (fun z k vs S1 H1 l1 st1 ow1 pv => hv z.1 vs S1 H1 (O z.2) Q st1 ow1 pv (R.post_mono (R.post_bind.mp k) (fun w k2 q v S2 H2 l2 st2 ow2 p2 => k2 q v S2 H2 (l1.trans l2) st2 ow2 p2) fun _ z => xq_le z)) fun _ z => xq_le z⟩⟩
theorem av1 {S : Sv} {vs : List V} {P : VP} (h : AV S vs [P]) : ∃ v, vs = [v] ∧ P.p v S := match vs, h with
  | [v], h => ⟨v, rfl, h.1⟩
theorem av2 {S : Sv} {vs : List V} {P Q : VP} (h : AV S vs [P, Q]) : ∃ v u, vs = [v, u] ∧ P.p v S ∧ Q.p u S := match vs, h with
  | [v, u], h => ⟨v, u, rfl, h.1, h.2.1⟩
variable {x : Str} {p : Pos}
abbrev xLen : Str := "len"
/-- len of a list -/
theorem hx_lenL {r : Rp α} {m : SM ς (List α)} (hm : X.mg "len" = none) (ha : HX X C e as O m (VP.at w (rLst X.K r))) (hg : Gl X "len" := by rfl)
    (he : starEach [e] X.env = (false, eval e X.env) :: starEach [] X.env := by rfl) (hpl : (backTo pos (starEach [] X.env)).any (·.1) = false := by rfl) : HX X C (.Call (.Name "len" p) [e] [] pos) as O (SM.map1 (fun xs => (xs.length : Int)) m) (VP.at true rInt) :=
  hg_callB (f := fun xs => .ok (xs.length : Int)) call_len_seq (fun x vs S H os Q st ow h q => by
    obtain ⟨v, e1, pv⟩ := av1 h
    subst e1
    obtain ⟨p, vs, e2, hl, h3⟩ := pv
    subst e2
    exact ⟨p, vs, rfl, .inl ((st.atH w).seq hl), q.imm st ow (by show V.int _ = V.int _; rw [h3.length])⟩) hm boot_len (ha_one ha he) hg (by decide) (by decide) he hpl
theorem hx_lenT {t : RT α} {m : SM ς α} (hm : X.mg "len" = none) (ha : HX X C e as O m (VP.at w (rTup X.K t))) (hg : Gl X "len" := by rfl)
    (he : starEach [e] X.env = (false, eval e X.env) :: starEach [] X.env := by rfl) (hpl : (backTo pos (starEach [] X.env)).any (·.1) = false := by rfl) : HX X C (.Call (.Name "len" p) [e] [] pos) as O (SM.map1 (fun _ => (t.n : Int)) m) (VP.at true rInt) :=
  hg_callB (f := fun _ => .ok (t.n : Int)) call_len_seq (fun x vs S H os Q st ow h q => by
    obtain ⟨v, e1, pv⟩ := av1 h
    subst e1
    obtain ⟨p, vs, e2, hl, h3⟩ := pv
    subst e2
    exact ⟨p, vs, rfl, .inr ((st.atH w).tup hl), q.imm st ow (by show V.int _ = V.int _; rw [t.len h3])⟩) hm boot_len (ha_one ha he) hg (by decide) (by decide) he hpl
def lenS (s : Str) : R Int := (R.guard (s.length ≤ 16777216)).bind fun _ => .ok (s.length : Int)
theorem hx_lenS {m : SM ς Str} (hm : X.mg "len" = none) (ha : HX X C e as O m (VP.at w rStr)) (hg : Gl X "len" := by rfl)
    (he : starEach [e] X.env = (false, eval e X.env) :: starEach [] X.env := by rfl) (hpl : (backTo pos (starEach [] X.env)).any (·.1) = false := by rfl) : HX X C (.Call (.Name "len" p) [e] [] pos) as O (SM.bnd1 lenS m) (VP.at true rInt) :=
  hg_callB call_len_str (fun x vs S H os Q st ow h q => by
    obtain ⟨v, e1, pv⟩ := av1 h
    subst e1
    have e2 : v = .str x := pv
    subst e2
    obtain ⟨hz, q⟩ := q.guard
    exact ⟨x, rfl, by rw [sizeLine_eq]; exact hz, q.imm st ow rfl⟩) hm boot_len (ha_one ha he) hg (by decide) (by decide) he hpl
theorem hx_sum {m : SM ς (List Int)} (o : X.calm = true) (hm : X.mg "sum" = none) (ha : HX X C e as O m (VP.at w (rLst X.K rInt))) (hg : Gl X "sum" := by rfl)
    (he : starEach [e] X.env = (false, eval e X.env) :: starEach [] X.env := by rfl) (hpl : (backTo pos (starEach [] X.env)).any (·.1) = false := by rfl) : HX X C (.Call (.Name "sum" p) [e] [] pos) as O (SM.map1 List.sum m) (VP.at true rInt) :=
  hg_callB (f := fun xs => .ok xs.sum) (cr_sum o) (fun x vs S H os Q st ow h q => by
    obtain ⟨v, e1, pv⟩ := av1 h
    subst e1
    obtain ⟨p, vs, e2, hl, h3⟩ := pv
    subst e2
    have e3 := h3.int
    subst e3
    exact ⟨p, x, rfl, (st.atH w).seq hl, q.imm st ow rfl⟩) hm (by decide +kernel) (ha_one ha he) hg (by decide) (by decide) he hpl
/-- the least one; the greatest one -/
def minL : List Int → R Int
  | [] => .no
  | x :: xs => .ok (xs.foldl (fun a b => if b < a then b else a) x)
def maxL : List Int → R Int
  | [] => .no
  | x :: xs => .ok (xs.foldl (fun a b => if b > a then b else a) x)
theorem min_fold : ∀ (xs : List Int) (x : Int), (xs.foldl (fun a b => if b < a then b else a) x) ∈ x :: xs ∧ ∀ y ∈ x :: xs, (xs.foldl (fun a b => if b < a then b else a) x) ≤ y
  | [], x => ⟨List.mem_cons_self, fun y h => by simp at h; subst h; exact Int.le_refl _⟩
  | z :: xs, x => by
    rw [List.foldl_cons]
    by_cases h : z < x
    · rw [if_pos h]
      obtain ⟨h1, h2⟩ := min_fold xs z
      refine ⟨List.mem_cons_of_mem _ h1, fun y hy => ?_⟩
      rcases List.mem_cons.mp hy with e | e
      · subst e; exact Int.le_trans (h2 z List.mem_cons_self) (Int.le_of_lt h)
      · exact h2 y e
    · rw [if_neg h]
      obtain ⟨h1, h2⟩ := min_fold xs x
      refine ⟨?_, fun y hy => ?_⟩
      · rcases List.mem_cons.mp h1 with e | e
        · rw [e]; exact List.mem_cons_self
        · exact List.mem_cons_of_mem _ (List.mem_cons_of_mem _ e)
      · rcases List.mem_cons.mp hy with e | e
        · subst e; exact h2 _ List.mem_cons_self
        · rcases List.mem_cons.mp e with e | e
          · subst e; exact Int.le_trans (h2 x List.mem_cons_self) (Int.not_lt.mp h)
          · exact h2 y (List.mem_cons_of_mem _ e)
theorem max_fold : ∀ (xs : List Int) (x : Int), (xs.foldl (fun a b => if b > a then b else a) x) ∈ x :: xs ∧ ∀ y ∈ x :: xs, y ≤ (xs.foldl (fun a b => if b > a then b else a) x)
  | [], x => ⟨List.mem_cons_self, fun y h => by simp at h; subst h; exact Int.le_refl _⟩
  | z :: xs, x => by
    rw [List.foldl_cons]
    by_cases h : z > x
    · rw [if_pos h]
      obtain ⟨h1, h2⟩ := max_fold xs z
      refine ⟨List.mem_cons_of_mem _ h1, fun y hy => ?_⟩
      rcases List.mem_cons.mp hy with e | e
      · subst e; exact Int.le_trans (Int.le_of_lt h) (h2 z List.mem_cons_self)
      · exact h2 y e
    · rw [if_neg h]
      obtain ⟨h1, h2⟩ := max_fold xs x
      refine ⟨?_, fun y hy => ?_⟩
      · rcases List.mem_cons.mp h1 with e | e
        · rw [e]; exact List.mem_cons_self
        · exact List.mem_cons_of_mem _ (List.mem_cons_of_mem _ e)
      · rcases List.mem_cons.mp hy with e | e
        · subst e; exact h2 _ List.mem_cons_self
        · rcases List.mem_cons.mp e with e | e
          · subst e; exact Int.le_trans (Int.not_lt.mp h) (h2 x List.mem_cons_self)
          · exact h2 y (List.mem_cons_of_mem _ e)
theorem hx_minL {m : SM ς (List Int)} (o : X.calm = true) (hm : X.mg "min" = none) (ha : HX X C e as O m (VP.at w (rLst X.K rInt))) (hg : Gl X "min" := by rfl)
    (he : starEach [e] X.env = (false, eval e X.env) :: starEach [] X.env := by rfl) (hpl : (backTo pos (starEach [] X.env)).any (·.1) = false := by rfl) : HX X C (.Call (.Name "min" p) [e] [] pos) as O (SM.bnd1 minL m) (VP.at true rInt) :=
  hg_callB (cr_min o) (fun x vs S H os Q st ow h q => by
    obtain ⟨v, e1, pv⟩ := av1 h
    subst e1
    obtain ⟨p, vs, e2, hl, h3⟩ := pv
    subst e2
    have e3 := h3.int
    subst e3
    cases x with
    | nil => exact q.elim
    | cons x xs =>
      refine ⟨p, x :: xs, rfl, (st.atH w).seq hl, Nat.succ_pos _, fun k hk hle => ?_⟩
      obtain ⟨f1, f2⟩ := min_fold xs x
      have ek : k = xs.foldl (fun a b => if b < a then b else a) x := Int.le_antisymm (hle _ f1) (f2 _ hk)
      exact q.imm st ow (by show V.int _ = V.int _; rw [ek])) hm (by decide +kernel) (ha_one ha he) hg (by decide) (by decide) he hpl
theorem hx_maxL {m : SM ς (List Int)} (o : X.calm = true) (hm : X.mg "max" = none) (ha : HX X C e as O m (VP.at w (rLst X.K rInt))) (hg : Gl X "max" := by rfl)
    (he : starEach [e] X.env = (false, eval e X.env) :: starEach [] X.env := by rfl) (hpl : (backTo pos (starEach [] X.env)).any (·.1) = false := by rfl) : HX X C (.Call (.Name "max" p) [e] [] pos) as O (SM.bnd1 maxL m) (VP.at true rInt) :=
  hg_callB (cr_max o) (fun x vs S H os Q st ow h q => by
    obtain ⟨v, e1, pv⟩ := av1 h
    subst e1
    obtain ⟨p, vs, e2, hl, h3⟩ := pv
    subst e2
    have e3 := h3.int
    subst e3
    cases x with
    | nil => exact q.elim
    | cons x xs =>
      refine ⟨p, x :: xs, rfl, (st.atH w).seq hl, Nat.succ_pos _, fun k hk hle => ?_⟩
      obtain ⟨f1, f2⟩ := max_fold xs x
      have ek : k = xs.foldl (fun a b => if b > a then b else a) x := Int.le_antisymm (f2 _ hk) (hle _ f1)
      exact q.imm st ow (by show V.int _ = V.int _; rw [ek])) hm (by decide +kernel) (ha_one ha he) hg (by decide) (by decide) he hpl
def max2 (z : Int × Int) : Int := if z.2 > z.1 then z.2 else z.1
def min2 (z : Int × Int) : Int := if z.2 < z.1 then z.2 else z.1
theorem hx_max2 {m : SM ς (Int × Int)} (o : X.calm = true) (hm : X.mg "max" = none) (ha : HA X C [a, b] as O m (fun z => [VP.at w1 rInt z.1, VP.at w2 rInt z.2])) (hg : Gl X "max" := by rfl)
    (he : starEach [a, b] X.env = (false, eval a X.env) :: starEach [b] X.env := by rfl) (hpl : (backTo pos (starEach [b] X.env)).any (·.1) = false := by rfl) : HX X C (.Call (.Name "max" p) [a, b] [] pos) as O (SM.map1 max2 m) (VP.at true rInt) :=
  hg_callB (f := fun z => .ok (max2 z)) (call_max2 o) (fun x vs S H os Q st ow h q => by
    obtain ⟨v, u, e1, p1, p2⟩ := av2 h
    have e2 : v = .int x.1 := p1
    have e3 : u = .int x.2 := p2
    subst e1; subst e2; subst e3
    exact ⟨x.1, x.2, rfl, q.imm st ow rfl⟩) hm (by decide +kernel) ha hg (by decide) (by decide) he hpl
theorem hx_min2 {m : SM ς (Int × Int)} (o : X.calm = true) (hm : X.mg "min" = none) (ha : HA X C [a, b] as O m (fun z => [VP.at w1 rInt z.1, VP.at w2 rInt z.2])) (hg : Gl X "min" := by rfl)
    (he : starEach [a, b] X.env = (false, eval a X.env) :: starEach [b] X.env := by rfl) (hpl : (backTo pos (starEach [b] X.env)).any (·.1) = false := by rfl) : HX X C (.Call (.Name "min" p) [a, b] [] pos) as O (SM.map1 min2 m) (VP.at true rInt) :=
  hg_callB (f := fun z => .ok (min2 z)) (call_min2 o) (fun x vs S H os Q st ow h q => by
    obtain ⟨v, u, e1, p1, p2⟩ := av2 h
    have e2 : v = .int x.1 := p1
    have e3 : u = .int x.2 := p2
    subst e1; subst e2; subst e3
    exact ⟨x.1, x.2, rfl, q.imm st ow rfl⟩) hm (by decide +kernel) ha hg (by decide) (by decide) he hpl
def absI (i : Int) : Int := if i < 0 then -i else i
theorem hx_abs {m : SM ς Int} (hm : X.mg "abs" = none) (ha : HX X C e as O m (VP.at w rInt)) (hg : Gl X "abs" := by rfl)
    (he : starEach [e] X.env = (false, eval e X.env) :: starEach [] X.env := by rfl) (hpl : (backTo pos (starEach [] X.env)).any (·.1) = false := by rfl) : HX X C (.Call (.Name "abs" p) [e] [] pos) as O (SM.map1 absI m) (VP.at true rInt) :=
  hg_callB (f := fun z => .ok (absI z)) call_abs (fun x vs S H os Q st ow h q => by
    obtain ⟨v, e1, pv⟩ := av1 h
    have e2 : v = .int x := pv
    subst e1; subst e2
    exact ⟨x, rfl, q.imm st ow rfl⟩) hm (by decide +kernel) (ha_one ha he) hg (by decide) (by decide) he hpl
def b2n (b : Bool) : Int := if b then 1 else 0
theorem hx_intB {m : SM ς Bool} (hm : X.mg "int" = none) (ha : HX X C e as O m (VP.at w rBl)) (hg : Gl X "int" := by rfl)
    (he : starEach [e] X.env = (false, eval e X.env) :: starEach [] X.env := by rfl) (hpl : (backTo pos (starEach [] X.env)).any (·.1) = false := by rfl) : HX X C (.Call (.Name "int" p) [e] [] pos) as O (SM.map1 b2n m) (VP.at true rInt) :=
  hg_callT (f := fun z => .ok (b2n z)) call_int1 (fun x vs S H os Q st ow h q => by
    obtain ⟨v, e1, pv⟩ := av1 h
    have e2 : v = .bl x := pv
    subst e1; subst e2
    exact .inr ⟨x, rfl, q.imm st ow rfl⟩) hm (by decide +kernel) (ha_one ha he) hg (by decide) (by decide) he hpl
def strI (i : Int) : R Str := (R.guard (i.natAbs.log2 < 1920)).bind fun _ => .ok (Str.ofString (toString i))
theorem hx_strI {m : SM ς Int} (hm : X.mg "str" = none) (ha : HX X C e as O m (VP.at w rInt)) (hg : Gl X "str" := by rfl)
    (he : starEach [e] X.env = (false, eval e X.env) :: starEach [] X.env := by rfl) (hpl : (backTo pos (starEach [] X.env)).any (·.1) = false := by rfl) : HX X C (.Call (.Name "str" p) [e] [] pos) as O (SM.bnd1 strI m) (VP.at true rStr) :=
  hg_callT call_str_int (fun x vs S H os Q st ow h q => by
    obtain ⟨v, e1, pv⟩ := av1 h
    have e2 : v = .int x := pv
    subst e1; subst e2
    obtain ⟨hz, q⟩ := q.guard
    exact ⟨x, rfl, hz, q.imm st ow rfl⟩) hm (by decide +kernel) (ha_one ha he) hg (by decide) (by decide) he hpl
/-- list(xs) -/
theorem hn_list {r : Rp α} {m : SM ς (List α)} (hm : X.mg "list" = none) (ha : HX X C e as O m (VP.at true (rLst X.K r))) (hg : Gl X "list" := by rfl)
    (he : starEach [e] X.env = (false, eval e X.env) :: starEach [] X.env := by rfl) (hpl : (backTo pos (starEach [] X.env)).any (·.1) = false := by rfl) : HN X C (.Call (.Name "list" p) [e] [] pos) as O (SM.map1 id m) (cLst r) :=
  hg_callT (f := fun z => .ok (id z)) call_list_of (fun x vs S H os Q st ow h q => by
    obtain ⟨v, e1, pv⟩ := av1 h
    subst e1
    obtain ⟨p, vs, e2, hl, h3⟩ := pv
    subst e2
    exact ⟨p, vs, rfl, .inl ((st.atH true).seq hl), fun l hl => q.newO st ow hl ⟨vs, rfl, h3⟩⟩) hm (by decide +kernel) (ha_one ha he) hg (by decide) (by decide) he hpl
/-- sorted(texts) -/
def leS (a b : Str) : Bool := decide (a.cps.toList ≤ b.cps.toList)
end
end Y

/-! Y: a part of the state lent out, owned things read, blocks. -/
namespace Y
open PySem PySem.Spec PyProof.Rows L2

/-! ### behind something that ran from a base of its own -/
/-- the heap without some of its objects -/
def hide (H : Hp) (own : List Addr) : Hp := fun a => if a ∈ own then none else H a
theorem hide_nil (H : Hp) : hide H [] = H := by funext a; unfold hide; rw [if_neg (by simp)]
theorem hide_in {H : Hp} {own : List Addr} {a : Addr} (h : a ∈ own) : hide H own a = none := if_pos h
theorem hide_out {H : Hp} {own : List Addr} {a : Addr} (h : a ∉ own) : hide H own a = H a := if_neg h
theorem hide_ex {H : Hp} {own : List Addr} : Ex (hide H own) H := fun a o h => by
  unfold hide at h
  by_cases q : a ∈ own
  · rw [if_pos q] at h; cases h
  · rw [if_neg q] at h; exact h
/-- a base for something that runs within -/
abbrev Bs.sub (g h : Hp) (own : List Addr) : Bs := ⟨g, h, own, fun _ => none⟩
/-- the state behind: what was readable, and what is frozen now -/
def Sv.back (S S1 : Sv) : Sv := ⟨S1.g, fun a => (S.y a).or (S1.g a)⟩
section
variable {B : Bs} {S S1 : Sv} {H H1 : Hp} {own : List Addr}
theorem back_y (st : StOk B S H) (st1 : StOk (Bs.sub S.g H own) S1 H1) (hy : ∀ a ∈ own, S.y a = none) : Ex S.y S1.y := fun a o h => st1.b0 a o (st.yh a o h) fun m => by rw [hy a m] at h; cases h
theorem back_le (st1 : StOk (Bs.sub S.g H own) S1 H1) : S.le (S.back S1) := ⟨st1.g0, fun a o h => by
  show (S.y a).or (S1.g a) = some o
  rw [h]; rfl⟩
theorem back_g (st : StOk B S H) (st1 : StOk (Bs.sub S.g H own) S1 H1) (hy : ∀ a ∈ own, S.y a = none) : Ex S1.g (S.back S1).y := fun a o h => by
  show (S.y a).or (S1.g a) = some o
  cases q : S.y a with
  | none => rw [Option.none_or]; exact h
  | some u =>
    have e1 := back_y st st1 hy a u q
    have e2 := st1.gy a o h
    rw [e1] at e2; cases e2; rfl
theorem back_ok (st : StOk B S H) (st1 : StOk (Bs.sub S.g H own) S1 H1) (hy : ∀ a ∈ own, S.y a = none) (hk : ∀ a ∈ own, B.kp a = none) : StOk B (S.back S1) H1 where
  gy := back_g (S1 := S1) st st1 hy
  yh := fun a o h => by
    have h : (S.y a).or (S1.g a) = some o := h
    cases q : S.y a with
    | none => rw [q, Option.none_or] at h; exact st1.yh a o (st1.gy a o h)
    | some u =>
      rw [q] at h
      have e : u = o := by injection h
      subst e
      exact st1.yh a u (back_y st st1 hy a u q)
  g0 := st.g0.trans st1.g0
  b0 := fun a o h n => by
    show (S.y a).or (S1.g a) = some o
    rw [st.b0 a o h n]; rfl
  fr := fun a h n => st1.fr a (st.fr a h n) (st.tr a n)
  tr := fun a n => st1.tr a (st.tr a n)
  kp := fun a o h => by
    obtain ⟨h1, h2⟩ := st.kp a o h
    have no : a ∉ own := fun m => by rw [hk a m] at h; cases h
    refine ⟨st1.yh a o (st1.b0 a o h1 no), ?_⟩
    show (S.y a).or (S1.g a) = none
    rw [h2, Option.none_or]
    exact st1.fr a (st.gy.none h2) (by
      show H a ≠ none
      rw [h1]; intro z; cases z)
theorem back_none (st : StOk B S H) (st1 : StOk (Bs.sub S.g H own) S1 H1) {p : Addr} {o : HO} (h : S.y p = none) (hp : H p = some o) : (S.back S1).y p = none := by
  show (S.y p).or (S1.g p) = none
  rw [h, Option.none_or]
  exact st1.fr p (st.gnone h) (by
    show H p ≠ none
    rw [hp]; intro z; cases z)
/-- what was owned and not lent is as it was -/
theorem back_ow (st : StOk B S H) (st1 : StOk (Bs.sub S.g H own) S1 H1) {os : OS} (ow : OwL B S H os) (n : ∀ e ∈ os, e.p ∉ own) : OwL B (S.back S1) H1 os :=
  ow.move (back_le st1) (fun e m => by
    obtain ⟨h1, ⟨o, h2, _⟩, _⟩ := ow.mem m
    exact back_none st st1 h1 h2) (fun e m o h => st1.yh _ _ (st1.b0 _ _ h (n e m))) (fun _ _ _ z => z) fun _ _ z => z
/-- what is owned there is owned here -/
theorem back_in (st1 : StOk (Bs.sub S.g H own) S1 H1) : ∀ {os : OS}, OwL (Bs.sub S.g H own) S1 H1 os → (∀ e ∈ os, e.f = true → H e.p = none → B.h e.p = none) → (∀ e ∈ os, S.y e.p = none) → (∀ e ∈ os, B.kp e.p = none) → OwL B (S.back S1) H1 os
  | [], _, _, _, _ => trivial
  | a :: r, ow, hb, hy, hk => by
    obtain ⟨h1, h2, h4, h5, h6⟩ := ow
    refine ⟨?_, h2, ⟨fun q => hb a List.mem_cons_self q (h4.1 q), hk a List.mem_cons_self⟩, h5, back_in st1 h6 (fun e m => hb e (List.mem_cons_of_mem _ m)) (fun e m => hy e (List.mem_cons_of_mem _ m)) fun e m => hk e (List.mem_cons_of_mem _ m)⟩
    show (S.y a.p).or (S1.g a.p) = none
    rw [hy a List.mem_cons_self, Option.none_or]
    exact st1.gnone h1
/-- the state that is lent: all but own may be read -/
def Sv.lend (S : Sv) (H : Hp) (own : List Addr) : Sv := ⟨S.g, hide H own⟩
theorem lend_ok (st : StOk B S H) (hy : ∀ a ∈ own, S.y a = none) : StOk (Bs.sub S.g H own) (S.lend H own) H where
  gy := fun a o h => by
    show hide H own a = some o
    rw [hide_out fun m => by
      have z := st.gy a o h
      rw [hy a m] at z; cases z]
    exact st.yh a o (st.gy a o h)
  yh := hide_ex
  g0 := Ex.refl _
  b0 := fun a o h n => by
    show hide H own a = some o
    rw [hide_out n]; exact h
  fr := fun _ h _ => h
  tr := fun _ h => h
  kp := fun _ _ h => by cases h
theorem lend_le (st : StOk B S H) (hy : ∀ a ∈ own, S.y a = none) : S.le (S.lend H own) := ⟨Ex.refl _, fun a o h => by
  show hide H own a = some o
  rw [hide_out fun m => by rw [hy a m] at h; cases h]
  exact st.yh a o h⟩
end

/-! ### owned things are read -/
/-- what a value is by the frozen part alone -/
def PGo (P : VP) : Prop := ∀ v S S', S.g = S'.g → P.p v S → P.p v S'
theorem pg_at {α : Type} {r : Rp α} {x : α} : PGo (VP.at true r x) := fun v S S' e h => by
  show r.rep x v S'.g
  rw [← e]; exact h
theorem pg_ptr {p : Addr} : PGo (VP.ptr p) := fun v S S' e h => h
/-- an owned thing as a thing to be read: the slots -/
inductive Pk (K : PySem.W.Frag) (os : OS) : Option VP → Option VP → Prop where
  | no {a} : Pk K os a none
  | same {a} : Pk K os a a
  | rd {p : Addr} {c : Ct} {Q : VP} (i : Nat) (f : Bool) (h : os[i]? = some ⟨p, c, f⟩) (q : ∀ (o : HO) (S : Sv), c.c o S.g → S.y p = some o → Ex S.g S.y → Q.p (.ref p) S) : Pk K os (some (VP.ptr p)) (some Q)
  | mp {P Q : VP} (h : ∀ (B : Bs) (S : Sv) (H : Hp) (v : V), StOk B S H → OwL B S H os → P.p v S → Q.p v (S.lend H [])) : Pk K os (some P) (some Q)
def Pks (K : PySem.W.Frag) (os : OS) : SA → SA → Prop
  | _, [] => True
  | a :: as, b :: bs => Pk K os a b ∧ Pks K os as bs
  | [], _ :: _ => False
theorem Pks.len {K : PySem.W.Frag} {os : OS} : ∀ {as bs : SA}, Pks K os as bs → bs.length ≤ as.length
  | _, [], _ => Nat.zero_le _
  | _ :: _, _ :: _, h => Nat.succ_le_succ (Pks.len h.2)
  | [], _ :: _, h => h.elim
theorem Pks.at {K : PySem.W.Frag} {os : OS} : ∀ {as bs : SA} {i : Nat} {Q : VP}, Pks K os as bs → bs[i]? = some (some Q) → ∃ a, as[i]? = some a ∧ Pk K os a (some Q)
  | _, [], _, _, _, h => by simp at h
  | a :: _, b :: _, 0, Q, h, e => by
    have e' : b = some Q := Option.some.inj e
    exact ⟨a, rfl, by rw [← e']; exact h.1⟩
  | _ :: as, _ :: bs, i + 1, Q, h, e => Pks.at (i := i) h.2 e
  | [], _ :: _, _, _, h, _ => h.elim
theorem pk_lst {K : PySem.W.Frag} {os : OS} {α : Type} {r : Rp α} {xs : List α} {p : Addr} (i : Nat) {f : Bool} (h : os[i]? = some ⟨p, cLst r xs, f⟩ := by rfl) : Pk K os (some (VP.ptr p)) (some (VP.at false (rLst K r) xs)) := .rd i f h fun o S ⟨vs, e, q⟩ hy hg => ⟨p, vs, rfl, by subst e; exact SqL.of hy, q.mono hg⟩
theorem pk_dic {K : PySem.W.Frag} {os : OS} {κ α : Type} {k : KK κ} {r : Rp α} {xs : List (κ × α)} {p : Addr} (i : Nat) {f : Bool} (h : os[i]? = some ⟨p, cDic k r xs, f⟩ := by rfl) : Pk K os (some (VP.ptr p)) (some (VP.at false (rDic k r) xs)) := .rd i f h fun o S ⟨vs, e, q⟩ hy hg => ⟨p, vs, rfl, by subst e; exact hy, q.mono hg⟩
theorem pks_sl {B : Bs} {S : Sv} {H : Hp} {K : PySem.W.Frag} {os : OS} {as bs : SA} {σ : L2.St} (st : StOk B S H) (ow : OwL B S H os) (h : Pks K os as bs) (sl : Sl S σ as) : Sl (S.lend H []) σ bs := by
  refine ⟨Nat.le_trans h.len sl.1, fun i Q e => ?_⟩
  obtain ⟨a, ha, k⟩ := h.at e
  cases k with
  | same =>
    obtain ⟨v, h1, h2⟩ := sl.2 i Q ha
    exact ⟨v, h1, Q.mono (lend_le st fun _ m => by cases m) h2⟩
  | mp h =>
    obtain ⟨v, h1, h2⟩ := sl.2 i _ ha
    exact ⟨v, h1, h B S H v st ow h2⟩
  | rd j f hj q =>
    obtain ⟨v, h1, h2⟩ := sl.2 i _ ha
    obtain ⟨_, ⟨o, h3, h4⟩, _⟩ := ow.get hj
    have h2 : v = .ref _ := h2
    subst h2
    exact ⟨_, h1, q o (S.lend H []) h4 (by show hide H [] _ = _; rw [hide_nil]; exact h3) (by
      show Ex S.g (hide H [])
      rw [hide_nil]
      exact st.gy.trans st.yh)⟩
section
variable {ς α : Type} {X : Cx} {C : Cf} {e : Expr} {as : SA} {O : ς → OS}
/-- the place where an expression is read that changes nothing -/
abbrev Cf.pk (C : Cf) (B : Bs) : Cf := { C with B := B, ox := [] }
def SM.pk (m : ς → SM Unit α) : SM ς α := fun s => ((m s) ()).calm.bind fun z => .ok (z.1, s)
theorem hx_pk {P : α → VP} (as' : ς → SA) (m : ς → SM Unit α) (hk : ∀ s, Pks X.K (O s) as (as' s)) (h : ∀ (s : ς) (B : Bs), HX X (C.pk B) e (as' s) (fun _ : Unit => []) (m s) P) (hp : ∀ a, PGo (P a) := by exact fun _ => pg_at) : HX X C e as O (SM.pk m) P := by
  refine ⟨⟨fun pins s σ H Q I ⟨t, S, st, sl, ow, q⟩ => ?_⟩⟩
  refine (h t (Bs.sub S.g H [])).pe.run pins s σ H Q I ⟨(), S.lend H [], lend_ok st (fun _ m => by cases m), pks_sl st ow (hk t) sl, trivial, R.calm_post (R.post_mono (R.post_bind.mp q) (fun z k _ v S1 H1 l1 st1 ow1 pv => ?_) fun _ z => xq_le z) _⟩
  exact k () v (S.back S1) H1 (back_le st1) (back_ok st st1 (fun _ m => by cases m) (fun _ m => by cases m)) (back_ow st st1 ow fun _ _ m => by cases m) (hp z.1 v S1 _ rfl pv)
theorem hn_pk {c : α → Ct} (as' : ς → SA) (m : ς → SM Unit α) (hk : ∀ s, Pks X.K (O s) as (as' s)) (h : ∀ (s : ς) (B : Bs), HN X (C.pk B) e (as' s) (fun _ : Unit => []) (m s) c) : HN X C e as O (SM.pk m) c := by
  refine ⟨⟨fun pins s σ H Q I ⟨t, S, st, sl, ow, q⟩ => ?_⟩⟩
  refine (h t (Bs.sub S.g H [])).pe.run pins s σ H Q I ⟨(), S.lend H [], lend_ok st (fun _ m => by cases m), pks_sl st ow (hk t) sl, trivial, R.calm_post (R.post_mono (R.post_bind.mp q) (fun z k p v S1 H1 l1 st1 ow1 pv => ?_) fun _ z => xq_le z) _⟩
  have hpH : H p = none := ow1.2.2.1.1 rfl
  exact k p v (S.back S1) H1 (back_le st1) (back_ok st st1 (fun _ m => by cases m) (fun _ m => by cases m))
    ((back_in (B := C.B) st1 (os := [⟨p, c z.1, true⟩]) ow1.left (fun e m _ z => st.bnone z) (fun e m => by
      have e1 : e = ⟨p, c z.1, true⟩ := by simpa using m
      subst e1
      exact st.ynone hpH) (fun e m => by
      have e1 : e = ⟨p, c z.1, true⟩ := by simpa using m
      subst e1
      exact st.knone hpH)).app (back_ow st st1 ow fun _ _ m => by cases m) fun e m u mu ez => by
        have e1 : e = ⟨p, c z.1, true⟩ := by simpa using m
        subst e1
        obtain ⟨_, ⟨o, h2, _⟩, _⟩ := ow.mem mu
        have ez : u.p = p := ez
        rw [ez, hpH] at h2; cases h2) pv
theorem ht_pk {m : ς → SM Unit Bool} (as' : ς → SA) (hk : ∀ s, Pks X.K (O s) as (as' s)) (h : ∀ (s : ς) (B : Bs), HT X (C.pk B) e (as' s) (fun _ : Unit => []) (m s)) : HT X C e as O (SM.pk m) := by
  refine ⟨⟨fun pins s σ H Q I ⟨t, S, st, sl, ow, q⟩ => ?_⟩⟩
  refine (h t (Bs.sub S.g H [])).pt.run pins s σ H Q I ⟨(), S.lend H [], lend_ok st (fun _ m => by cases m), pks_sl st ow (hk t) sl, trivial, R.calm_post (R.post_mono (R.post_bind.mp q) (fun z k S1 H1 l1 st1 ow1 => ?_) fun _ z => xq_le z) _⟩
  exact k (S.back S1) H1 (back_le st1) (back_ok st st1 (fun _ m => by cases m) (fun _ m => by cases m)) (back_ow st st1 ow fun _ _ m => by cases m)
/-- what is frozen may be read -/
theorem hx_bor {r : Rp α} {m : SM ς α} (h : HX X C e as O m (VP.at true r)) : HX X C e as O m (VP.at false r) := ⟨pe_weak h.pe fun σ H Q ⟨s, S, st, sl, ow, q⟩ =>
  ⟨s, S, st, sl, ow, R.post_mono q (fun z k _ v S' H' l' st' ow' pv => k () v S' H' l' st' ow' (r.mono st'.gy pv)) fun _ z => xq_le z⟩⟩
theorem Ok.pk {k : Nat} (o : Ok X C k) (B : Bs) : Ok X (C.pk B) k := ⟨o.calm, o.nd, o.room, o.tk, o.po⟩
end
end Y

/-! Y: targets, iterations, blocks, loops, comprehensions. -/
namespace Y
open PySem PySem.Spec PyProof.Rows L2

section
variable {ι : Sort _} {X : Cx}
theorem pss_ex {sts : List Stmt} {t : ι → TS} (h : ∀ i, PSs X sts (t i)) : PSs X sts (fun D σ H => ∃ i, t i D σ H) := ⟨fun pins s σ H D I ⟨i, q⟩ => (h i).run pins s σ H D I q⟩
theorem pe_ex {e : Expr} {t : ι → TE} (h : ∀ i, PE X e (t i)) : PE X e (fun σ H Q => ∃ i, t i σ H Q) := ⟨fun pins s σ H Q I ⟨i, q⟩ => (h i).run pins s σ H Q I q⟩
theorem pt_ex {e : Expr} {t : ι → TT} (h : ∀ i, PT X e (t i)) : PT X e (fun σ H Q => ∃ i, t i σ H Q) := ⟨fun pins s σ H Q I ⟨i, q⟩ => (h i).run pins s σ H Q I q⟩
theorem pts_ex {e : List Expr} {t : ι → TT} (h : ∀ i, PTs X e (t i)) : PTs X e (fun σ H Q => ∃ i, t i σ H Q) := ⟨fun pins s σ H Q I ⟨i, q⟩ => (h i).run pins s σ H Q I q⟩
theorem pg_ex {e : Expr} {t : ι → TG} (h : ∀ i, PG X e (t i)) : PG X e (fun v σ H Q => ∃ i, t i v σ H Q) := ⟨fun pins s σ H v u Q I r ⟨i, q⟩ => (h i).run pins s σ H v u Q I r q⟩
theorem pss_weak {sts : List Stmt} {t t' : TS} (h : PSs X sts t) (w : ∀ D σ H, t' D σ H → t D σ H) : PSs X sts t' := ⟨fun pins s σ H D I q => h.run pins s σ H D I (w D σ H q)⟩
theorem ps_weak {st : Stmt} {t t' : TS} (h : PS X st t) (w : ∀ D σ H, t' D σ H → t D σ H) : PS X st t' := ⟨fun pins s σ H D I q => h.run pins s σ H D I (w D σ H q)⟩
theorem pg_weak {e : Expr} {t t' : TG} (h : PG X e t) (w : ∀ v σ H Q, t' v σ H Q → t v σ H Q) : PG X e t' := ⟨fun pins s σ H v u Q I r q => h.run pins s σ H v u Q I r (w v σ H Q q)⟩
theorem pgs_weak {e : List Expr} {t t' : TGs} (h : PGs X e t) (w : ∀ v σ H Q, t' v σ H Q → t v σ H Q) : PGs X e t' := ⟨fun pins s σ H v u Q I r q => h.run pins s σ H v u Q I r (w v σ H Q q)⟩
theorem pi_weak {tg e : Expr} {t t' : TI} (h : PI X tg e t) (w : ∀ σ H U, t' σ H U → t σ H U) : PI X tg e t' := ⟨fun pins s σ H U I q => h.run pins s σ H U I (w σ H U q)⟩
end

/-! ### targets -/
section
variable {X : Cx} {C : Cf} {pos : Pos}
def tTg (C : Cf) (as : SA) (P : VP) (ts : List Nat) (as' : SA) : TG := fun v σ H Q =>
  ∃ S, StOk C.B S H ∧ Sl S σ as ∧ P.p v S ∧ ∀ σ', Sl S σ' as' → σ'.length = σ.length → (∀ j, j ∉ ts → σ'[j]? = σ[j]?) → Q σ' H
structure HTg (X : Cx) (C : Cf) (tg : Expr) (as : SA) (P : VP) (ts : List Nat) (as' : SA) : Prop where
  pg : PG X tg (tTg C as P ts as')
def tTgs (C : Cf) (as : SA) (Ps : List VP) (ts : List Nat) (as' : SA) : TGs := fun vs σ H Q =>
  ∃ S, StOk C.B S H ∧ Sl S σ as ∧ AV S vs Ps ∧ ∀ σ', Sl S σ' as' → σ'.length = σ.length → (∀ j, j ∉ ts → σ'[j]? = σ[j]?) → Q σ' H
structure HTgs (X : Cx) (C : Cf) (tgs : List Expr) (as : SA) (Ps : List VP) (ts : List Nat) (as' : SA) : Prop where
  pgs : PGs X tgs (tTgs C as Ps ts as')
theorem htg_name {as : SA} {P : VP} (i : Nat) {x : Str} (hN : X.N.Nodup) (hi : X.N[i]? = some x := by rfl) (hx : Loc X.env.scope x := by first | exact Or.inl rfl | exact Or.inr rfl) (hf : X.fn x = true ∨ X.env.scope.names.lookup x = some .local := by first | exact .inl rfl | exact .inr rfl) :
    HTg X C (.Name x pos) as P [i] (as.set i (some P)) := ⟨pg_weak (pg_name hN hi hx hf) fun v σ H Q ⟨S, st, sl, pv, k⟩ =>
  k _ (sl.set pv) (List.length_set ..) fun j hj => List.getElem?_set_ne fun e => hj (by rw [e]; exact List.mem_singleton.mpr rfl)⟩
theorem htgs_nil {as : SA} : HTgs X C [] as [] [] as := ⟨pgs_weak pgs_nil fun v σ H Q ⟨S, st, sl, pv, k⟩ => by
  cases v with
  | nil => exact ⟨rfl, k σ sl rfl fun _ _ => rfl⟩
  | cons _ _ => exact pv.elim⟩
theorem htgs_cons {tg : Expr} {tgs : List Expr} {as as1 as2 : SA} {P : VP} {Ps : List VP} {ts us : List Nat} (h : HTg X C tg as P ts as1) (hr : HTgs X C tgs as1 Ps us as2)
    (hs : (assignEach (tg :: tgs) X.env).map (·.2) = assign tg X.env :: (assignEach tgs X.env).map (·.2) := by rfl) : HTgs X C (tg :: tgs) as (P :: Ps) (ts ++ us) as2 := ⟨pgs_weak (pgs_cons h.pg hr.pgs hs) fun v σ H Q ⟨S, st, sl, pv, k⟩ => by
  cases v with
  | nil => exact pv.elim
  | cons v vs =>
    refine ⟨v, vs, rfl, S, st, sl, pv.1, fun σ1 sl1 le1 e1 => ⟨S, st, sl1, pv.2, fun σ2 sl2 le2 e2 => k σ2 sl2 (le2.trans le1) fun j hj => ?_⟩⟩
    rw [List.mem_append, not_or] at hj
    exact (e2 j hj.2).trans (e1 j hj.1)⟩
theorem htg_tup {α : Type} {es : List Expr} {kk : Nat} {as as' : SA} {t : RT α} {w : Bool} {x : α} {ts : List Nat} (hc : X.calm = true) (h : HTgs X C es as (t.vps w x) ts as')
    (hn : (assignEach es X.env).length = t.n := by rfl) (hst : (assignEach es X.env).findIdx? (·.1) = none := by rfl) : HTg X C (.Tuple es kk pos) as (VP.at w (rTup X.K t) x) ts as' := ⟨pg_weak (pg_tup hc h.pgs hn hst) fun v σ H Q ⟨S, st, sl, pv, k⟩ => by
  obtain ⟨p, vs, e1, hq, hr⟩ := pv
  exact ⟨p, vs, e1, (st.atH w).tup hq, t.len hr, S, st, sl, t.wal hr, k⟩⟩
end

/-! ### iterations -/
structure ItC {α : Type} (C : Cf) (S0 : Sv) (J : It) (xs : List α) (P : α → VP) : Prop where
  go : ∀ i S H, S0.le S → StOk C.B S H → i < xs.length → J.go i H
  yld : ∀ i a S H x H', S0.le S → StOk C.B S H → xs[i]? = some a → J.yld i H x H' → ∃ S', S.le S' ∧ StOk C.B S' H' ∧ (∀ os, OwL C.B S H os → OwL C.B S' H' os) ∧ (P a).p x S'
  stop : ∀ i S H, S0.le S → StOk C.B S H → xs.length ≤ i → J.stop i H
section
variable {ς α β γ μ ρ : Type} {X : Cx} {C : Cf} {as : SA} {O : ς → OS} {a b c e tg : Expr} {pos p : Pos} {w w1 w2 : Bool}
def tI (C : Cf) (as : SA) (O : ς → OS) (m : SM ς (List α)) (P : α → VP) : TI := fun σ H U =>
  ∃ (s : ς) (S : Sv), StOk C.B S H ∧ Sl S σ as ∧ OwL C.B S H (O s) ∧
    (m s).post (fun z => ∀ J S' H', S.le S' → StOk C.B S' H' → OwL C.B S' H' (O z.2) → ItC C S' J z.1 P → U J H') (C.xq S)
structure HI (X : Cx) (C : Cf) (tg e : Expr) (as : SA) (O : ς → OS) (m : SM ς (List α)) (P : α → VP) : Prop where
  pi : PI X tg e (tI C as O m P)
theorem itc_list {K : PySem.W.Frag} {r : Rp α} {S0 : Sv} {p : Addr} {vs : List V} {xs : List α} (h1 : SqL K (S0.at w) p vs) (h2 : A2 r (S0.at w) xs vs) : ItC C S0 (Itl K p) xs (VP.at w r) where
  go := fun i S H l st hi => by
    obtain ⟨v, hv, _⟩ := h2.get (List.getElem?_eq_getElem hi)
    exact ⟨vs, v, (st.atH w).seq ((l.at w).seq h1), hv⟩
  yld := fun i a S H x H' l st hi hy => by
    obtain ⟨e, f⟩ := hy
    subst e
    obtain ⟨v, hv, hr⟩ := h2.get hi
    have e2 := f vs ((st.atH w).seq ((l.at w).seq h1))
    rw [hv] at e2
    cases e2
    exact ⟨S, .refl S, st, fun _ h => h, r.mono (l.at w) hr⟩
  stop := fun i S H l st hi => ⟨vs, (st.atH w).seq ((l.at w).seq h1), by rw [← h2.length]; exact hi⟩
theorem hi_list {r : Rp α} {m : SM ς (List α)} (h : HX X C e as O m (VP.at w (rLst X.K r))) : HI X C tg e as O m (VP.at w r) := ⟨pi_weak (pi_list h.pe) fun σ H U ⟨s, S, st, sl, ow, q⟩ =>
  ⟨s, S, st, sl, ow, R.post_mono q (fun z k _ v S' H' l' st' ow' pv => by
    obtain ⟨p, vs, e1, h1, h2⟩ := pv
    exact ⟨p, e1, ⟨vs, (st'.atH w).seq h1⟩, k _ S' H' l' st' ow' (itc_list h1 h2)⟩) fun _ z => xq_le z⟩⟩
def rangeL (lo hi : Int) : List Int := (List.range (hi - lo).toNat).map fun (k : Nat) => lo + (k : Int)
theorem rangeL_len {lo hi : Int} : (rangeL lo hi).length = (hi - lo).toNat := by unfold rangeL; rw [List.length_map, List.length_range]
theorem rangeL_get {lo hi : Int} {i : Nat} {a : Int} (h : (rangeL lo hi)[i]? = some a) : i < (hi - lo).toNat ∧ a = lo + (i : Int) := by
  have hi' := (List.getElem?_eq_some_iff.mp h).1
  rw [rangeL_len] at hi'
  refine ⟨hi', ?_⟩
  unfold rangeL at h
  rw [List.getElem?_map, List.getElem?_range hi'] at h
  exact (Option.some.inj h).symm
theorem itc_range {S0 : Sv} {lo hi : Int} {n : Nat} (hn : n = (hi - lo).toNat) : ItC C S0 (Itr lo n) (rangeL lo hi) (VP.at true rInt) where
  go := fun i S H l st h => by rw [rangeL_len] at h; show i < n; omega
  yld := fun i a S H x H' l st h hy => by
    obtain ⟨e1, e2⟩ := hy
    subst e1
    obtain ⟨_, e3⟩ := rangeL_get h
    exact ⟨S, .refl S, st, fun _ h => h, by show x = V.int a; rw [e2, e3]⟩
  stop := fun i S H l st h => by rw [rangeL_len] at h; show n ≤ i; omega
def rng1 (j : Int) : R (List Int) := (R.guard (-(2 ^ 62) ≤ j ∧ j < 2 ^ 62)).bind fun _ => .ok (rangeL 0 j)
def rng2 (i j : Int) : R (List Int) := (R.guard (-(2 ^ 62) ≤ i ∧ i < 2 ^ 62 ∧ -(2 ^ 62) ≤ j ∧ j < 2 ^ 62)).bind fun _ => .ok (rangeL i j)
theorem hi_range1 {m : SM ς Int} (hm : X.mg "range" = none) (ha : HX X C a as O m (VP.at w rInt)) (hg : Gl X "range" := by rfl) (hs : starEach [a] X.env = (false, eval a X.env) :: starEach [] X.env := by rfl) : HI X C tg (.Call (.Name "range" p) [a] [] pos) as O (SM.bnd1 rng1 m) (VP.at true rInt) :=
  ⟨pi_weak (pi_range1 hg hm (ha_one ha hs).pa hs) fun σ H U ⟨s, S, st, sl, ow, q⟩ =>
  ⟨s, S, st, sl, ow, R.post_mono (R.post_bind.mp q) (fun z k vs S' H' l' st' ow' pv => by
    obtain ⟨v, e1, pv⟩ := av1 pv
    have e2 : v = .int z.1 := pv
    subst e1; subst e2
    obtain ⟨hb, k⟩ := R.guard_post.mp (R.post_bind.mp (R.post_bind.mp k))
    exact ⟨z.1, rfl, hb.1, hb.2, k _ S' H' l' st' ow' (itc_range (by omega))⟩) fun _ z => xq_le z⟩⟩
theorem hi_range2 {m : SM ς Int} {n : SM ς Int} (hm : X.mg "range" = none) (ha : HX X C a as O m (VP.at w1 rInt)) (hb : HX X C b as O n (VP.at w2 rInt)) (hg : Gl X "range" := by rfl)
    (hs1 : starEach [a, b] X.env = (false, eval a X.env) :: starEach [b] X.env := by rfl) (hs2 : starEach [b] X.env = (false, eval b X.env) :: starEach [] X.env := by rfl) (hs3 : starEach [a, b] X.env = [(false, eval a X.env), (false, eval b X.env)] := by rfl) (hs4 : starEach [b] X.env = [(false, eval b X.env)] := by rfl) : HI X C tg (.Call (.Name "range" p) [a, b] [] pos) as O (SM.bnd2 rng2 m n) (VP.at true rInt) :=
  ⟨pi_weak (pi_range2 hg hm (ha_cons ha (ha_one hb hs2) hs1).pa hs3 hs4) fun σ H U ⟨s, S, st, sl, ow, q⟩ => by
    refine ⟨s, S, st, sl, ow, ?_⟩
    have q1 : ((SM.map2 Prod.mk m n s).bind fun z => (rng2 z.1.1 z.1.2).bind fun c => .ok (c, z.2)).post (fun z => ∀ J S' H', S.le S' → StOk C.B S' H' → OwL C.B S' H' (O z.2) → ItC C S' J z.1 (VP.at true rInt) → U J H') (C.xq S) := by
      have e1 : SM.bnd2 rng2 m n s = (SM.map2 Prod.mk m n s).bind fun z => (rng2 z.1.1 z.1.2).bind fun c => .ok (c, z.2) := by
        unfold SM.bnd2 SM.map2
        rw [R.bind_assoc]
        congr 1; funext z
        rw [R.bind_assoc]
        congr 1
      rw [← e1]; exact q
    refine R.post_mono (R.post_bind.mp q1) (fun z k vs S' H' l' st' ow' pv => ?_) fun _ z => xq_le z
    obtain ⟨v, u, e1, p1, p2⟩ := av2 pv
    have e2 : v = .int z.1.1 := p1
    have e3 : u = .int z.1.2 := p2
    subst e1; subst e2; subst e3
    obtain ⟨hb, k⟩ := R.guard_post.mp (R.post_bind.mp (R.post_bind.mp k))
    exact ⟨z.1.1, z.1.2, rfl, hb, k _ S' H' l' st' ow' (itc_range rfl)⟩⟩
def enumL (xs : List α) : List (Int × α) := (List.range xs.length).zipWith (fun (i : Nat) a => ((i : Int), a)) xs
theorem enumL_len {xs : List α} : (enumL xs).length = xs.length := by unfold enumL; rw [List.length_zipWith, List.length_range, Nat.min_self]
theorem enumL_get {xs : List α} {i : Nat} {z : Int × α} (h : (enumL xs)[i]? = some z) : xs[i]? = some z.2 ∧ z.1 = (i : Int) := by
  have hi := (List.getElem?_eq_some_iff.mp h).1
  rw [enumL_len] at hi
  unfold enumL at h
  rw [List.getElem?_zipWith, List.getElem?_range hi, List.getElem?_eq_getElem hi] at h
  have e := Option.some.inj h
  subst e
  exact ⟨List.getElem?_eq_getElem hi, rfl⟩
theorem itc_enum {K : PySem.W.Frag} {r : Rp α} {S0 : Sv} {p : Addr} {vs : List V} {xs : List α} (h1 : SqL K (S0.at w) p vs) (h2 : A2 r (S0.at w) xs vs) : ItC C S0 (Ite K p) (enumL xs) (VP.at w (rTup K (RT.cons rInt (RT.one r)))) where
  go := fun i S H l st hi => by
    rw [enumL_len] at hi
    obtain ⟨v, hv, _⟩ := h2.get (List.getElem?_eq_getElem hi)
    exact ⟨vs, v, (st.atH w).seq ((l.at w).seq h1), hv⟩
  yld := fun i a S H x H' l st hi hy => by
    obtain ⟨T, v', e1, nT, e2, f⟩ := hy
    subst e1; subst e2
    obtain ⟨hi, ei⟩ := enumL_get hi
    obtain ⟨v, hv, hr⟩ := h2.get hi
    have e3 := f vs ((st.atH w).seq ((l.at w).seq h1))
    rw [hv] at e3
    have e3 : v = v' := Option.some.inj e3
    subst e3
    have l2 : S.le (S.add T (.tup [.int (i : Nat), v])) := st.leF nT
    exact ⟨S.add T (.tup [.int (i : Nat), v]), l2, st.newF nT, fun os h => h.newF st nT, ⟨T, _, rfl, .inl (.inl (Sv.add_at w)), _, _, rfl, (by show V.int _ = V.int _; rw [ei]), _, rfl, r.mono ((l.trans l2).at w) hr⟩⟩
  stop := fun i S H l st hi => ⟨vs, (st.atH w).seq ((l.at w).seq h1), by rw [enumL_len] at hi; rw [← h2.length]; exact hi⟩
theorem hi_enum {r : Rp α} {m : SM ς (List α)} {elts : List Expr} {kk : Nat} {tpos : Pos} (hm : X.mg "enumerate" = none) (ha : HX X C a as O m (VP.at w (rLst X.K r))) (hg : Gl X "enumerate" := by rfl) (hs : starEach [a] X.env = (false, eval a X.env) :: starEach [] X.env := by rfl) :
    HI X C (.Tuple elts kk tpos) (.Call (.Name "enumerate" p) [a] [] pos) as O (SM.map1 enumL m) (VP.at w (rTup X.K (RT.cons rInt (RT.one r)))) :=
  ⟨pi_weak (pi_enum hg hm (ha_one ha hs).pa hs) fun σ H U ⟨s, S, st, sl, ow, q⟩ =>
  ⟨s, S, st, sl, ow, R.post_mono (R.post_bind.mp q) (fun z k vs S' H' l' st' ow' pv => by
    obtain ⟨v, e1, p1⟩ := av1 pv
    subst e1
    have p2 : ∃ p ws, v = .ref p ∧ SqL X.K (S'.at w) p ws ∧ A2 r (S'.at w) z.1 ws := p1
    obtain ⟨p, ws, ee, h1, h2⟩ := p2
    rw [ee]
    exact ⟨p, ws, rfl, (st'.atH w).seq h1, k _ S' H' l' st' ow' (itc_enum h1 h2)⟩) fun _ z => xq_le z⟩⟩

/-! ### blocks -/
inductive Oc (μ ρ : Type) where
  | nx (l : μ) | rt (r : ρ)
def goes (N : μ → L2.St → Hp → Prop) (T : ρ → V → Hp → Prop) (D : Ends) : Oc μ ρ → Prop
  | .nx l => ∀ σ' H', N l σ' H' → D.nx σ' H'
  | .rt r => ∀ v H', T r v H' → D.rt v H'
def tB (C : Cf) (as : SA) (os : OS) (m : R α) (ι : α → Oc μ ρ) (N : Sv → μ → L2.St → Hp → Prop) (T : ρ → V → Hp → Prop) : TS := fun D σ H =>
  ∃ L S, L.le S ∧ StOk C.B S H ∧ Sl S σ as ∧ OwL C.B S H os ∧ m.post (fun a => goes (N L) T D (ι a)) (C.xq L)
structure HB (X : Cx) (C : Cf) (sts : List Stmt) (as : SA) (os : OS) (m : R α) (ι : α → Oc μ ρ) (N : Sv → μ → L2.St → Hp → Prop) (T : ρ → V → Hp → Prop) : Prop where
  pss : PSs X sts (tB C as os m ι N T)
def NS (C : Cf) (as' : μ → SA) (os' : μ → OS) : Sv → μ → L2.St → Hp → Prop := fun L l σ H => ∃ S, L.le S ∧ StOk C.B S H ∧ Sl S σ (as' l) ∧ OwL C.B S H (os' l)
def NF : Sv → μ → L2.St → Hp → Prop := fun _ _ _ _ => False
variable {rst body orelse : List Stmt} {N : Sv → μ → L2.St → Hp → Prop} {T : ρ → V → Hp → Prop} {ι : α → Oc μ ρ} {os : OS} {π : Type}
theorem hb_end {as' : μ → SA} {os' : μ → OS} {l : μ} (h : Wk as (as' l)) : HB X C [] as (os' l) (.ok l) Oc.nx (NS C as' os') T := ⟨pss_weak pss_nil fun D σ H ⟨L, S, lL, st, sl, ow, q⟩ => q σ H ⟨S, lL, st, sl.wk h, ow⟩⟩
theorem hb_end' {x : α} {l : μ} (hι : ι x = .nx l) (h : ∀ L S σ H, L.le S → StOk C.B S H → Sl S σ as → OwL C.B S H os → N L l σ H) : HB X C [] as os (.ok x) ι N T := ⟨pss_weak pss_nil fun D σ H ⟨L, S, lL, st, sl, ow, q⟩ => by
  have q : goes (N L) T D (ι x) := q
  rw [hι] at q
  exact q σ H (h L S σ H lL st sl ow)⟩
theorem hb_asg {m : SM ς β} {P : β → π → VP} {nw : β → π → OS} {k : β × ς → R α} (i : Nat) {x : Str} {px : Pos} (hN : X.N.Nodup) (he : HG X C e as O m P nw) (s : ς) (hr : ∀ (z : β × ς) (q : π), HB X C rst (as.set i (some (P z.1 q))) (nw z.1 q ++ O z.2) (k z) ι N T)
    (hi : X.N[i]? = some x := by rfl) (hx : Loc X.env.scope x := by first | exact Or.inl rfl | exact Or.inr rfl) (hs : swapsWith e (some (.Name x px)) pos.line X.env = pure false := by rfl) (hf : X.fn x = true ∨ X.env.scope.names.lookup x = some .local := by first | exact .inl rfl | exact .inr rfl) :
    HB X C (.Assign [.Name x px] e pos :: rst) as (O s) ((m s).bind k) ι N T :=
  ⟨pss_weak (pss_cons (ps_set hN hi hx he.pe hs hf) (pss_ex fun (zq : (β × ς) × π) => (hr zq.1 zq.2).pss)) fun D σ H ⟨L, S, lL, st, sl, ow, q⟩ =>
    ⟨s, S, st, sl, ow, R.post_mono (R.post_bind.mp q) (fun z k' q v S' H' l' st' ow' pv => ⟨(z, q), L, S', lL.trans l', st', (sl.mono l').set pv, ow', k'⟩) fun _ z => xq_le z⟩⟩
/-- a target of several names -/
theorem hb_asgT {m : SM ς β} {P : β → π → VP} {nw : β → π → OS} {k : β × ς → R α} {ts : List Nat} {asn : β → π → SA} (he : HG X C e as O m P nw) (s : ς) (ht : ∀ z q, HTg X C tg as (P z q) ts (asn z q)) (hr : ∀ (z : β × ς) (q : π), HB X C rst (asn z.1 q) (nw z.1 q ++ O z.2) (k z) ι N T)
    (hs : swapsWithSole [tg] e pos.line X.env = pure false := by rfl) (hw : swappedStores [tg] e X.env = pure none := by rfl) (h1 : (assignEach [tg] X.env).map (·.2) = [assign tg X.env] := by rfl) :
    HB X C (.Assign [tg] e pos :: rst) as (O s) ((m s).bind k) ι N T :=
  ⟨pss_weak (pss_cons (ps_asg he.pe (pg_ex fun (zq : β × π) => (ht zq.1 zq.2).pg) hs hw h1) (pss_ex fun (zq : (β × ς) × π) => (hr zq.1 zq.2).pss)) fun D σ H ⟨L, S, lL, st, sl, ow, q⟩ =>
    ⟨s, S, st, sl, ow, R.post_mono (R.post_bind.mp q) (fun z k' q v S' H' l' st' ow' pv => ⟨(z.1, q), S', st', sl.mono l', pv, fun σ' sl' _ _ => ⟨(z, q), L, S', lL.trans l', st', sl', ow', k'⟩⟩) fun _ z => xq_le z⟩⟩
theorem hb_expr {m : SM ς β} {P : β → π → VP} {nw : β → π → OS} {k : β × ς → R α} (he : HG X C e as O m P nw) (s : ς) (hr : ∀ (z : β × ς) (q : π), HB X C rst as (nw z.1 q ++ O z.2) (k z) ι N T) (hs : swapsWith e none pos.line X.env = pure false := by rfl) :
    HB X C (.Expr e pos :: rst) as (O s) ((m s).bind k) ι N T :=
  ⟨pss_weak (pss_cons (ps_expr he.pe hs) (pss_ex fun (zq : (β × ς) × π) => (hr zq.1 zq.2).pss)) fun D σ H ⟨L, S, lL, st, sl, ow, q⟩ =>
    ⟨s, S, st, sl, ow, R.post_mono (R.post_bind.mp q) (fun z k' q v S' H' l' st' ow' pv => ⟨(z, q), L, S', lL.trans l', st', sl.mono l', ow', k'⟩) fun _ z => xq_le z⟩⟩
theorem hb_ret {m : SM ς β} {P : β → π → VP} {nw : β → π → OS} {k : β × ς → α} {r : β × ς → ρ} (he : HG X C e as O m P nw) (s : ς) (hι : ∀ z, ι (k z) = .rt (r z)) (hT : ∀ z q v S H, StOk C.B S H → OwL C.B S H (nw z.1 q ++ O z.2) → (P z.1 q).p v S → T (r z) v H) :
    HB X C (.Return (some e) pos :: rst) as (O s) ((m s).bind fun z => .ok (k z)) ι N T :=
  ⟨pss_weak (pss_cons (ps_ret he.pe) pss_never) fun D σ H ⟨L, S, lL, st, sl, ow, q⟩ =>
    ⟨s, S, st, sl, ow, R.post_mono (R.post_bind.mp q) (fun z k' q v S' H' l' st' ow' pv => by
      have k' : goes (N L) T D (ι (k z)) := k'
      rw [hι] at k'
      exact k' v H' (hT z q v S' H' st' ow' pv)) fun _ z => xq_le z⟩⟩
/-- both ways go on -/
theorem hb_if {mc : SM ς Bool} {ma mb : ς → R β} {k : β → R α} {as1 : β → SA} {os1 : β → OS} (hc : HT X C c as O mc) (s : ς) (ha : ∀ s', HB X C body as (O s') (ma s') Oc.nx (NS C as1 os1) T) (hb : ∀ s', HB X C orelse as (O s') (mb s') Oc.nx (NS C as1 os1) T) (hr : ∀ l, HB X C rst (as1 l) (os1 l) (k l) ι N T) :
    HB X C (.If c body orelse pos :: rst) as (O s) ((mc s).bind fun z => (if z.1 = true then ma z.2 else mb z.2).bind k) ι N T :=
  ⟨pss_weak (pss_cons (ps_if hc.pt (pss_ex fun s' => (ha s').pss) (pss_ex fun s' => (hb s').pss)) (pss_ex fun l => (hr l).pss)) fun D σ H ⟨L, S, lL, st, sl, ow, q⟩ =>
    ⟨s, S, st, sl, ow, R.post_mono (R.post_bind.mp q) (fun z k' S' H' l' st' ow' => by
      by_cases hz : z.1 = true
      · rw [if_pos hz] at k' ⊢
        exact ⟨z.2, L, S', lL.trans l', st', sl.mono l', ow', R.post_mono (R.post_bind.mp k') (fun l k2 σ2 H2 ⟨S2, lL2, st2, sl2, ow2⟩ => ⟨l, L, S2, lL2, st2, sl2, ow2, k2⟩) fun _ z => z⟩
      · rw [if_neg hz] at k' ⊢
        exact ⟨z.2, L, S', lL.trans l', st', sl.mono l', ow', R.post_mono (R.post_bind.mp k') (fun l k2 σ2 H2 ⟨S2, lL2, st2, sl2, ow2⟩ => ⟨l, L, S2, lL2, st2, sl2, ow2, k2⟩) fun _ z => z⟩) fun _ z => xq_le z⟩⟩
theorem goes_nf {N : μ → L2.St → Hp → Prop} {L : Sv} {D : Ends} {n : L2.St → Hp → Prop} {o : Oc μ ρ} (g : goes N T D o) : goes ((NF : Sv → μ → L2.St → Hp → Prop) L) T { D with nx := n } o := by
  cases o with
  | nx l => exact fun σ' H' z => z.elim
  | rt r => exact g
/-- the one way returns -/
theorem hb_ifR {mc : SM ς Bool} {ma mr : ς → R α} (hc : HT X C c as O mc) (s : ς) (ha : ∀ s', HB X C body as (O s') (ma s') ι NF T) (hr : ∀ s', HB X C rst as (O s') (mr s') ι N T) :
    HB X C (.If c body [] pos :: rst) as (O s) ((mc s).bind fun z => if z.1 = true then ma z.2 else mr z.2) ι N T :=
  ⟨pss_weak (pss_cons (ps_if hc.pt (pss_ex fun s' => (ha s').pss) pss_nil) (pss_ex fun s' => (hr s').pss)) fun D σ H ⟨L, S, lL, st, sl, ow, q⟩ =>
    ⟨s, S, st, sl, ow, R.post_mono (R.post_bind.mp q) (fun z k' S' H' l' st' ow' => by
      by_cases hz : z.1 = true
      · rw [if_pos hz] at k' ⊢
        exact ⟨z.2, L, S', lL.trans l', st', sl.mono l', ow', R.post_mono k' (fun a g => goes_nf g) fun _ z => z⟩
      · rw [if_neg hz] at k' ⊢
        exact ⟨z.2, L, S', lL.trans l', st', sl.mono l', ow', k'⟩) fun _ z => xq_le z⟩⟩
/-- both ways return -/
theorem hb_if2 {mc : SM ς Bool} {ma mr : ς → R α} (hc : HT X C c as O mc) (s : ς) (ha : ∀ s', HB X C body as (O s') (ma s') ι NF T) (hb : ∀ s', HB X C orelse as (O s') (mr s') ι NF T) :
    HB X C (.If c body orelse pos :: rst) as (O s) ((mc s).bind fun z => if z.1 = true then ma z.2 else mr z.2) ι N T :=
  ⟨pss_weak (pss_cons (ps_if hc.pt (pss_ex fun s' => (ha s').pss) (pss_ex fun s' => (hb s').pss)) pss_never) fun D σ H ⟨L, S, lL, st, sl, ow, q⟩ =>
    ⟨s, S, st, sl, ow, R.post_mono (R.post_bind.mp q) (fun z k' S' H' l' st' ow' => by
      by_cases hz : z.1 = true
      · rw [if_pos hz] at k' ⊢
        exact ⟨z.2, L, S', lL.trans l', st', sl.mono l', ow', R.post_mono k' (fun a g => goes_nf g) fun _ z => z⟩
      · rw [if_neg hz] at k' ⊢
        exact ⟨z.2, L, S', lL.trans l', st', sl.mono l', ow', R.post_mono k' (fun a g => goes_nf g) fun _ z => z⟩) fun _ z => xq_le z⟩⟩
/-- x += e, whole numbers -/
theorem hb_augI {m : SM ς Int} {v0 : Int} {k : Int × ς → R α} (i : Nat) {x : Str} {px : Pos} (hN : X.N.Nodup) (hv : as[i]? = some (some (VP.at w1 rInt v0))) (he : HX X C e as O m (VP.at w rInt)) (s : ς) (hr : ∀ (z : Int × ς), HB X C rst (as.set i (some (VP.at true rInt z.1))) (O z.2) (k z) ι N T)
    (hi : X.N[i]? = some x := by rfl) (hx : Loc X.env.scope x := by first | exact Or.inl rfl | exact Or.inr rfl) (hf : X.fn x = true ∨ X.env.scope.names.lookup x = some .local := by first | exact .inl rfl | exact .inr rfl) :
    HB X C (.AugAssign (.Name x px) .Add e pos :: rst) as (O s) ((SM.map1 (fun b => v0 + b) m s).bind k) ι N T :=
  ⟨pss_weak (pss_cons (ps_aug hN hi hx he.pe ip_add hf) (pss_ex fun z => (hr z).pss)) fun D σ H ⟨L, S, lL, st, sl, ow, q⟩ => by
    obtain ⟨v, h1, h2⟩ := sl.2 i _ hv
    refine ⟨v, h1, s, S, st, sl, ow, R.post_mono (R.post_bind.mp (R.post_bind.mp q)) (fun z k' q v2 S' H' l' st' ow' pv => ?_) fun _ z => xq_le z⟩
    exact ⟨v0, z.1, h2, pv, (v0 + z.1, z.2), L, S', lL.trans l', st', (sl.mono l').set rfl, ow', k'⟩⟩
theorem hb_augS {m : SM ς Int} {v0 : Int} {k : Int × ς → R α} (i : Nat) {x : Str} {px : Pos} (hN : X.N.Nodup) (hv : as[i]? = some (some (VP.at w1 rInt v0))) (he : HX X C e as O m (VP.at w rInt)) (s : ς) (hr : ∀ (z : Int × ς), HB X C rst (as.set i (some (VP.at true rInt z.1))) (O z.2) (k z) ι N T)
    (hi : X.N[i]? = some x := by rfl) (hx : Loc X.env.scope x := by first | exact Or.inl rfl | exact Or.inr rfl) (hf : X.fn x = true ∨ X.env.scope.names.lookup x = some .local := by first | exact .inl rfl | exact .inr rfl) :
    HB X C (.AugAssign (.Name x px) .Sub e pos :: rst) as (O s) ((SM.map1 (fun b => v0 - b) m s).bind k) ι N T :=
  ⟨pss_weak (pss_cons (ps_aug hN hi hx he.pe ip_sub hf) (pss_ex fun z => (hr z).pss)) fun D σ H ⟨L, S, lL, st, sl, ow, q⟩ => by
    obtain ⟨v, h1, h2⟩ := sl.2 i _ hv
    refine ⟨v, h1, s, S, st, sl, ow, R.post_mono (R.post_bind.mp (R.post_bind.mp q)) (fun z k' q v2 S' H' l' st' ow' pv => ?_) fun _ z => xq_le z⟩
    exact ⟨v0, z.1, h2, pv, (v0 - z.1, z.2), L, S', lL.trans l', st', (sl.mono l').set rfl, ow', k'⟩⟩
/-! ### loops -/
def foldR (f : μ → β → R μ) : μ → List β → R μ
  | l, [] => .ok l
  | l, x :: xs => (f l x).bind fun l' => foldR f l' xs
def forR (f : μ → β → R (Oc μ ρ)) : μ → List β → R (Oc μ ρ)
  | l, [] => .ok (.nx l)
  | l, x :: xs => (f l x).bind fun o => match o with
    | .nx l' => forR f l' xs
    | .rt r => .ok (.rt r)
def whileR {δ : Type} (c : μ → R (Bool × δ)) (f : μ → δ → R μ) : Nat → μ → R (μ × δ)
  | 0, _ => .no
  | n + 1, l => (c l).bind fun z => if z.1 = true then (f l z.2).bind fun l' => whileR c f n l' else .ok (l, z.2)
variable {κ : Type} {kn : Nat}
theorem hb_for {m : SM ς (List β)} {P : β → VP} {μ' : Type} {f : μ' → β → R μ'} {l0 : ς → μ'} {k : μ' → R α} {asL : μ' → SA} {osL : μ' → OS} {asT : μ' → β → SA} {ts : List Nat} (o : Ok X C kn) (hi : HI X C tg e as O m P) (s : ς)
    (h0 : ∀ s', Wk as (asL (l0 s'))) (h1 : ∀ s', O s' = osL (l0 s')) (ht : ∀ l a, HTg X C tg (asL l) (P a) ts (asT l a)) (hb : ∀ l a, HB X C body (asT l a) (osL l) (f l a) Oc.nx (NS C asL osL) T) (hr : ∀ l, HB X C rst (asL l) (osL l) (k l) ι N T)
    (hs : ∀ x, foldedSetIterable e X.env x = pure x := by intro _; rfl) :
    HB X C (.For tg e body [] pos :: rst) as (O s) ((m s).bind fun z => (foldR f (l0 z.2) z.1).bind k) ι N T :=
  ⟨pss_weak (pss_cons (ps_for o.po o.calm hi.pi (pg_ex fun (la : μ' × β) => (ht la.1 la.2).pg) (pss_ex fun (la : μ' × β) => (hb la.1 la.2).pss) hs) (pss_ex fun l => (hr l).pss)) fun D σ H ⟨L, S, lL, st, sl, ow, q⟩ => by
    refine ⟨s, S, st, sl, ow, R.post_mono (R.post_bind.mp q) (fun z k' J S0 H0 l' st' ow' it => ?_) fun _ z => xq_le z⟩
    have lL0 := lL.trans l'
    refine ⟨fun i n σ1 H1 => ∃ l S1, n = z.1.length - i ∧ S0.le S1 ∧ StOk C.B S1 H1 ∧ Sl S1 σ1 (asL l) ∧ OwL C.B S1 H1 (osL l) ∧ (foldR f l (z.1.drop i)).post (fun l => (k l).post (fun a => goes (N L) T D (ι a)) (C.xq L)) (C.xq L),
      ⟨z.1.length - 0, l0 z.2, S0, rfl, .refl _, st', (sl.mono l').wk (h0 _), by rw [← h1]; exact ow', R.post_bind.mp k'⟩, ?_⟩
    rintro i n σ1 H1 ⟨l, S1, en, l1, st1, sl1, ow1, q1⟩
    by_cases hi : i < z.1.length
    · refine .inr ⟨it.go i S1 H1 l1 st1 hi, fun σ2 H2 => ∃ l S2, S0.le S2 ∧ StOk C.B S2 H2 ∧ Sl S2 σ2 (asL l) ∧ OwL C.B S2 H2 (osL l) ∧ (foldR f l (z.1.drop (i + 1))).post (fun l => (k l).post (fun a => goes (N L) T D (ι a)) (C.xq L)) (C.xq L), ?_, ?_⟩
      · rintro σ2 H2 ⟨l, S2, l2, st2, sl2, ow2, q2⟩
        exact ⟨n - 1, by omega, l, S2, by omega, l2, st2, sl2, ow2, q2⟩
      · intro x H2 hy
        obtain ⟨S2, l2, st2, ow2, p2⟩ := it.yld i z.1[i] S1 H1 x H2 l1 st1 (List.getElem?_eq_getElem hi) hy
        refine ⟨(l, z.1[i]), S2, st2, sl1.mono l2, p2, fun σ3 sl3 _ _ => ⟨(l, z.1[i]), S0, S2, l1.trans l2, st2, sl3, ow2 _ ow1, ?_⟩⟩
        rw [List.drop_eq_getElem_cons hi] at q1
        refine R.post_mono (R.post_bind.mp q1) (fun l3 q3 => ?_) fun _ z => xq_le z
        rintro σ4 H4 ⟨S4, l4, st4, sl4, ow4⟩
        exact ⟨l3, S4, l4, st4, sl4, ow4, q3⟩
    · rw [List.drop_eq_nil_of_le (by omega)] at q1
      exact .inl ⟨it.stop i S1 H1 l1 st1 (by omega), l, L, S1, lL0.trans l1, st1, sl1, ow1, q1⟩⟩
/-- a loop whose body may return -/
theorem hb_forX {m : SM ς (List β)} {P : β → VP} {μ' : Type} {f : μ' → β → R (Oc μ' ρ)} {l0 : ς → μ'} {k : μ' → R α} {kr : ρ → α} {asL : μ' → SA} {osL : μ' → OS} {asT : μ' → β → SA} {ts : List Nat} (o : Ok X C kn) (hi : HI X C tg e as O m P) (s : ς)
    (h0 : ∀ s', Wk as (asL (l0 s'))) (h1 : ∀ s', O s' = osL (l0 s')) (ht : ∀ l a, HTg X C tg (asL l) (P a) ts (asT l a)) (hb : ∀ l a, HB X C body (asT l a) (osL l) (f l a) id (NS C asL osL) T) (hr : ∀ l, HB X C rst (asL l) (osL l) (k l) ι N T) (hk : ∀ r, ι (kr r) = .rt r)
    (hs : ∀ x, foldedSetIterable e X.env x = pure x := by intro _; rfl) :
    HB X C (.For tg e body [] pos :: rst) as (O s) ((m s).bind fun z => (forR f (l0 z.2) z.1).bind fun o => match o with | .nx l => k l | .rt r => .ok (kr r)) ι N T :=
  ⟨pss_weak (pss_cons (ps_for o.po o.calm hi.pi (pg_ex fun (la : μ' × β) => (ht la.1 la.2).pg) (pss_ex fun (la : μ' × β) => (hb la.1 la.2).pss) hs) (pss_ex fun l => (hr l).pss)) fun D σ H ⟨L, S, lL, st, sl, ow, q⟩ => by
    refine ⟨s, S, st, sl, ow, R.post_mono (R.post_bind.mp q) (fun z k' J S0 H0 l' st' ow' it => ?_) fun _ z => xq_le z⟩
    have lL0 := lL.trans l'
    let fin : Oc μ' ρ → Prop := fun o => (match o with | .nx l => k l | .rt r => .ok (kr r)).post (fun a => goes (N L) T D (ι a)) (C.xq L)
    refine ⟨fun i n σ1 H1 => ∃ l S1, n = z.1.length - i ∧ S0.le S1 ∧ StOk C.B S1 H1 ∧ Sl S1 σ1 (asL l) ∧ OwL C.B S1 H1 (osL l) ∧ (forR f l (z.1.drop i)).post fin (C.xq L),
      ⟨z.1.length - 0, l0 z.2, S0, rfl, .refl _, st', (sl.mono l').wk (h0 _), by rw [← h1]; exact ow', R.post_bind.mp k'⟩, ?_⟩
    rintro i n σ1 H1 ⟨l, S1, en, l1, st1, sl1, ow1, q1⟩
    by_cases hi : i < z.1.length
    · refine .inr ⟨it.go i S1 H1 l1 st1 hi, fun σ2 H2 => ∃ l S2, S0.le S2 ∧ StOk C.B S2 H2 ∧ Sl S2 σ2 (asL l) ∧ OwL C.B S2 H2 (osL l) ∧ (forR f l (z.1.drop (i + 1))).post fin (C.xq L), ?_, ?_⟩
      · rintro σ2 H2 ⟨l, S2, l2, st2, sl2, ow2, q2⟩
        exact ⟨n - 1, by omega, l, S2, by omega, l2, st2, sl2, ow2, q2⟩
      · intro x H2 hy
        obtain ⟨S2, l2, st2, ow2, p2⟩ := it.yld i z.1[i] S1 H1 x H2 l1 st1 (List.getElem?_eq_getElem hi) hy
        refine ⟨(l, z.1[i]), S2, st2, sl1.mono l2, p2, fun σ3 sl3 _ _ => ⟨(l, z.1[i]), S0, S2, l1.trans l2, st2, sl3, ow2 _ ow1, ?_⟩⟩
        rw [List.drop_eq_getElem_cons hi] at q1
        refine R.post_mono (R.post_bind.mp q1) (fun o3 q3 => ?_) fun _ z => xq_le z
        cases o3 with
        | nx l3 =>
          rintro σ4 H4 ⟨S4, l4, st4, sl4, ow4⟩
          exact ⟨l3, S4, l4, st4, sl4, ow4, q3⟩
        | rt r =>
          have q3 : goes (N L) T D (ι (kr r)) := q3
          rw [hk] at q3
          exact q3
    · rw [List.drop_eq_nil_of_le (by omega)] at q1
      exact .inl ⟨it.stop i S1 H1 l1 st1 (by omega), l, L, S1, lL0.trans l1, st1, sl1, ow1, q1⟩⟩
/-- while: the mirror's turns are counted -/
theorem hb_while {δ : Type} {μ' : Type} {c : Expr} {mc : μ' → R (Bool × δ)} {f : μ' → δ → R μ'} {n : Nat} {l0 : μ'} {k : μ' × δ → R α} {asL : μ' → SA} {osL : μ' → δ → OS} {d0 : μ' → δ} (o : Ok X C kn)
    (h0 : Wk as (asL l0)) (h1 : os = osL l0 (d0 l0)) (hc : ∀ l, ∃ mc' : SM δ Bool, mc' (d0 l) = mc l ∧ HT X C c (asL l) (osL l) mc') (hb : ∀ l d, HB X C body (asL l) (osL l d) (f l d) Oc.nx (NS C asL fun l => osL l (d0 l)) T) (hr : ∀ l, HB X C rst (asL l.1) (osL l.1 l.2) (k l) ι N T) :
    HB X C (.While c body [] pos :: rst) as os ((whileR mc f n l0).bind k) ι N T :=
  ⟨pss_weak (pss_cons (ps_while o.po (pt_ex fun l => (Classical.choose_spec (hc l)).2.pt) (pss_ex fun (ld : μ' × δ) => (hb ld.1 ld.2).pss)) (pss_ex fun l => (hr l).pss)) fun D σ H ⟨L, S, lL, st, sl, ow, q⟩ => by
    refine ⟨fun n σ1 H1 => ∃ l S1, L.le S1 ∧ StOk C.B S1 H1 ∧ Sl S1 σ1 (asL l) ∧ OwL C.B S1 H1 (osL l (d0 l)) ∧ (whileR mc f n l).post (fun l => (k l).post (fun a => goes (N L) T D (ι a)) (C.xq L)) (C.xq L),
      ⟨n, l0, S, lL, st, sl.wk h0, by rw [← h1]; exact ow, R.post_bind.mp q⟩, ?_⟩
    rintro n σ1 H1 ⟨l, S1, l1, st1, sl1, ow1, q1⟩
    cases n with
    | zero => exact q1.elim
    | succ n =>
      obtain ⟨e1, _⟩ := Classical.choose_spec (hc l)
      refine ⟨l, d0 l, S1, st1, sl1, ow1, ?_⟩
      rw [e1]
      refine R.post_mono (R.post_bind.mp q1) (fun z q2 S2 H2 l2 st2 ow2 => ?_) fun _ z => xq_le z
      by_cases hz : z.1 = true
      · rw [if_pos hz] at q2 ⊢
        refine ⟨fun σ3 H3 => ∃ l S3, L.le S3 ∧ StOk C.B S3 H3 ∧ Sl S3 σ3 (asL l) ∧ OwL C.B S3 H3 (osL l (d0 l)) ∧ (whileR mc f n l).post (fun l => (k l).post (fun a => goes (N L) T D (ι a)) (C.xq L)) (C.xq L), fun σ' H' h => ⟨n, Nat.lt_succ_self n, h⟩, ?_⟩
        refine ⟨(l, z.2), L, S2, l1.trans l2, st2, sl1.mono l2, ow2, R.post_mono (R.post_bind.mp q2) (fun l3 q3 => ?_) fun _ z => z⟩
        rintro σ4 H4 ⟨S4, l4, st4, sl4, ow4⟩
        exact ⟨l3, S4, l4, st4, sl4, ow4, q3⟩
      · rw [if_neg hz] at q2 ⊢
        exact ⟨(l, z.2), L, S2, l1.trans l2, st2, sl1.mono l2, ow2, q2⟩⟩
end
end Y

/-! Y: comprehensions, owned lists and dicts changed, calls of the text's own defs. -/
namespace Y
open PySem PySem.Spec PyProof.Rows L2

/-! ### comprehensions -/
theorem wipe_get (σ : L2.St) : ∀ (vs : List Nat) (j : Nat), j ∉ vs → (wipe σ vs)[j]? = σ[j]?
  | [], _, _ => rfl
  | v :: vs, j, h => by
    rw [List.mem_cons, not_or] at h
    unfold wipe
    rw [List.getElem?_set_ne (Ne.symm h.1)]
    exact wipe_get σ vs j h.2
theorem wipe_in (σ : L2.St) : ∀ (vs : List Nat) (j : Nat), j ∈ vs → j < σ.length → (wipe σ vs)[j]? = some none
  | [], _, h, _ => by simp at h
  | v :: vs, j, h, hl => by
    unfold wipe
    by_cases e : v = j
    · subst e
      exact List.getElem?_set_self (by rw [wipe_length]; exact hl)
    · rw [List.getElem?_set_ne e]
      rcases List.mem_cons.mp h with q | q
      · exact (e q.symm).elim
      · exact wipe_in σ vs j q hl
theorem wipe_eq {σ τ : L2.St} {vs : List Nat} (hl : σ.length = τ.length) (h : ∀ j, j ∉ vs → σ[j]? = τ[j]?) : wipe σ vs = wipe τ vs := by
  apply List.ext_getElem?
  intro j
  by_cases hj : j ∈ vs
  · by_cases hn : j < σ.length
    · rw [wipe_in σ vs j hj hn, wipe_in τ vs j hj (by omega)]
    · rw [List.getElem?_eq_none (by rw [wipe_length]; omega), List.getElem?_eq_none (by rw [wipe_length]; omega)]
  · rw [wipe_get σ vs j hj, wipe_get τ vs j hj]; exact h j hj
def wipeA (as : SA) : List Nat → SA
  | [] => as
  | v :: vs => (wipeA as vs).set v none
theorem Sl.wipe {S : Sv} {σ : L2.St} {as : SA} (h : Sl S σ as) : ∀ vs : List Nat, Sl S (L2.wipe σ vs) (wipeA as vs)
  | [] => h
  | _ :: vs => (Sl.wipe h vs).un
abbrev Cf.blk (C : Cf) (B : Bs) : Cf := { C with B := B, W := fun _ _ _ _ => False }
section
variable {ς α β γ μ ρ π τ : Type} {X : Cx} {C : Cf} {as : SA} {O : ς → OS} {a b c e elt tg iter : Expr} {es : List Expr} {pos p : Pos} {w w1 w2 : Bool} {kn : Nat}
def lcS (t : α → SM ς Bool) (f : α → SM ς β) : List α → List β → ς → R (List β × ς)
  | [], ys, s => .ok (ys, s)
  | x :: xs, ys, s => (t x s).calm.bind fun b => if b.1 = true then (f x b.2).calm.bind fun z => (R.guard (ys.length < 16777216)).bind fun _ => lcS t f xs (ys ++ [z.1]) z.2 else lcS t f xs ys b.2
structure HTs (X : Cx) (C : Cf) (ifs : List Expr) (as : SA) (O : ς → OS) (m : SM ς Bool) : Prop where
  pt : PTs X ifs (tT C as O m)
theorem hts_nil : HTs X C [] as O (SM.ret true) := ⟨⟨fun pins s σ H Q I ⟨t, S, st, sl, ow, q⟩ => pts_nil.run pins s σ H Q I (q S H (.refl S) st ow)⟩⟩
theorem hts_one {t : SM ς Bool} (h : HT X C c as O t) : HTs X C [c] as O t := ⟨⟨fun pins s σ H Q I hw => (pts_one h.pt).run pins s σ H Q I hw⟩⟩
abbrev blkX (X : Cx) (s : Shared) (H : Hp) (scope : Scope) (cl : List (Str × Addr)) (A : Addr) (fp : List Addr) : Cx := X.blk s H scope (compEnvC scope cl A X.env) fp
/-- what a comprehension's parts make -/
structure Lcp (X : Cx) (C : Cf) (elt tg iter : Expr) (ifs : List Expr) (scope : Scope) (own : List (Str × Nat)) (as : SA) (O : ς → OS) (m : SM ς (List α)) (t : α → SM ς Bool) (f : α → SM ς β) (r : Rp β) : Prop where
  x : ∃ (P : α → VP) (ts : List Nat) (asT : α → SA), HI X C tg iter as O m P ∧ BlkOk X.N X.env.scope scope own ∧ (∀ j ∈ ts, j ∈ own.map (·.2)) ∧
    (∀ (s : Shared) (H : Hp) (cl : List (Str × Addr)) (A : Addr) (fp : List Addr) (B : Bs) (x : α), HTg (blkX X s H scope cl A fp) (C.blk B) tg (wipeA as (own.map (·.2))) (P x) ts (asT x)) ∧
    (∀ (s : Shared) (H : Hp) (cl : List (Str × Addr)) (A : Addr) (fp : List Addr) (B : Bs) (x : α), HTs (blkX X s H scope cl A fp) (C.blk B) ifs (asT x) O (t x)) ∧
    (∀ (s : Shared) (H : Hp) (cl : List (Str × Addr)) (A : Addr) (fp : List Addr) (B : Bs) (x : α), HX (blkX X s H scope cl A fp) (C.blk B) elt (asT x) O (f x) (VP.at true r))
def SM.lc (m : SM ς (List α)) (t : α → SM ς Bool) (f : α → SM ς β) : SM ς (List β) := fun s => (m s).bind fun z => lcS t f z.1 [] z.2
theorem lc_read {m : SM ς (List α)} {t : α → SM ς Bool} {f : α → SM ς β} {r : Rp β} {P : α → VP} {ts vs : List Nat} {asT : α → SA} (hts : ∀ j ∈ ts, j ∈ vs) {σ : L2.St} {H : Hp} {Q : VK}
    (h : tG (π := Addr) C as O (SM.lc m t f) (fun _ p => VP.ptr p) (fun a p => [⟨p, cLst r a, true⟩]) σ H Q) :
    tLc (tI C as O m P) (fun v σ H Q => ∃ Bx : Bs × α, tTg (C.blk Bx.1) (wipeA as vs) (P Bx.2) ts (asT Bx.2) v σ H Q) (fun σ H Q => ∃ Bx : Bs × α, tT (C.blk Bx.1) (asT Bx.2) O (t Bx.2) σ H Q) (fun σ H Q => ∃ Bx : Bs × α, tG (π := Unit) (C.blk Bx.1) (asT Bx.2) O (f Bx.2) (fun z _ => VP.at true r z) (fun _ _ => []) σ H Q) vs σ H Q := by
  obtain ⟨s, S, st, sl, ow, q⟩ := h
  refine ⟨s, S, st, sl, ow, R.post_mono (R.post_bind.mp q) (fun z k J S0 H0 l0 st0 ow0 it D hD => ?_) fun _ z => xq_le z⟩
  refine ⟨fun i n H1 => ∃ ys s1 S1, n = z.1.length - i ∧ S0.le S1 ∧ StOk C.B S1 H1 ∧ OwL C.B S1 H1 (⟨D, cLst r ys, true⟩ :: O s1) ∧ (lcS t f (z.1.drop i) ys s1).post (fun (z : List β × ς) => ∀ (q : Addr) (v : V) (S' : Sv) (H' : Hp), S.le S' → StOk C.B S' H' → OwL C.B S' H' (([⟨q, cLst r z.1, true⟩] : OS) ++ O z.2) → (VP.ptr q).p v S' → Q v H') (C.xq S),
    ⟨z.1.length - 0, [], z.2, S0, rfl, .refl _, st0.grow hD, ow0.new st0 hD ⟨[], rfl, trivial⟩, k⟩, ?_⟩
  rintro i n H1 ⟨ys, s1, S1, en, l1, st1, ow1, q1⟩
  by_cases hi : i < z.1.length
  · refine .inr ⟨it.go i S1 H1 l1 st1 hi, fun H2 => ∃ ys s2 S2, S0.le S2 ∧ StOk C.B S2 H2 ∧ OwL C.B S2 H2 (⟨D, cLst r ys, true⟩ :: O s2) ∧ (lcS t f (z.1.drop (i + 1)) ys s2).post (fun (z : List β × ς) => ∀ (q : Addr) (v : V) (S' : Sv) (H' : Hp), S.le S' → StOk C.B S' H' → OwL C.B S' H' (([⟨q, cLst r z.1, true⟩] : OS) ++ O z.2) → (VP.ptr q).p v S' → Q v H') (C.xq S), ?_, ?_⟩
    · rintro H2 ⟨ys, s2, S2, l2, st2, ow2, q2⟩
      exact ⟨n - 1, by omega, ys, s2, S2, by omega, l2, st2, ow2, q2⟩
    · intro x H2 hy
      obtain ⟨S2, l2, st2, ow2, p2⟩ := it.yld i z.1[i] S1 H1 x H2 l1 st1 (List.getElem?_eq_getElem hi) hy
      have l02 := l1.trans l2
      have sl2 := ((sl.mono l0).mono l02).wipe vs
      obtain ⟨hDy, ⟨o, hDo, vs', eo, hA⟩, ⟨hDf, hDk⟩, hDn, owO⟩ := ow2 _ ow1
      subst eo
      have hDy : S2.y D = none := hDy
      have hDo : H2 D = some (.lst vs') := hDo
      have hDk : C.B.kp D = none := hDk
      -- the new list is kept as it is meanwhile
      have kep : ∀ {S3 : Sv} {H3 : Hp}, StOk C.B S3 H3 → S3.y D = none → H3 D = some (.lst vs') → StOk { C.B with kp := upd C.B.kp D (.lst vs') } S3 H3 := fun {S3 H3} st3 h1 h2 => ⟨st3.gy, st3.yh, st3.g0, st3.b0, st3.fr, st3.tr, fun a u h => by
        by_cases e : a = D
        · subst e
          have h : upd C.B.kp a (.lst vs') a = some u := h
          rw [upd_same] at h
          exact ⟨h2.trans h, h1⟩
        · have h : upd C.B.kp D (.lst vs') a = some u := h
          rw [upd_ne e] at h
          exact st3.kp a u h⟩
      have unk : ∀ {S3 : Sv} {H3 : Hp}, StOk { C.B with kp := upd C.B.kp D (.lst vs') } S3 H3 → StOk C.B S3 H3 ∧ S3.y D = none ∧ H3 D = some (.lst vs') := fun {S3 H3} st3 => by
        have hD3 := st3.kp D (.lst vs') upd_same
        refine ⟨⟨st3.gy, st3.yh, st3.g0, st3.b0, st3.fr, st3.tr, fun a u h => ?_⟩, hD3.2, hD3.1⟩
        refine st3.kp a u ?_
        show upd C.B.kp D (.lst vs') a = some u
        rw [upd_ne fun e => by rw [e, hDk] at h; cases h]
        exact h
      have owk : ∀ {S3 : Sv} {H3 : Hp} {us : OS}, OwL C.B S3 H3 us → (∀ e ∈ us, e.p ≠ D) → OwL { C.B with kp := upd C.B.kp D (.lst vs') } S3 H3 us := fun {S3 H3 us} h n => h.move (.refl _) (fun e m => (h.mem m).1) (fun _ _ _ z => z) (fun _ _ _ z => z) fun e m z => by
        show upd C.B.kp D (.lst vs') e.p = none
        rw [upd_ne (n e m)]; exact z
      have uwk : ∀ {S3 : Sv} {H3 : Hp} {us : OS}, OwL { C.B with kp := upd C.B.kp D (.lst vs') } S3 H3 us → OwL C.B S3 H3 us ∧ ∀ e ∈ us, e.p ≠ D := fun {S3 H3 us} h => by
        have nD : ∀ e ∈ us, e.p ≠ D := fun e m q => by
          have z := (h.mem m).2.2.2
          have z : upd C.B.kp D (.lst vs') e.p = none := z
          rw [q, upd_same] at z; cases z
        refine ⟨h.move (.refl _) (fun e m => (h.mem m).1) (fun _ _ _ z => z) (fun _ _ _ z => z) fun e m z => ?_, nD⟩
        have z : upd C.B.kp D (.lst vs') e.p = none := z
        rw [upd_ne (nD e m)] at z; exact z
      refine ⟨({ C.B with kp := upd C.B.kp D (.lst vs') }, z.1[i]), S2, kep st2 hDy hDo, sl2, p2, fun σ3 sl3 hl3 he3 => ⟨?_, ?_⟩⟩
      · refine wipe_eq (by rw [hl3, wipe_length]) fun j hj => ?_
        rw [he3 j fun m => hj (hts j m), wipe_get σ vs j hj]
      · rw [List.drop_eq_getElem_cons hi] at q1
        refine ⟨({ C.B with kp := upd C.B.kp D (.lst vs') }, z.1[i]), s1, S2, kep st2 hDy hDo, sl3, owk owO hDn, R.calm_post (R.post_mono (R.post_bind.mp q1) (fun b q3 S3 H3 l3 st3 ow3 => ?_) fun _ z => z) _⟩
        obtain ⟨st3', hy3, hD3⟩ := unk st3
        obtain ⟨ow3', n3⟩ := uwk ow3
        by_cases hb : b.1 = true
        · rw [if_pos hb] at q3 ⊢
          refine ⟨({ C.B with kp := upd C.B.kp D (.lst vs') }, z.1[i]), b.2, S3, st3, sl3.mono l3, ow3, R.calm_post (R.post_mono (R.post_bind.mp q3) (fun y q4 _ v S4 H4 l4 st4 ow4 pv => ?_) fun _ z => z) _⟩
          obtain ⟨st4', hy4, hD4⟩ := unk st4
          obtain ⟨ow4', n4⟩ := uwk ow4
          obtain ⟨hz, q4⟩ := R.guard_post.mp (R.post_bind.mp q4)
          have hA4 : A2 r S4.g ys vs' := hA.mono ((l3.trans l4).g)
          refine ⟨vs', hD4, by rw [← hA4.length, sizeLine_eq]; exact hz, ys ++ [y.1], y.2, S4, (l02.trans l3).trans l4, st4'.put hy4 hDk, ?_, q4⟩
          have full : OwL C.B S4 H4 (⟨D, cLst r ys, true⟩ :: O y.2) := ⟨hy4, ⟨_, hD4, vs', rfl, hA4⟩, ⟨hDf, hDk⟩, n4, ow4'⟩
          exact full.put (i := 0) (e := ⟨D, cLst r ys, true⟩) rfl ⟨_, rfl, hA4.snoc pv⟩
        · rw [if_neg hb] at q3 ⊢
          exact ⟨ys, b.2, S3, l02.trans l3, st3', ⟨hy3, ⟨_, hD3, vs', rfl, hA.mono l3.g⟩, ⟨hDf, hDk⟩, n3, ow3'⟩, q3⟩
  · rw [List.drop_eq_nil_of_le (by omega)] at q1
    exact .inl ⟨it.stop i S1 H1 l1 st1 (by omega), q1 D (.ref D) S1 H1 (l0.trans l1) st1 ow1 rfl⟩
theorem hn_lc {ifs : List Expr} {scope : Scope} {own : List (Str × Nat)} {m : SM ς (List α)} {t : α → SM ς Bool} {f : α → SM ς β} {r : Rp β} (o : Ok X C kn) (h : Lcp X C elt tg iter ifs scope own as O m t f r) (hs : ∀ x, foldedSetIterable iter X.env x = pure x := by intro _; rfl) :
    HN X C (.ListComp elt [⟨tg, iter, ifs, 0⟩] scope pos) as O (SM.lc m t f) (cLst r) := by
  obtain ⟨P, ts, asT, hi, ok, hts, hg, ht, he⟩ := h.x
  exact ⟨pe_weak (pe_lc o.calm o.nd hi.pi ok (fun s H A cl fp => pg_ex fun (Bx : Bs × α) => (hg s H cl A fp Bx.1 Bx.2).pg) (fun s H A cl fp => pts_ex fun (Bx : Bs × α) => (ht s H cl A fp Bx.1 Bx.2).pt) (fun s H A cl fp => pe_ex fun (Bx : Bs × α) => (he s H cl A fp Bx.1 Bx.2).pe) hs) fun σ H Q h => lc_read hts h⟩
end
end Y

/-! Y: the text's own defs called; owned lists and dicts changed; dicts read. -/
namespace Y
open PySem PySem.Spec PyProof.Rows L2

/-- what a def promises: its mirror m -/
def spF {τ ρ π0 π : Type} (xr : Er → Value → Option Addr → Hp → Hp → Prop) (Ps : τ → π0 → List VP) (os0 : τ → π0 → OS) (m : τ → R ρ) (Bv : ρ → π → VP) (os1 : ρ → π0 → OS) (nw : ρ → π → OS) : Sp := fun vs H Q E =>
  ∃ (x : τ) (q0 : π0) (G : Hp), Ex G H ∧ (∀ e ∈ os0 x q0, G e.p = none) ∧ AV ⟨G, hide H ((os0 x q0).map (·.p))⟩ vs (Ps x q0) ∧ OwL (Bs.sub G H ((os0 x q0).map (·.p))) ⟨G, hide H ((os0 x q0).map (·.p))⟩ H (os0 x q0) ∧
    (m x).post (fun r => ∀ q v S' H', StOk (Bs.sub G H ((os0 x q0).map (·.p))) S' H' → OwL (Bs.sub G H ((os0 x q0).map (·.p))) S' H' (nw r q ++ os1 r q0) → (Bv r q).p v S' → Q v H')
      (fun ε => ∀ cls d S' H', StOk (Bs.sub G H ((os0 x q0).map (·.p))) S' H' → OwL (Bs.sub G H ((os0 x q0).map (·.p))) S' H' (os0 x q0) → xr ε cls d S'.g H' → E cls d H')
def asP (Ps : List VP) (n : Nat) : SA := Ps.map some ++ List.replicate n none
theorem AV.get {S : Sv} : ∀ {vs : List V} {Ps : List VP} {i : Nat} {P : VP}, AV S vs Ps → Ps[i]? = some P → ∃ v, vs[i]? = some v ∧ P.p v S
  | [], [], _, _, _, e => by simp at e
  | v :: _, Q :: _, 0, P, h, e => by
    have e' : Q = P := Option.some.inj e
    subst e'
    exact ⟨v, rfl, h.1⟩
  | _ :: vs, _ :: Ps, i + 1, P, h, e => AV.get (i := i) h.2 e
  | [], _ :: _, _, _, h, _ => h.elim
  | _ :: _, [], _, _, h, _ => h.elim
theorem start_sl {S : Sv} {N : List Str} {vs : List V} {Ps : List VP} {n : Nat} (h : AV S vs Ps) (hn : n + Ps.length ≤ N.length) : Sl S (L2.start N vs) (asP Ps n) := by
  have hl := h.length
  refine ⟨?_, fun i P e => ?_⟩
  · unfold asP L2.start
    simp only [List.length_append, List.length_map, List.length_replicate]
    omega
  · unfold asP at e
    by_cases hi : i < Ps.length
    · rw [List.getElem?_append_left (by simpa using hi), List.getElem?_map] at e
      obtain ⟨Q, e1, e2⟩ := Option.map_eq_some_iff.mp e
      cases e2
      obtain ⟨v, h1, h2⟩ := h.get e1
      refine ⟨v, ?_, h2⟩
      unfold L2.start
      rw [List.getElem?_append_left (by simp; omega), List.getElem?_map, h1]
      rfl
    · rw [List.getElem?_append_right (by simpa using Nat.le_of_not_lt hi), List.getElem?_replicate] at e
      split at e
      · injection e with e; cases e
      · cases e
/-- a body's configuration -/
abbrev Cf.fn (B : Bs) (E : XK) (ox : OS) (xr : Er → Value → Option Addr → Hp → Hp → Prop) : Cf := ⟨B, fun cls d _ H => E cls d H, [], ox, xr⟩
/-- what a body has handed back -/
def TF {ρ π0 π : Type} (B : Bs) (Bv : ρ → π → VP) (os1 : ρ → π0 → OS) (nw : ρ → π → OS) (q0 : π0) : ρ → V → Hp → Prop := fun r v H => ∃ q S, StOk B S H ∧ OwL B S H (nw r q ++ os1 r q0) ∧ (Bv r q).p v S
section
variable {P : Program} {w : World} {K : PySem.W.Frag} {mg : Str → Option Value} {base : Heap}
/-- a def of the text that hands back at every way -/
theorem fn_ok {τ ρ π0 π : Type} {x qual : Str} {st : Stmt} {f : Addr} {fd : FuncData} {N ps : List Str} {k : Nat} {xr : Er → Value → Option Addr → Hp → Hp → Prop} {Ps : τ → π0 → List VP} {os0 : τ → π0 → OS} {m : τ → R ρ} {Bv : ρ → π → VP} {os1 : ρ → π0 → OS} {nw : ρ → π → OS} (F : Fun K x qual st f fd) (Sc : FnScope N ps (defScope st))
    (n : Nat) (hlen : ∀ x q0, (Ps x q0).length = ps.length) (hN : n + ps.length = N.length)
    (hb : ∀ (cdv : Value) (A : Around) (outer : List Env) (s : Shared) (H : Hp) (E : XK) (B : Bs) (x : τ) (q0 : π0), Ok (cxOf (L2.CX P w) P w K mg base N qual (defScope st) f cdv A outer s H E) (Cf.fn B E (os0 x q0) xr) k →
      HB (μ := Unit) (cxOf (L2.CX P w) P w K mg base N qual (defScope st) f cdv A outer s H E) (Cf.fn B E (os0 x q0) xr) (defBody st) (asP (Ps x q0) n) (os0 x q0) (m x) Oc.rt NF (TF B Bv os1 nw q0)) :
    FnOk P w K mg base (L2.CX P w) (k + 1) f fd ps (spF xr Ps os0 m Bv os1 nw) := by
  refine F.okX Sc (fun vs H Q E ⟨x, q0, G, _, _, h, _⟩ => by rw [h.length, hlen]) fun cdv A outer s H vs Q E hr ⟨x, q0, G, hG, hn, hv, how, h⟩ => ?_
  have o : Ok (cxOf (L2.CX P w) P w K mg base N qual (defScope st) f cdv A outer s H E) (Cf.fn (Bs.sub G H ((os0 x q0).map (·.p))) E (os0 x q0) xr) k := ⟨rfl, Sc.nd, hr, takes_of rfl rfl rfl rfl, passes_of rfl⟩
  refine ⟨_, (hb cdv A outer s H E _ x q0 o).pss, ?_⟩
  have st0 : StOk (Bs.sub G H ((os0 x q0).map (·.p))) ⟨G, hide H ((os0 x q0).map (·.p))⟩ H := {
    gy := fun a u e => by
      have e : G a = some u := e
      show hide H _ a = some u
      rw [hide_out fun m => by
        obtain ⟨e', m1, m2⟩ := List.mem_map.mp m
        have z := hn e' m1
        rw [m2] at z
        rw [z] at e; cases e]
      exact hG a u e
    yh := hide_ex
    g0 := Ex.refl _
    b0 := fun a u e n => by
      show hide H _ a = some u
      rw [hide_out n]; exact e
    fr := fun _ h _ => h
    tr := fun _ h => h
    kp := fun _ _ h => by cases h }
  refine ⟨_, _, .refl _, st0, start_sl hv (by rw [hlen, hN]; exact Nat.le_refl _), how, R.post_mono h (fun r k v H' ⟨q, S', st', ow', pv⟩ => k q v S' H' st' ow' pv) fun ε k cls d S' H' σ _ st' _ ow' hx => k cls d S' H' st' ow' hx⟩
/-- .. that hands back None at its end -/
theorem fn_okN {τ ρ π0 : Type} {x qual : Str} {st : Stmt} {f : Addr} {fd : FuncData} {N ps : List Str} {k : Nat} {xr : Er → Value → Option Addr → Hp → Hp → Prop} {Ps : τ → π0 → List VP} {os0 : τ → π0 → OS} {m : τ → R ρ} {os1 : ρ → π0 → OS} (F : Fun K x qual st f fd) (Sc : FnScope N ps (defScope st))
    (n : Nat) (hlen : ∀ x q0, (Ps x q0).length = ps.length) (hN : n + ps.length = N.length)
    (hb : ∀ (cdv : Value) (A : Around) (outer : List Env) (s : Shared) (H : Hp) (E : XK) (B : Bs) (x : τ) (q0 : π0), Ok (cxOf (L2.CX P w) P w K mg base N qual (defScope st) f cdv A outer s H E) (Cf.fn B E (os0 x q0) xr) k →
      HB (ρ := Unit) (cxOf (L2.CX P w) P w K mg base N qual (defScope st) f cdv A outer s H E) (Cf.fn B E (os0 x q0) xr) (defBody st) (asP (Ps x q0) n) (os0 x q0) (m x) Oc.nx (NS (Cf.fn B E (os0 x q0) xr) (fun _ => []) fun r => os1 r q0) (fun _ _ _ => False)) :
    FnOk P w K mg base (L2.CX P w) (k + 1) f fd ps (spF (π := Unit) xr Ps os0 m (fun _ _ => VP.at true rNon ()) os1 fun _ _ => []) := by
  refine F.okX Sc (fun vs H Q E ⟨x, q0, G, _, _, h, _⟩ => by rw [h.length, hlen]) fun cdv A outer s H vs Q E hr ⟨x, q0, G, hG, hn, hv, how, h⟩ => ?_
  have o : Ok (cxOf (L2.CX P w) P w K mg base N qual (defScope st) f cdv A outer s H E) (Cf.fn (Bs.sub G H ((os0 x q0).map (·.p))) E (os0 x q0) xr) k := ⟨rfl, Sc.nd, hr, takes_of rfl rfl rfl rfl, passes_of rfl⟩
  refine ⟨_, (hb cdv A outer s H E _ x q0 o).pss, ?_⟩
  have st0 : StOk (Bs.sub G H ((os0 x q0).map (·.p))) ⟨G, hide H ((os0 x q0).map (·.p))⟩ H := {
    gy := fun a u e => by
      have e : G a = some u := e
      show hide H _ a = some u
      rw [hide_out fun m => by
        obtain ⟨e', m1, m2⟩ := List.mem_map.mp m
        have z := hn e' m1
        rw [m2] at z
        rw [z] at e; cases e]
      exact hG a u e
    yh := hide_ex
    g0 := Ex.refl _
    b0 := fun a u e n => by
      show hide H _ a = some u
      rw [hide_out n]; exact e
    fr := fun _ h _ => h
    tr := fun _ h => h
    kp := fun _ _ h => by cases h }
  refine ⟨_, _, .refl _, st0, start_sl hv (by rw [hlen, hN]; exact Nat.le_refl _), how, R.post_mono h (fun r k σ' H' ⟨S', _, st', _, ow'⟩ => k () .non S' H' st' ow' rfl) fun ε k cls d S' H' σ _ st' _ ow' hx => k cls d S' H' st' ow' hx⟩
end

section
variable {ς α β γ μ ρ π τ π0 : Type} {X : Cx} {C : Cf} {as : SA} {O : ς → OS} {a b c e elt tg iter : Expr} {es : List Expr} {pos p apos : Pos} {w w1 w2 : Bool} {kn k : Nat}
/-! ### a call of the text's own def; what it may raise is none here -/
def AllF (nw : OS) : Prop := ∀ e ∈ nw, e.f = true
theorem allF_nil : AllF [] := fun _ m => by cases m
theorem allF_cons {q : Addr} {c : Ct} {nw : OS} (h : AllF nw) : AllF (⟨q, c, true⟩ :: nw) := fun e m => by
  rcases List.mem_cons.mp m with z | z
  · subst z; rfl
  · exact h e z
/-- what is new there is new here -/
theorem call_new {B : Bs} {S S1 : Sv} {H H1 : Hp} {own : List Addr} {nw os : OS} (st : StOk B S H) (st1 : StOk (Bs.sub S.g H own) S1 H1) (hf : AllF nw) (h : OwL (Bs.sub S.g H own) S1 H1 nw) (ow : OwL B S H os) (ow' : OwL B (S.back S1) H1 os) : OwL B (S.back S1) H1 (nw ++ os) := by
  have hn : ∀ e ∈ nw, H e.p = none := fun e m => (h.mem m).2.2.1 (hf e m)
  refine (back_in st1 h (fun e m _ z => st.bnone z) (fun e m => st.ynone (hn e m)) fun e m => st.knone (hn e m)).app ow' fun e m u mu z => ?_
  obtain ⟨_, ⟨o, h2, _⟩, _⟩ := ow.mem mu
  rw [z, hn e m] at h2; cases h2
theorem hg_call {xr : Er → Value → Option Addr → Hp → Hp → Prop} {Ps : τ → List VP} {m : τ → R ρ} {Bv : ρ → π → VP} {nw : ρ → π → OS} {f : Addr} {fd : FuncData} {ps : List Str} {x : Str} {ma : SM ς τ} (F : FnOk X.prog X.w X.K X.mg X.base (L2.CX X.prog X.w) k f fd ps (spF (π0 := Unit) xr (fun x _ => Ps x) (fun _ _ => []) m Bv (fun _ _ => []) nw)) (o : Ok X C kn) (hkn : k ≤ kn)
    (hm : X.mg x = some (.ref f)) (hk : PySem.W.keepIn X.K (.ref f) = true) (hb : Binds X.K fd ps []) (ha : HA X C (e :: es) as O ma Ps) (hB : ∀ r q, PGo (Bv r q)) (hf : ∀ r q, AllF (nw r q)) (hg : Gl X x := by rfl)
    (hdb : (x == ("__debug__" : Str)) = false := by decide) (he : starEach (e :: es) X.env = (false, eval e X.env) :: starEach es X.env := by rfl) (hpl : (backTo pos (starEach es X.env)).any (·.1) = false := by rfl) :
    HG X C (.Call (.Name x p) (e :: es) [] pos) as O (SM.bnd1 (fun z => (m z).calm) ma) Bv nw :=
  ⟨pe_weak (pe_callSD F (o.room.mono hkn) hg hm hk hb .nil (fun σ => passAt o.tk σ) ha.pa hdb he hpl) fun σ H Q ⟨s, S, st, sl, ow, q⟩ =>
  ⟨s, S, st, sl, ow, R.post_mono (R.post_bind.mp q) (fun z k vs S1 H1 l1 st1 ow1 pv => by
    show spF _ _ _ _ _ _ _ (vs ++ []) H1 Q _
    rw [List.append_nil]
    have k := R.post_bind.mp k
    refine ⟨z.1, (), S1.g, st1.gy.trans st1.yh, (fun _ m => by cases m), ?_, trivial, R.calm_post (R.post_mono k (fun r k2 q v S2 H2 st2 ow2 p2 => ?_) fun _ z => z) _⟩
    · show AV ⟨S1.g, hide H1 []⟩ vs (Ps z.1)
      refine AV.mono (S := S1) (S' := ⟨S1.g, hide H1 []⟩) ⟨Ex.refl _, ?_⟩ pv
      show Ex S1.y (hide H1 [])
      rw [hide_nil]; exact st1.yh
    · have ow2 : OwL (Bs.sub S1.g H1 []) S2 H2 (nw r q ++ []) := ow2
      rw [List.append_nil] at ow2
      exact k2 q v (S1.back S2) H2 (l1.trans (back_le st2)) (back_ok st1 st2 (fun _ m => by cases m) (fun _ m => by cases m)) (call_new st1 st2 (hf r q) ow2 ow1 (back_ow st1 st2 ow1 fun _ _ m => by cases m)) (hB r q v S2 _ rfl p2)) fun _ z => xq_le z⟩⟩
/-- .. with one owned thing lent to be changed: it stands at place i among the owned -/
theorem hg_call1 {δ : Type} {xr : Er → Value → Option Addr → Hp → Hp → Prop} {Ps : τ → Addr → List VP} {ct : δ → Ct} {sel0 : τ → δ} {m : τ → R ρ} {Bv : ρ → π → VP} {sel1 : ρ → δ} {nw : ρ → π → OS} {f : Addr} {fd : FuncData} {ps : List Str} {x : Str} {ma : SM ς β} {Pa : β → List VP}
    (F : FnOk X.prog X.w X.K X.mg X.base (L2.CX X.prog X.w) k f fd ps (spF (π0 := Addr) xr Ps (fun x q => [⟨q, ct (sel0 x), false⟩]) m Bv (fun r q => [⟨q, ct (sel1 r), false⟩]) nw)) (o : Ok X C kn) (hkn : k ≤ kn)
    (hm : X.mg x = some (.ref f)) (hk : PySem.W.keepIn X.K (.ref f) = true) (hb : Binds X.K fd ps []) (i : Nat) {q0 : Addr} {fl : Bool} (sel : ς → δ) (put : ς → δ → ς) (mk : β → δ → τ) (ha : HA X C (e :: es) as O ma Pa) (hPs : ∀ z d, Ps (mk z d) q0 = Pa z) (hs0 : ∀ z d, sel0 (mk z d) = d)
    (hO : ∀ s, (O s)[i]? = some ⟨q0, ct (sel s), fl⟩) (hput : ∀ s d, (O s).set i ⟨q0, ct d, fl⟩ = O (put s d)) (hB : ∀ r q, PGo (Bv r q)) (hf : ∀ r q, AllF (nw r q)) (hg : Gl X x := by rfl)
    (hdb : (x == ("__debug__" : Str)) = false := by decide) (he : starEach (e :: es) X.env = (false, eval e X.env) :: starEach es X.env := by rfl) (hpl : (backTo pos (starEach es X.env)).any (·.1) = false := by rfl) :
    HG X C (.Call (.Name x p) (e :: es) [] pos) as O (fun s => (ma s).bind fun z => (m (mk z.1 (sel z.2))).calm.bind fun r => .ok (r, put z.2 (sel1 r))) Bv nw :=
  ⟨pe_weak (pe_callSD F (o.room.mono hkn) hg hm hk hb .nil (fun σ => passAt o.tk σ) ha.pa hdb he hpl) fun σ H Q ⟨s, S, st, sl, ow, q⟩ =>
  ⟨s, S, st, sl, ow, R.post_mono (R.post_bind.mp q) (fun z k vs S1 H1 l1 st1 ow1 pv => by
    show spF _ _ _ _ _ _ _ (vs ++ []) H1 Q _
    rw [List.append_nil]
    have k := R.post_bind.mp k
    obtain ⟨hy, ⟨u, hu1, hu2⟩, hfl, hkp⟩ := ow1.get (hO z.2)
    have hy : S1.y q0 = none := hy
    have hmem : ∀ a ∈ [q0], S1.y a = none := fun a m => by
      have e : a = q0 := by simpa using m
      rw [e]; exact hy
    have hkm : ∀ a ∈ [q0], C.B.kp a = none := fun a m => by
      have e : a = q0 := by simpa using m
      rw [e]; exact hkp
    have ld := lend_le st1 hmem
    refine ⟨mk z.1 (sel z.2), q0, S1.g, st1.gy.trans st1.yh, ?_, ?_, ?_, R.calm_post (R.post_mono k (fun r k2 q v S2 H2 st2 ow2 p2 => ?_) fun _ z => z) _⟩
    · intro e m
      have e1 : e = ⟨q0, ct (sel0 (mk z.1 (sel z.2))), false⟩ := by simpa using m
      rw [e1]; exact st1.gnone hy
    · rw [hPs]
      exact pv.mono ld
    · show OwL (Bs.sub S1.g H1 [q0]) ⟨S1.g, hide H1 [q0]⟩ H1 [⟨q0, ct (sel0 (mk z.1 (sel z.2))), false⟩]
      rw [hs0]
      exact ⟨hide_in (by simp), ⟨u, hu1, hu2⟩, ⟨(fun z => by cases z), rfl⟩, (fun _ m => by cases m), trivial⟩
    · have st2 : StOk (Bs.sub S1.g H1 [q0]) S2 H2 := st2
      have ow2 : OwL (Bs.sub S1.g H1 [q0]) S2 H2 (nw r q ++ [⟨q0, ct (sel1 r), false⟩]) := ow2
      have hsep : ∀ e ∈ nw r q, e.p ≠ q0 := fun e m z => by
        have h1 := (ow2.left.mem m).2.2.1 (hf r q e m)
        have h1 : H1 e.p = none := h1
        rw [z, hu1] at h1; cases h1
      obtain ⟨h1, ⟨u', h2, h3⟩, _⟩ := ow2.right
      -- the owned ones behind the call
      have own2 : OwL C.B (S1.back S2) H2 ((O z.2).set i ⟨q0, ct (sel1 r), fl⟩) := by
        have base : ∀ {os : OS} {j : Nat}, OwL C.B S1 H1 os → os[j]? = some ⟨q0, ct (sel z.2), fl⟩ → OwL C.B (S1.back S2) H2 (os.set j ⟨q0, ct (sel1 r), fl⟩) := by
          intro os
          induction os with
          | nil => intro j _ h; simp at h
          | cons a t ih =>
            intro j h hj
            obtain ⟨g1, g2, g3, g4, g5⟩ := h
            cases j with
            | zero =>
              have ea : a = ⟨q0, ct (sel z.2), fl⟩ := Option.some.inj hj
              subst ea
              exact ⟨back_none st1 st2 hy hu1, ⟨u', h2, h3⟩, g3, g4, back_ow st1 st2 g5 fun e m z => by
                have e : e.p = q0 := by simpa using z
                exact g4 _ m e⟩
            | succ j =>
              have hj : t[j]? = some ⟨q0, ct (sel z.2), fl⟩ := hj
              have ne : a.p ≠ q0 := (g4 _ (List.mem_of_getElem? hj)).symm
              obtain ⟨o', g2a, g2b⟩ := g2
              refine ⟨back_none st1 st2 g1 g2a, ⟨o', st2.yh _ _ (st2.b0 _ _ g2a (by simpa using ne)), a.c.mono (back_le st2).g g2b⟩, g3, fun e m => ?_, ih g5 hj⟩
              rcases List.mem_or_eq_of_mem_set m with m | m
              · exact g4 e m
              · subst m; exact ne.symm
        exact base ow1 (hO z.2)
      have own3 := own2
      rw [hput] at own3
      have fin : OwL C.B (S1.back S2) H2 (nw r q ++ O (put z.2 (sel1 r))) := by
        have hn : ∀ e ∈ nw r q, H1 e.p = none := fun e m => (ow2.left.mem m).2.2.1 (hf r q e m)
        refine (back_in st2 ow2.left (fun e m _ z => st1.bnone z) (fun e m => st1.ynone (hn e m)) fun e m => st1.knone (hn e m)).app own3 fun e m w' mw z' => ?_
        rw [← hput] at mw
        rcases List.mem_or_eq_of_mem_set mw with m2 | m2
        · obtain ⟨_, ⟨o, h2, _⟩, _⟩ := ow1.mem m2
          rw [z', hn e m] at h2; cases h2
        · subst m2; exact hsep e m z'.symm
      exact k2 q v (S1.back S2) H2 (l1.trans (back_le st2)) (back_ok st1 st2 hmem hkm) fin (hB r q v S2 _ rfl p2)) fun _ z => xq_le z⟩⟩
end
end Y

/-! Y: owned lists and dicts changed, dicts read. -/
namespace Y
open PySem PySem.Spec PyProof.Rows L2

/-! ### an object that is kept as it is for a while -/
abbrev Bs.kpp (B : Bs) (p : Addr) (o : HO) : Bs := { B with kp := upd B.kp p o }
section
variable {B : Bs} {S : Sv} {H : Hp} {p : Addr} {o : HO} {us : OS}
theorem kp_ok (st : StOk B S H) (h1 : S.y p = none) (h2 : H p = some o) : StOk (B.kpp p o) S H := ⟨st.gy, st.yh, st.g0, st.b0, st.fr, st.tr, fun a u h => by
  have h : upd B.kp p o a = some u := h
  by_cases e : a = p
  · subst e
    rw [upd_same] at h
    exact ⟨h2.trans h, h1⟩
  · rw [upd_ne e] at h
    exact st.kp a u h⟩
theorem kp_un (hk : B.kp p = none) (st : StOk (B.kpp p o) S H) : StOk B S H ∧ S.y p = none ∧ H p = some o := by
  have hD := st.kp p o upd_same
  refine ⟨⟨st.gy, st.yh, st.g0, st.b0, st.fr, st.tr, fun a u h => ?_⟩, hD.2, hD.1⟩
  refine st.kp a u ?_
  show upd B.kp p o a = some u
  rw [upd_ne fun e => by rw [e, hk] at h; cases h]
  exact h
theorem kp_ow (h : OwL B S H us) (n : ∀ e ∈ us, e.p ≠ p) : OwL (B.kpp p o) S H us := h.move (.refl _) (fun e m => (h.mem m).1) (fun _ _ _ z => z) (fun _ _ _ z => z) fun e m z => by
  show upd B.kp p o e.p = none
  rw [upd_ne (n e m)]; exact z
theorem kp_uw (h : OwL (B.kpp p o) S H us) : OwL B S H us ∧ ∀ e ∈ us, e.p ≠ p := by
  have nD : ∀ e ∈ us, e.p ≠ p := fun e m q => by
    have z := (h.mem m).2.2.2
    have z : upd B.kp p o e.p = none := z
    rw [q, upd_same] at z; cases z
  refine ⟨h.move (.refl _) (fun e m => (h.mem m).1) (fun _ _ _ z => z) (fun _ _ _ z => z) fun e m z => ?_, nD⟩
  have z : upd B.kp p o e.p = none := z
  rw [upd_ne (nD e m)] at z; exact z
end
abbrev Cf.at (C : Cf) (B : Bs) : Cf := { C with B := B }
theorem Ok.at {X : Cx} {C : Cf} {k : Nat} (o : Ok X C k) (B : Bs) : Ok X (C.at B) k := ⟨o.calm, o.nd, o.room, o.tk, o.po⟩

section
variable {ς α β γ δ κ μ ρ π τ π0 : Type} {X : Cx} {C : Cf} {as : SA} {O : ς → OS} {a b c e elt tg iter : Expr} {es : List Expr} {pos p apos px : Pos} {w w1 w2 : Bool} {kn k : Nat} {rst : List Stmt} {N : Sv → μ → L2.St → Hp → Prop} {T : ρ → V → Hp → Prop} {ι : α → Oc μ ρ}
/-- an assignment of a comprehension to a plain local name -/
theorem hb_lcT {ifs : List Expr} {scope : Scope} {own : List (Str × Nat)} {m : SM ς (List γ)} {t : γ → SM ς Bool} {f : γ → SM ς β} {r : Rp β} {kk : List β × ς → R α} (i : Nat) {x : Str} {ps2 : Pos} (o : Ok X C kn) (h : Lcp X C elt tg iter ifs scope own as O m t f r) (s : ς) (hr : ∀ (z : List β × ς) (q : Addr), HB X C rst (as.set i (some (VP.ptr q))) (⟨q, cLst r z.1, true⟩ :: O z.2) (kk z) ι N T)
    (hi : X.N[i]? = some x := by rfl) (hyl : X.env.scope.names.lookup x = some .local := by rfl) (hsw : swapsWith (.ListComp elt [⟨tg, iter, ifs, 0⟩] scope pos) (some (.Name x px)) ps2.line X.env = pure true := by exact sw_true rfl rfl rfl (by decide +kernel)) (hs : ∀ x, foldedSetIterable iter X.env x = pure x := by intro _; rfl) :
    HB X C (.Assign [.Name x px] (.ListComp elt [⟨tg, iter, ifs, 0⟩] scope pos) ps2 :: rst) as (O s) ((SM.lc m t f s).bind kk) ι N T := by
  obtain ⟨P, ts, asT, hit, ok, hts, hg, ht, he⟩ := h.x
  exact ⟨pss_weak (pss_cons (ps_setLc o.calm o.nd hi hyl hsw hit.pi ok (fun s H A cl fp => pg_ex fun (Bx : Bs × γ) => (hg s H cl A fp Bx.1 Bx.2).pg) (fun s H A cl fp => pts_ex fun (Bx : Bs × γ) => (ht s H cl A fp Bx.1 Bx.2).pt) (fun s H A cl fp => pe_ex fun (Bx : Bs × γ) => (he s H cl A fp Bx.1 Bx.2).pe) hs) (pss_ex fun (zq : (List β × ς) × Addr) => (hr zq.1 zq.2).pss)) fun D σ H ⟨L, S, lL, st, sl, ow, q⟩ =>
    lc_read (r := r) (P := P) (asT := asT) (Q := fun x H1 => ∃ zq : (List β × ς) × Addr, tB C (as.set i (some (VP.ptr zq.2))) (⟨zq.2, cLst r zq.1.1, true⟩ :: O zq.1.2) (kk zq.1) ι N T D (σ.set i (some x)) H1) hts ⟨s, S, st, sl, ow, R.post_mono (R.post_bind.mp q) (fun z k' q v S' H' l' st' ow' pv => ⟨(z, q), L, S', lL.trans l', st', (sl.mono l').set pv, ow', k'⟩) fun _ z => xq_le z⟩⟩

/-! ### methods that change an owned list -/
def OVU (r : V → List V → Hp → VK → Prop) (rp : Rp δ) (Ps : β → List VP) (f : List δ → β → R (γ × List δ)) (P : γ → VP) : Prop :=
  ∀ (xs : List δ) (y : β) (p : Addr) (vs' vs : List V) (S : Sv) (H : Hp) (Q : VK) (x : Er → Prop), H p = some (.lst vs') → A2 rp S.g xs vs' → AV S vs (Ps y) →
    (f xs y).post (fun z => ∀ v ws, A2 rp S.g z.2 ws → (P z.1).p v S → Q v (upd H p (.lst ws))) x → r (.ref p) vs H Q
theorem mut_fin {B : Bs} {S : Sv} {H : Hp} {os : OS} {i : Nat} {p : Addr} {rp : Rp δ} {xs ys : List δ} {fl : Bool} {ws : List V} (st : StOk B S H) (ow : OwL B S H os) (hi : os[i]? = some ⟨p, cLst rp xs, fl⟩) (h : A2 rp S.g ys ws) :
    StOk B S (upd H p (.lst ws)) ∧ OwL B S (upd H p (.lst ws)) (os.set i ⟨p, cLst rp ys, fl⟩) := by
  obtain ⟨h1, _, _, h3⟩ := ow.get hi
  exact ⟨st.put h1 h3, ow.put (c := cLst rp ys) hi ⟨ws, rfl, h⟩⟩
theorem hx_mutL {id : String} {name x : Str} {r : V → List V → Hp → VK → Prop} {rp : Rp δ} {Ps : β → List VP} {f : List δ → β → R (γ × List δ)} {P : γ → VP} {ma : SM ς β} {q0 : Addr} {fl : Bool} (slot : Slot "list" name id) (hty : typeOf (.builtin id) = pure (.type "method_descriptor")) (hm : MtR X id r) (hv : OVU r rp Ps f P)
    (i j : Nat) (sel : ς → List δ) (put : ς → List δ → ς) (ha : HA X C (e :: es) as O ma Ps) (h : as[i]? = some (some (VP.ptr q0)) := by rfl) (hO : ∀ s, (O s)[j]? = some ⟨q0, cLst rp (sel s), fl⟩ := by intro _; rfl) (hput : ∀ s d, (O s).set j ⟨q0, cLst rp d, fl⟩ = O (put s d) := by intro _ _; rfl)
    (hN : X.N[i]? = some x := by rfl) (hvis : Vis X.env.scope x := by first | exact Or.inl rfl | exact Or.inr (Or.inl rfl) | exact Or.inr (Or.inr rfl)) (hd : (x == ("__debug__" : Str)) = false := by decide) (hcd : (x == ("__classdict__" : Str)) = false := by decide)
    (hbase : attributeBase (.Name x px) name X.env (eval (.Name x px) X.env) = eval (.Name x px) X.env := by rfl)
    (hfew : ((backTo pos (starEach (e :: es) X.env)).all (fun x => !x.1) && (backToKw pos (keywordEach [] X.env)).all (fun x => x.1.isSome)
      && decide ((e :: es).length + ([] : List Keyword).length + (if ([] : List Keyword).isEmpty then 0 else 1) < 30)) = true := by rfl)
    (hline : (apos.endLine == pos.line) = true := by rfl) (hs : starEach (e :: es) X.env = (false, eval e X.env) :: starEach es X.env := by rfl) (hplain : (backTo pos (starEach es X.env)).any (·.1) = false := by rfl) :
    HX X C (.Call (.Attribute (.Name x px) name apos) (e :: es) [] pos) as O (fun s => (ma s).bind fun z => (f (sel z.2) z.1).bind fun r => .ok (r.1, put z.2 r.2)) P :=
  ⟨pe_weak (pe_bm PySem.F.plainAttrs_list slot hty hm (pe_var hN hvis hd hcd) ha.pa hbase hfew hline hs hplain) fun σ H Q ⟨s, S, st, sl, ow, q⟩ => by
    obtain ⟨v, h1, h2⟩ := sl.2 i _ h
    have h2 : v = .ref q0 := h2
    subst h2
    obtain ⟨_, ⟨o, ho, vs0, eo, _⟩, _⟩ := ow.get (hO s)
    subst eo
    refine ⟨.ref q0, h1, .inl ⟨rfl, _, SqL.of ho⟩, s, S, st, sl, ow, R.post_mono (R.post_bind.mp q) (fun z k vs S' H' l' st' ow' pv => ?_) fun _ z => xq_le z⟩
    obtain ⟨_, ⟨o', ho', vs', eo', hA⟩, _⟩ := ow'.get (hO z.2)
    subst eo'
    refine hv _ _ _ _ _ S' H' Q _ ho' hA pv (R.post_mono (R.post_bind.mp k) (fun y k2 v ws hw pw => ?_) fun _ z => z)
    obtain ⟨st2, ow2⟩ := mut_fin st' ow' (hO z.2) hw
    rw [hput] at ow2
    exact k2 () v S' _ l' st2 ow2 pw⟩
theorem hx_mutL0 {id : String} {name x : Str} {r : V → List V → Hp → VK → Prop} {rp : Rp δ} {f : List δ → R (γ × List δ)} {P : γ → VP} {q0 : Addr} {fl : Bool} (slot : Slot "list" name id) (hty : typeOf (.builtin id) = pure (.type "method_descriptor")) (hm : MtR X id r) (hv : OVU r rp (fun (_ : Unit) => []) (fun xs _ => f xs) P)
    (i j : Nat) (sel : ς → List δ) (put : ς → List δ → ς) (h : as[i]? = some (some (VP.ptr q0)) := by rfl) (hO : ∀ s, (O s)[j]? = some ⟨q0, cLst rp (sel s), fl⟩ := by intro _; rfl) (hput : ∀ s d, (O s).set j ⟨q0, cLst rp d, fl⟩ = O (put s d) := by intro _ _; rfl)
    (hN : X.N[i]? = some x := by rfl) (hvis : Vis X.env.scope x := by first | exact Or.inl rfl | exact Or.inr (Or.inl rfl) | exact Or.inr (Or.inr rfl)) (hd : (x == ("__debug__" : Str)) = false := by decide) (hcd : (x == ("__classdict__" : Str)) = false := by decide)
    (hbase : attributeBase (.Name x px) name X.env (eval (.Name x px) X.env) = eval (.Name x px) X.env := by rfl) (hline : (apos.endLine == pos.line) = true := by rfl) :
    HX X C (.Call (.Attribute (.Name x px) name apos) [] [] pos) as O (fun s => (f (sel s)).bind fun r => .ok (r.1, put s r.2)) P :=
  ⟨pe_weak (pe_bm0 PySem.F.plainAttrs_list slot hty hm (pe_var hN hvis hd hcd) hbase hline) fun σ H Q ⟨s, S, st, sl, ow, q⟩ => by
    obtain ⟨v, h1, h2⟩ := sl.2 i _ h
    have h2 : v = .ref q0 := h2
    subst h2
    obtain ⟨_, ⟨o, ho, vs0, eo, hA⟩, _⟩ := ow.get (hO s)
    subst eo
    refine ⟨.ref q0, h1, .inl ⟨rfl, _, SqL.of ho⟩, hv _ () _ _ _ S H Q _ ho hA trivial (R.post_mono (R.post_bind.mp q) (fun y k2 v ws hw pw => ?_) fun _ z => z)⟩
    obtain ⟨st2, ow2⟩ := mut_fin st ow (hO s) hw
    rw [hput] at ow2
    exact k2 () v S _ (.refl S) st2 ow2 pw⟩
def appR (xs : List δ) (y : δ) : R (Unit × List δ) := (R.guard (xs.length < 16777216)).bind fun _ => .ok ((), xs ++ [y])
theorem ov_app {rp : Rp δ} : OVU rAppend rp (fun y => [VP.at true rp y]) appR (VP.at true rNon) := fun xs y p vs' vs S H Q x hp hA pv q => by
  obtain ⟨v, e1, p1⟩ := av1 pv
  subst e1
  obtain ⟨hz, q⟩ := R.guard_post.mp (R.post_bind.mp q)
  exact ⟨p, vs', v, rfl, rfl, hp, by rw [← hA.length, sizeLine_eq]; exact hz, q .non _ (hA.snoc p1) rfl⟩
def insR (xs : List δ) (z : Int × δ) : R (Unit × List δ) := (R.guard (xs.length < 16777216 ∧ 0 ≤ z.1 ∧ z.1 < 2 ^ 63)).bind fun _ => .ok ((), xs.take z.1.toNat ++ [z.2] ++ xs.drop z.1.toNat)
abbrev rInsert : V → List V → Hp → VK → Prop := fun x vs H Q => ∃ (l : Addr) (xs : List V) (i : Int) (y : V), x = .ref l ∧ vs = [.int i, y] ∧ H l = some (.lst xs) ∧ xs.length < sizeLine ∧ 0 ≤ i ∧ i < 2 ^ 63 ∧ Q .non (upd H l (.lst (xs.take i.toNat ++ [y] ++ xs.drop i.toNat)))
theorem ov_ins {rp : Rp δ} : OVU rInsert rp (fun z => [VP.at w rInt z.1, VP.at true rp z.2]) insR (VP.at true rNon) := fun xs y p vs' vs S H Q x hp hA pv q => by
  obtain ⟨v, u, e1, p1, p2⟩ := av2 pv
  have e2 : v = .int y.1 := p1
  subst e1; subst e2
  obtain ⟨⟨hz, h0, h1⟩, q⟩ := R.guard_post.mp (R.post_bind.mp q)
  exact ⟨p, vs', y.1, u, rfl, rfl, hp, by rw [← hA.length, sizeLine_eq]; exact hz, h0, h1, q .non _ (((hA.take _).append (show A2 rp S.g [y.2] [u] from ⟨p2, trivial⟩)).append (hA.drop _)) rfl⟩
def revR (xs : List δ) : R (Unit × List δ) := .ok ((), xs.reverse)
theorem ov_rev {rp : Rp δ} : OVU rReverse rp (fun (_ : Unit) => []) (fun xs _ => revR xs) (VP.at true rNon) := fun xs y p vs' vs S H Q x hp hA pv q => by
  cases vs with
  | nil => exact ⟨p, vs', rfl, rfl, hp, q .non _ hA.reverse rfl⟩
  | cons _ _ => exact pv.elim
def clrR (xs : List δ) : R (Unit × List δ) := .ok ((), [])
theorem ov_clr {rp : Rp δ} : OVU rClear rp (fun (_ : Unit) => []) (fun xs _ => clrR xs) (VP.at true rNon) := fun xs y p vs' vs S H Q x hp hA pv q => by
  cases vs with
  | nil => exact ⟨p, vs', rfl, rfl, hp, q .non _ (show A2 rp S.g [] [] from trivial) rfl⟩
  | cons _ _ => exact pv.elim
def popR (xs : List δ) (i : Int) : R (δ × List δ) := (R.guard (-(2 ^ 63) ≤ i ∧ i < 2 ^ 63)).bind fun _ => (R.ofO (seqIndex? i xs.length)).bind fun k => (R.ofO xs[k]?).bind fun y => .ok (y, xs.eraseIdx k)
theorem ov_pop {rp : Rp δ} : OVU rPopAt rp (fun z => [VP.at w rInt z]) popR (VP.at true rp) := fun xs y p vs' vs S H Q x hp hA pv q => by
  obtain ⟨v, e1, p1⟩ := av1 pv
  have e2 : v = .int y := p1
  subst e1; subst e2
  obtain ⟨⟨h0, h1⟩, q⟩ := R.guard_post.mp (R.post_bind.mp q)
  obtain ⟨k, hk, q⟩ := R.ofO_post.mp (R.post_bind.mp q)
  obtain ⟨z, hz, q⟩ := R.ofO_post.mp (R.post_bind.mp q)
  obtain ⟨u, hu, hr⟩ := hA.get hz
  exact ⟨p, vs', y, k, u, rfl, rfl, hp, h0, h1, by rw [← hA.length]; exact hk, hu, q u _ (hA.eraseIdx k) hr⟩
/-! ### xs[i] = e -/
def setR (xs : List δ) (i : Int) (y : δ) : R (List δ) := (R.ofO (ixN xs.length i)).bind fun j => .ok (xs.set j y)
theorem hb_setL {m : SM ς δ} {mi : SM ς Int} {rp : Rp δ} {q0 : Addr} {fl : Bool} {x : Str} {ie : Expr} {p2 : Pos} {kk : ς → R α} (i j : Nat) (sel : ς → List δ) (put : ς → List δ → ς) (he : HX X C e as O m (VP.at true rp)) (hie : HX X C ie as O mi (VP.at w rInt)) (s : ς) (hr : ∀ s, HB X C rst as (O s) (kk s) ι N T)
    (h : as[i]? = some (some (VP.ptr q0)) := by rfl) (hO : ∀ s, (O s)[j]? = some ⟨q0, cLst rp (sel s), fl⟩ := by intro _; rfl) (hput : ∀ s d, (O s).set j ⟨q0, cLst rp d, fl⟩ = O (put s d) := by intro _ _; rfl)
    (hN : X.N[i]? = some x := by rfl) (hvis : Vis X.env.scope x := by first | exact Or.inl rfl | exact Or.inr (Or.inl rfl) | exact Or.inr (Or.inr rfl)) (hd : (x == ("__debug__" : Str)) = false := by decide) (hcd : (x == ("__classdict__" : Str)) = false := by decide)
    (hs : swapsWithSole [.Subscript (.Name x px) ie p2] e pos.line X.env = pure false := by rfl) (hw : swappedStores [.Subscript (.Name x px) ie p2] e X.env = pure none := by rfl) (h1 : (assignEach [.Subscript (.Name x px) ie p2] X.env).map (·.2) = [assign (.Subscript (.Name x px) ie p2) X.env] := by rfl)
    (ha : ∀ v, assign (.Subscript (.Name x px) ie p2) X.env v = (do
      let ov ← holding [v] (eval (.Name x px) X.env)
      let iv ← holding [v, ov] (eval ie X.env)
      standAt p2
      holding [v, ov, iv] (setItem ov iv v)
      release [v, ov, iv] []) := by intro _; rfl) :
    HB X C (.Assign [.Subscript (.Name x px) ie p2] e pos :: rst) as (O s) ((m s).bind fun z => (mi z.2).bind fun y => (setR (sel y.2) y.1 z.1).bind fun l => kk (put y.2 l)) ι N T :=
  ⟨pss_weak (pss_cons (ps_asg he.pe (pg_sub (pe_var hN hvis hd hcd) hie.pe set_list ha) hs hw h1) (pss_ex fun s => (hr s).pss)) fun D σ H ⟨L, S, lL, st, sl, ow, q⟩ =>
    ⟨s, S, st, sl, ow, R.post_mono (R.post_bind.mp q) (fun z k _ v S1 H1 l1 st1 ow1 pv => by
      obtain ⟨u, g1, g2⟩ := sl.2 i _ h
      have g2 : u = .ref q0 := g2
      subst g2
      refine ⟨.ref q0, g1, z.2, S1, st1, sl.mono l1, ow1, R.post_mono (R.post_bind.mp k) (fun y k2 _ u S2 H2 l2 st2 ow2 pu => ?_) fun _ z => xq_le z⟩
      have pu : u = .int y.1 := pu
      subst pu
      obtain ⟨_, ⟨o', ho', vs', eo', hA⟩, _⟩ := ow2.get (hO y.2)
      subst eo'
      have k2 := R.post_bind.mp k2
      obtain ⟨jj, hj, k2⟩ := R.ofO_post.mp (R.post_bind.mp k2)
      obtain ⟨st3, ow3⟩ := mut_fin st2 ow2 (hO y.2) (hA.set (rp.mono l2.g pv) jj)
      have ow3 : OwL C.B S2 _ ((O y.2).set j ⟨q0, cLst rp ((sel y.2).set jj z.1), fl⟩) := ow3
      rw [hput] at ow3
      exact ⟨q0, vs', y.1, jj, rfl, rfl, ho', by rw [← hA.length]; exact hj, _, L, S2, (lL.trans l1).trans l2, st3, (sl.mono l1).mono l2, ow3, k2⟩) fun _ z => xq_le z⟩⟩
/-! ### dicts -/
section dicts
variable [DecidableEq κ] {kk : KK κ} {r : Rp β}
theorem ad_dget {H H' : Hp} {p : Addr} {d : List (κ × β)} {kvs : List (Key × V)} (hp : H' p = some (.dK kvs)) (h : AD kk.k r H d kvs) {k : κ} {v : V} {H0 : Hp} (hv : kk.rp.rep k v H0) : DGet H' p v (valV kvs (kk.k k)) := by
  rw [kk.law hv]
  exact .k hp
theorem hx_dget {m : SM ς (List (κ × β))} {mk : SM ς κ} (o : Ok X C kn) (ha : HX X C a as O m (VP.at w (rDic kk r))) (hb : HX X C b as O mk (VP.at w2 kk.rp)) (hs : NoSl b := by exact fun _ _ => rfl) : HX X C (.Subscript a b pos) as O (SM.bnd2 (fun d k => R.ofO (dget d k)) m mk) (VP.at w r) := ⟨pe_weak (pe_dget o.hu ha.pe hb.pe hs) fun σ H Q h => by
  obtain ⟨s, S, st, sl, ow, q⟩ := hg_two ha hb h
  refine ⟨s, S, st, sl, ow, R.post_mono q (fun z k u v S1 H1 l1 st1 ow1 p1 => ?_) fun _ z => xq_le z⟩
  obtain ⟨s', S', st', sl', ow', q'⟩ := k u v S1 H1 l1 st1 ow1 p1
  refine ⟨s', S', st', sl', ow', R.post_mono q' (fun z k u v S1 H1 l1 st1 ow1 p1 => ?_) fun _ z => xq_le z⟩
  obtain ⟨x, y, S2, os, st2, ow2, ⟨p, kvs, e1, hp, hA⟩, p2, q2⟩ := k u v S1 H1 l1 st1 ow1 p1
  obtain ⟨z, hz, q2⟩ := q2.ofO1
  obtain ⟨v', hv, hr⟩ := hA.get kk.inj hz
  refine ⟨p, v', e1, ?_, q2.imm st2 ow2 hr⟩
  rw [← hv]
  exact ad_dget (st2.atH w _ _ hp) hA p2⟩
theorem hx_din {m : SM ς (List (κ × β))} {mk : SM ς κ} (o : Ok X C kn) (hb : HX X C b as O mk (VP.at w2 kk.rp)) (ha : HX X C a as O m (VP.at w (rDic kk r))) (hm : behindInMarks .In a = false := by rfl) : HX X C (.Compare b [.In] [a] pos) as O (SM.map2 (fun k d => (dget d k).isSome) mk m) (VP.at true rBl) := ⟨pe_weak (pe_cmp (pc_din o.hu hb.pe ha.pe) hm) fun σ H Q h => by
  obtain ⟨s, S, st, sl, ow, q⟩ := hg_two hb ha (f := fun k d => .ok ((dget d k).isSome)) h
  refine ⟨s, S, st, sl, ow, R.post_mono q (fun z k u v S1 H1 l1 st1 ow1 p1 => ?_) fun _ z => xq_le z⟩
  obtain ⟨s', S', st', sl', ow', q'⟩ := k u v S1 H1 l1 st1 ow1 p1
  refine ⟨s', S', st', sl', ow', R.post_mono q' (fun z k u v S1 H1 l1 st1 ow1 p1 => ?_) fun _ z => xq_le z⟩
  obtain ⟨y, x, S2, os, st2, ow2, p2, ⟨p, kvs, e1, hp, hA⟩, q2⟩ := k u v S1 H1 l1 st1 ow1 p1
  exact ⟨p, _, e1, ad_dget (st2.atH w _ _ hp) hA p2, q2.imm st2 ow2 (by show V.bl _ = V.bl _; rw [hA.isSome kk.inj])⟩⟩
theorem hx_dni {m : SM ς (List (κ × β))} {mk : SM ς κ} (o : Ok X C kn) (hb : HX X C b as O mk (VP.at w2 kk.rp)) (ha : HX X C a as O m (VP.at w (rDic kk r))) (hm : behindInMarks .NotIn a = false := by rfl) : HX X C (.Compare b [.NotIn] [a] pos) as O (SM.map2 (fun k d => !(dget d k).isSome) mk m) (VP.at true rBl) := ⟨pe_weak (pe_cmp (pc_dnotin o.hu hb.pe ha.pe) hm) fun σ H Q h => by
  obtain ⟨s, S, st, sl, ow, q⟩ := hg_two hb ha (f := fun k d => .ok (!(dget d k).isSome)) h
  refine ⟨s, S, st, sl, ow, R.post_mono q (fun z k u v S1 H1 l1 st1 ow1 p1 => ?_) fun _ z => xq_le z⟩
  obtain ⟨s', S', st', sl', ow', q'⟩ := k u v S1 H1 l1 st1 ow1 p1
  refine ⟨s', S', st', sl', ow', R.post_mono q' (fun z k u v S1 H1 l1 st1 ow1 p1 => ?_) fun _ z => xq_le z⟩
  obtain ⟨y, x, S2, os, st2, ow2, p2, ⟨p, kvs, e1, hp, hA⟩, q2⟩ := k u v S1 H1 l1 st1 ow1 p1
  exact ⟨p, _, e1, ad_dget (st2.atH w _ _ hp) hA p2, q2.imm st2 ow2 (by show V.bl _ = V.bl _; rw [hA.isSome kk.inj])⟩⟩
theorem ht_din {m : SM ς (List (κ × β))} {mk : SM ς κ} (o : Ok X C kn) (hb : HX X C b as O mk (VP.at w2 kk.rp)) (ha : HX X C a as O m (VP.at w (rDic kk r))) (hm : behindInMarks .In a = false := by rfl) : HT X C (.Compare b [.In] [a] pos) as O (SM.map2 (fun k d => (dget d k).isSome) mk m) := ⟨pt_weak (pt_cmp (pc_din o.hu hb.pe ha.pe) hm) fun σ H Q ⟨s, S, st, sl, ow, q⟩ => by
  have h : tG (π := Unit) C as O (SM.map2 (fun k d => (dget d k).isSome) mk m) (fun b _ => VP.at true rBl b) (fun _ _ => []) σ H (fun x H' => ∃ k, x = .bl k ∧ Q k H') := ⟨s, S, st, sl, ow, R.post_mono q (fun z k _ v S' H' l' st' ow' pv => ⟨z.1, pv, k S' H' l' st' ow'⟩) fun _ z => xq_le z⟩
  obtain ⟨s, S, st, sl, ow, q⟩ := hg_two hb ha (f := fun k d => .ok ((dget d k).isSome)) h
  refine ⟨s, S, st, sl, ow, R.post_mono q (fun z k u v S1 H1 l1 st1 ow1 p1 => ?_) fun _ z => xq_le z⟩
  obtain ⟨s', S', st', sl', ow', q'⟩ := k u v S1 H1 l1 st1 ow1 p1
  refine ⟨s', S', st', sl', ow', R.post_mono q' (fun z k u v S1 H1 l1 st1 ow1 p1 => ?_) fun _ z => xq_le z⟩
  obtain ⟨y, x, S2, os, st2, ow2, p2, ⟨p, kvs, e1, hp, hA⟩, q2⟩ := k u v S1 H1 l1 st1 ow1 p1
  exact ⟨p, _, e1, ad_dget (st2.atH w _ _ hp) hA p2, q2.imm st2 ow2 (by show V.bl _ = V.bl _; rw [hA.isSome kk.inj])⟩⟩
theorem ht_dni {m : SM ς (List (κ × β))} {mk : SM ς κ} (o : Ok X C kn) (hb : HX X C b as O mk (VP.at w2 kk.rp)) (ha : HX X C a as O m (VP.at w (rDic kk r))) (hm : behindInMarks .NotIn a = false := by rfl) : HT X C (.Compare b [.NotIn] [a] pos) as O (SM.map2 (fun k d => !(dget d k).isSome) mk m) := ⟨pt_weak (pt_cmp (pc_dnotin o.hu hb.pe ha.pe) hm) fun σ H Q ⟨s, S, st, sl, ow, q⟩ => by
  have h : tG (π := Unit) C as O (SM.map2 (fun k d => !(dget d k).isSome) mk m) (fun b _ => VP.at true rBl b) (fun _ _ => []) σ H (fun x H' => ∃ k, x = .bl k ∧ Q k H') := ⟨s, S, st, sl, ow, R.post_mono q (fun z k _ v S' H' l' st' ow' pv => ⟨z.1, pv, k S' H' l' st' ow'⟩) fun _ z => xq_le z⟩
  obtain ⟨s, S, st, sl, ow, q⟩ := hg_two hb ha (f := fun k d => .ok (!(dget d k).isSome)) h
  refine ⟨s, S, st, sl, ow, R.post_mono q (fun z k u v S1 H1 l1 st1 ow1 p1 => ?_) fun _ z => xq_le z⟩
  obtain ⟨s', S', st', sl', ow', q'⟩ := k u v S1 H1 l1 st1 ow1 p1
  refine ⟨s', S', st', sl', ow', R.post_mono q' (fun z k u v S1 H1 l1 st1 ow1 p1 => ?_) fun _ z => xq_le z⟩
  obtain ⟨y, x, S2, os, st2, ow2, p2, ⟨p, kvs, e1, hp, hA⟩, q2⟩ := k u v S1 H1 l1 st1 ow1 p1
  exact ⟨p, _, e1, ad_dget (st2.atH w _ _ hp) hA p2, q2.imm st2 ow2 (by show V.bl _ = V.bl _; rw [hA.isSome kk.inj])⟩⟩
theorem hx_lenD {m : SM ς (List (κ × β))} (hm : X.mg "len" = none) (ha : HX X C e as O m (VP.at w (rDic kk r))) (hg : Gl X "len" := by rfl)
    (he : starEach [e] X.env = (false, eval e X.env) :: starEach [] X.env := by rfl) (hpl : (backTo pos (starEach [] X.env)).any (·.1) = false := by rfl) : HX X C (.Call (.Name "len" p) [e] [] pos) as O (SM.map1 (fun xs => (xs.length : Int)) m) (VP.at true rInt) :=
  hg_callB (f := fun xs => .ok (xs.length : Int)) call_lenD (fun x vs S H os Q st ow h q => by
    obtain ⟨v, e1, pv⟩ := av1 h
    subst e1
    obtain ⟨p, vs, e2, hl, h3⟩ := pv
    subst e2
    exact ⟨p, vs, rfl, st.atH w _ _ hl, q.imm st ow (by show V.int _ = V.int _; rw [h3.length])⟩) hm boot_len (ha_one ha he) hg (by decide) (by decide) he hpl
theorem hn_dnil : HN X C (.Dict [] [] pos) as O (SM.ret ([] : List (κ × β))) (cDic kk r) := ⟨pe_weak pe_dnewK fun σ H Q ⟨s, S, st, sl, ow, q⟩ p hp => q p (.ref p) S _ (.refl S) (st.grow hp) (ow.new st hp ⟨[], rfl, trivial⟩) rfl⟩
/-- {k: v} -/
theorem hn_done {mk : SM ς κ} {mv : SM ς β} (hk : ∀ B, HX X (C.at B) a as O mk (VP.at w kk.rp)) (hv : ∀ B, HX X (C.at B) b as O mv (VP.at true r)) : HN X C (.Dict [some a] [b] pos) as O (fun s => (SM.map2 (fun k v => [(k, v)]) mk mv s).calm) (cDic kk r) := ⟨pe_weak (pe_disp (pps_cons (pe_ex fun B => (hk B).pe) (pe_ex fun B => (hv B).pe) pps_nil) (by rfl) (by rfl) (fun z => by cases z) (by show 1 ≤ 15; decide)) fun σ H Q ⟨s, S, st, sl, ow, q⟩ p hp => by
  have ne : ∀ e ∈ O s, e.p ≠ p := fun e m z => by
    obtain ⟨_, ⟨u, e1, _⟩, _⟩ := ow.mem m
    rw [z, hp] at e1; cases e1
  have hkp := st.knone hp
  have hb := st.bnone hp
  have q0 : ((SM.map2 (fun k v => [(k, v)]) mk mv s).calm).post _ _ := q
  unfold SM.map2 at q0
  have q := R.calm_post q (fun _ => True)
  refine ⟨C.B.kpp p (.dK []), s, S, kp_ok (st.grow hp) (st.ynone hp) upd_same, sl, kp_ow (ow.grow hp) ne, ?_⟩
  have cl : ∀ {β : Type} {m : R β} {P : β → Prop} {x y : Er → Prop}, m.post P x → (∀ e, m ≠ .ex e) → m.post P y := fun {β m P x y} h n => by
    cases m with
    | no => exact h
    | ex e => exact (n e rfl).elim
    | ok a => exact h
  have q1 := q
  unfold SM.map2 at q1
  cases e1 : mk s with
  | no => rw [e1] at q1; exact q1.elim
  | ex e => rw [e1] at q0; exact q0.elim
  | ok z =>
    rw [e1] at q1
    show (R.ok z).post _ _
    intro _ u S1 H1 l1 st1 ow1 pu
    cases e2 : mv z.2 with
    | no => rw [R.bind_ok, e2] at q1; exact q1.elim
    | ex e => rw [e1, R.bind_ok, e2] at q0; exact q0.elim
    | ok y =>
      rw [R.bind_ok, e2, R.bind_ok] at q1
      refine ⟨C.B.kpp p (.dK []), z.2, S1, st1, sl.mono l1, ow1, ?_⟩
      rw [e2]
      intro _ v S2 H2 l2 st2 ow2 pv
      obtain ⟨st2', hy2, hp2⟩ := kp_un hkp st2
      obtain ⟨ow2', ne2⟩ := kp_uw ow2
      have pu := kk.law pu
      subst pu
      have pv : r.rep y.1 v S2.g := pv
      refine ⟨hp2, [(kk.k z.1, v)], rfl, (by show 1 ≤ 15; decide), ?_⟩
      refine q1 p (.ref p) S2 _ (l1.trans l2) (st2'.put hy2 hkp) ⟨hy2, ⟨_, upd_same, [(kk.k z.1, v)], rfl, rfl, pv, trivial⟩, ⟨fun _ => hb, hkp⟩, ne2, ow2'.move (.refl _) (fun e m => (ow2'.mem m).1) (fun e m o z => by rw [upd_ne (ne2 e m)]; exact z) (fun _ _ _ z => z) fun _ _ z => z⟩ rfl⟩
theorem mutD_fin {B : Bs} {S : Sv} {H : Hp} {os : OS} {i : Nat} {p : Addr} {xs ys : List (κ × β)} {fl : Bool} {ws : List (Key × V)} (st : StOk B S H) (ow : OwL B S H os) (hi : os[i]? = some ⟨p, cDic kk r xs, fl⟩) (h : AD kk.k r S.g ys ws) :
    StOk B S (upd H p (.dK ws)) ∧ OwL B S (upd H p (.dK ws)) (os.set i ⟨p, cDic kk r ys, fl⟩) := by
  obtain ⟨h1, _, _, h3⟩ := ow.get hi
  exact ⟨st.put h1 h3, ow.put (c := cDic kk r ys) hi ⟨ws, rfl, h⟩⟩
def dputR (d : List (κ × β)) (k : κ) (v : β) : R (List (κ × β)) := (R.guard (d.length < 16777216)).bind fun _ => .ok (dput d k v)
theorem hb_putD {m : SM ς β} {mi : SM ς κ} {q0 : Addr} {fl : Bool} {x : Str} {ie : Expr} {p2 : Pos} {kf : ς → R α} (o : Ok X C kn) (i j : Nat) (sel : ς → List (κ × β)) (put : ς → List (κ × β) → ς) (he : HX X C e as O m (VP.at true r)) (hie : HX X C ie as O mi (VP.at w kk.rp)) (s : ς) (hr : ∀ s, HB X C rst as (O s) (kf s) ι N T)
    (h : as[i]? = some (some (VP.ptr q0)) := by rfl) (hO : ∀ s, (O s)[j]? = some ⟨q0, cDic kk r (sel s), fl⟩ := by intro _; rfl) (hput : ∀ s d, (O s).set j ⟨q0, cDic kk r d, fl⟩ = O (put s d) := by intro _ _; rfl)
    (hN : X.N[i]? = some x := by rfl) (hvis : Vis X.env.scope x := by first | exact Or.inl rfl | exact Or.inr (Or.inl rfl) | exact Or.inr (Or.inr rfl)) (hd : (x == ("__debug__" : Str)) = false := by decide) (hcd : (x == ("__classdict__" : Str)) = false := by decide)
    (hs : swapsWith e (some (.Subscript (.Name x px) ie p2)) pos.line X.env = pure false := by rfl) :
    HB X C (.Assign [.Subscript (.Name x px) ie p2] e pos :: rst) as (O s) ((m s).bind fun z => (mi z.2).bind fun y => (dputR (sel y.2) y.1 z.1).bind fun l => kf (put y.2 l)) ι N T :=
  ⟨pss_weak (pss_cons (ps_dput o.hu (pe_var hN hvis hd hcd) hie.pe he.pe hs) (pss_ex fun s => (hr s).pss)) fun D σ H ⟨L, S, lL, st, sl, ow, q⟩ =>
    ⟨s, S, st, sl, ow, R.post_mono (R.post_bind.mp q) (fun z k _ v S1 H1 l1 st1 ow1 pv => by
      obtain ⟨u, g1, g2⟩ := sl.2 i _ h
      have g2 : u = .ref q0 := g2
      subst g2
      refine ⟨.ref q0, g1, z.2, S1, st1, sl.mono l1, ow1, R.post_mono (R.post_bind.mp k) (fun y k2 _ u S2 H2 l2 st2 ow2 pu => ?_) fun _ z => xq_le z⟩
      have pu := kk.law pu
      obtain ⟨_, ⟨o', ho', vs', eo', hA⟩, _⟩ := ow2.get (hO y.2)
      subst eo'
      have k2 := R.post_bind.mp k2
      obtain ⟨hz, k2⟩ := R.guard_post.mp (R.post_bind.mp k2)
      obtain ⟨st3, ow3⟩ := mutD_fin st2 ow2 (hO y.2) (hA.put kk.inj (k := y.1) (r.mono l2.g pv))
      have ow3 : OwL C.B S2 _ ((O y.2).set j ⟨q0, cDic kk r (dput (sel y.2) y.1 z.1), fl⟩) := ow3
      rw [hput] at ow3
      rw [pu]
      exact ⟨q0, _, rfl, .k ho' (by rw [← hA.length, sizeLine_eq]; exact hz), _, L, S2, (lL.trans l1).trans l2, st3, (sl.mono l1).mono l2, ow3, k2⟩) fun _ z => xq_le z⟩⟩
end dicts
end
end Y

/-! Y: tuples of any parts, deep ==, tuple keys, sorted, index, isinstance, reversed slices. -/
namespace Y
open PySem PySem.Spec PyProof.Rows L2

section
variable {ς α β γ δ κ μ ρ π τ π0 : Type} {X : Cx} {C : Cf} {as : SA} {O : ς → OS} {a b c e elt tg iter : Expr} {es : List Expr} {pos p apos px : Pos} {w w1 w2 : Bool} {kn k : Nat} {rst : List Stmt} {N : Sv → μ → L2.St → Hp → Prop} {T : ρ → V → Hp → Prop} {ι : α → Oc μ ρ}
theorem Ok.blk (o : Ok X C kn) {s : Shared} {H : Hp} {scope : Scope} {cl : List (Str × Addr)} {A : Addr} {fp : List Addr} {B : Bs} : Ok (blkX X s H scope cl A fp) (C.blk B) kn :=
  ⟨o.calm, o.nd, o.room, (fun u s' x => by
    obtain ⟨_, _, _, _, _, _, _, _, _, _, _, _, _, _, _, _, w⟩ := x
    exact w.elim), PassesOwn.never⟩

/-! ### tuples of any parts -/
def VP.tup (K : PySem.W.Frag) (Ps : List VP) : VP := ⟨fun v S => ∃ p vs, v = .ref p ∧ SqT K S.g p vs ∧ AV S vs Ps, fun h ⟨p, vs, e, h1, h2⟩ => ⟨p, vs, e, h.g.tup h1, h2.mono h⟩⟩
def PGos (Ps : List VP) : Prop := ∀ P ∈ Ps, PGo P
theorem pgs_n : PGos [] := fun _ m => by cases m
theorem pgs_c {P : VP} {Ps : List VP} (h : PGo P) (hs : PGos Ps) : PGos (P :: Ps) := fun Q m => by
  rcases List.mem_cons.mp m with e | e
  · subst e; exact h
  · exact hs Q e
theorem AV.go {S S' : Sv} (e : S.g = S'.g) : ∀ {Ps : List VP} {vs : List V}, PGos Ps → AV S vs Ps → AV S' vs Ps
  | [], [], _, _ => trivial
  | P :: Ps, v :: vs, g, h => ⟨g P List.mem_cons_self v S S' e h.1, AV.go e (fun Q m => g Q (List.mem_cons_of_mem _ m)) h.2⟩
  | [], _ :: _, _, h => h.elim
  | _ :: _, [], _, h => h.elim
theorem pg_tup {K : PySem.W.Frag} {Ps : List VP} (h : PGos Ps) : PGo (VP.tup K Ps) := fun v S S' e ⟨p, vs, e1, h1, h2⟩ => ⟨p, vs, e1, by rw [← e]; exact h1, h2.go e h⟩
theorem hx_tupV {m : SM ς α} {Ps : α → List VP} (h : HA X C es as O m Ps) (hn : ∀ x, (Ps x).length ≤ 16777216 := by intro _; show _ ≤ _; decide) : HX X C (.Tuple es 0 pos) as O m (fun x => VP.tup X.K (Ps x)) := ⟨pe_weak (pe_tup h.pa) fun σ H Q ⟨s, S, st, sl, ow, q⟩ =>
  ⟨s, S, st, sl, ow, R.post_mono q (fun z k vs S' H' l' st' ow' pv => by
    refine ⟨by rw [pv.length, sizeLine_eq]; exact hn _, fun p hp => ?_⟩
    have l2 : S'.le (S'.add p (.tup vs)) := st'.leF hp
    exact k () (.ref p) (S'.add p (.tup vs)) _ (l'.trans l2) (st'.newF hp) (ow'.newF st' hp) ⟨p, vs, rfl, .inl (.inl (Sv.add_at true)), pv.mono l2⟩) fun _ z => xq_le z⟩⟩
theorem htg_tupV {es : List Expr} {kk : Nat} {as as' : SA} {Ps : List VP} {ts : List Nat} (hc : X.calm = true) (h : HTgs X C es as Ps ts as')
    (hn : (assignEach es X.env).length = Ps.length := by rfl) (hst : (assignEach es X.env).findIdx? (·.1) = none := by rfl) : HTg X C (.Tuple es kk pos) as (VP.tup X.K Ps) ts as' := ⟨pg_weak (L2.pg_tup hc h.pgs hn hst) fun v σ H Q ⟨S, st, sl, pv, k⟩ => by
  obtain ⟨p, vs, e1, hq, hr⟩ := pv
  exact ⟨p, vs, e1, (st.atH true).tup hq, hr.length, S, st, sl, hr, k⟩⟩
/-- a part by its written place -/
theorem hx_tixV {Ps : α → List VP} {P : α → VP} {k : Nat} {m : SM ς α} {j : Nat} {pi : Pos} (hc : ∀ x, (Ps x)[k]? = some (P x)) (ha : HX X C a as O m (fun x => VP.tup X.K (Ps x))) :
    HX X C (.Subscript a (.Constant (.int (k : Int)) j pi) pos) as O m P := ⟨pe_weak (pe_ix ix_tup ha.pe pe_int (fun _ _ => rfl)) fun σ H Q ⟨s, S, st, sl, ow, q⟩ =>
  ⟨s, S, st, sl, ow, R.post_mono q (fun z k' _ v S' H' l' st' ow' pv => by
    obtain ⟨p, vs, e1, hl, h3⟩ := pv
    obtain ⟨v', hv, hr⟩ := h3.get (hc z.1)
    exact ⟨p, vs, k, v', e1, rfl, (st'.atH true).tup hl, atI_nat hv, k' () v' S' H' l' st' ow' hr⟩) fun _ z => xq_le z⟩⟩
theorem hx_lenTV {Ps : α → List VP} {n : Nat} {m : SM ς α} (hn : ∀ x, (Ps x).length = n) (hm : X.mg "len" = none) (ha : HX X C e as O m (fun x => VP.tup X.K (Ps x))) (hg : Gl X "len" := by rfl)
    (he : starEach [e] X.env = (false, eval e X.env) :: starEach [] X.env := by rfl) (hpl : (backTo pos (starEach [] X.env)).any (·.1) = false := by rfl) : HX X C (.Call (.Name "len" p) [e] [] pos) as O (SM.map1 (fun _ => (n : Int)) m) (VP.at true rInt) :=
  hg_callB (f := fun _ => .ok (n : Int)) call_len_seq (fun x vs S H os Q st ow h q => by
    obtain ⟨v, e1, pv⟩ := av1 h
    subst e1
    obtain ⟨p, vs, e2, hl, h3⟩ := pv
    subst e2
    exact ⟨p, vs, rfl, .inr ((st.atH true).tup hl), q.imm st ow (by show V.int _ = V.int _; rw [h3.length, hn])⟩) hm boot_len (ha_one ha he) hg (by decide) (by decide) he hpl
/-- a variable's value as it is -/
theorem hx_varV {P : VP} (i : Nat) {x : Str} (h : as[i]? = some (some P) := by rfl) (hN : X.N[i]? = some x := by rfl) (hv : Vis X.env.scope x := by first | exact Or.inl rfl | exact Or.inr (Or.inl rfl) | exact Or.inr (Or.inr rfl))
    (hd : (x == ("__debug__" : Str)) = false := by decide) (hcd : (x == ("__classdict__" : Str)) = false := by decide) : HX X C (.Name x pos) as O (SM.ret ()) (fun _ => P) := hx_at h hN hv rfl hd hcd

/-! ### a comprehension assigned and left as it is -/
theorem hb_lcF {ifs : List Expr} {scope : Scope} {own : List (Str × Nat)} {m : SM ς (List γ)} {t : γ → SM ς Bool} {f : γ → SM ς β} {r : Rp β} {kk : List β × ς → R α} (i : Nat) {x : Str} {ps2 : Pos} (o : Ok X C kn) (h : Lcp X C elt tg iter ifs scope own as O m t f r) (s : ς) (hr : ∀ (z : List β × ς), HB X C rst (as.set i (some (VP.at true (rLst X.K r) z.1))) (O z.2) (kk z) ι N T)
    (hi : X.N[i]? = some x := by rfl) (hyl : X.env.scope.names.lookup x = some .local := by rfl) (hsw : swapsWith (.ListComp elt [⟨tg, iter, ifs, 0⟩] scope pos) (some (.Name x px)) ps2.line X.env = pure true := by exact sw_true rfl rfl rfl (by decide +kernel)) (hs : ∀ x, foldedSetIterable iter X.env x = pure x := by intro _; rfl) :
    HB X C (.Assign [.Name x px] (.ListComp elt [⟨tg, iter, ifs, 0⟩] scope pos) ps2 :: rst) as (O s) ((SM.lc m t f s).bind kk) ι N T :=
  hb_lcT i o h s (fun z q => ⟨pss_weak (hr z).pss fun D σ H ⟨L, S, lL, st, sl, ow, q2⟩ => by
    obtain ⟨h1, ⟨ob, h2, h3⟩, h4, h5, h6⟩ := ow
    obtain ⟨vs, e1, hA⟩ := h3
    have e1 : ob = .lst vs := e1
    subst e1
    have h2 : H q = some (.lst vs) := h2
    have l2 : S.le (S.add q (.lst vs)) := Sv.le_add h1 (st.gnone h1)
    refine ⟨L, S.add q (.lst vs), lL.trans l2, st.frz h1 (h4.1 rfl) h4.2 h2, ?_, h6.add h1 (st.gnone h1) fun e m => h5 e m, q2⟩
    refine ⟨by rw [List.length_set]; have z := sl.1; rw [List.length_set] at z; exact z, fun j Q e => ?_⟩
    by_cases hj : i = j
    · subst hj
      have hi : i < as.length := by
        have z := (List.getElem?_eq_some_iff.mp e).1
        rw [List.length_set] at z
        exact z
      rw [List.getElem?_set_self hi] at e
      have e' : VP.at true (rLst X.K r) z.1 = Q := by injection e with e; injection e
      subst e'
      obtain ⟨v, g1, g2⟩ := sl.2 i (VP.ptr q) (List.getElem?_set_self hi)
      have g2 : v = .ref q := g2
      subst g2
      exact ⟨_, g1, q, vs, rfl, SqL.of (Sv.add_at true), A2.mono l2.g hA⟩
    · rw [List.getElem?_set_ne hj] at e
      obtain ⟨v, g1, g2⟩ := sl.2 j Q (by rw [List.getElem?_set_ne hj]; exact e)
      exact ⟨v, g1, Q.mono l2 g2⟩⟩) hi hyl hsw hs

/-! ### an owned list read in place -/
theorem hx_idxO {rp : Rp δ} {q0 : Addr} {fl : Bool} {x : Str} {mb : SM ς Int} (i j : Nat) (sel : ς → List δ) (hb : HX X C b as O mb (VP.at w rInt)) (h : as[i]? = some (some (VP.ptr q0)) := by rfl) (hO : ∀ s, (O s)[j]? = some ⟨q0, cLst rp (sel s), fl⟩ := by intro _; rfl)
    (hN : X.N[i]? = some x := by rfl) (hvis : Vis X.env.scope x := by first | exact Or.inl rfl | exact Or.inr (Or.inl rfl) | exact Or.inr (Or.inr rfl)) (hd : (x == ("__debug__" : Str)) = false := by decide) (hcd : (x == ("__classdict__" : Str)) = false := by decide) (hs : PlainIx b := by exact fun _ _ => rfl) :
    HX X C (.Subscript (.Name x px) b pos) as O (fun s => (mb s).bind fun z => (getI (sel z.2) z.1).bind fun y => .ok (y, z.2)) (VP.at true rp) := ⟨pe_weak (pe_ix ix_list (hx_ptr (O := O) i h hN hvis hd hcd).pe hb.pe hs) fun σ H Q ⟨s, S, st, sl, ow, q⟩ =>
  ⟨s, S, st, sl, ow, fun _ v S1 H1 l1 st1 ow1 p1 => ⟨s, S1, st1, sl.mono l1, ow1, R.post_mono (R.post_bind.mp q) (fun z k _ u S2 H2 l2 st2 ow2 pu => by
    have p1 : v = .ref q0 := p1
    have pu : u = .int z.1 := pu
    subst p1; subst pu
    obtain ⟨_, ⟨o, ho, vs0, eo, hA⟩, _⟩ := ow2.get (hO z.2)
    have eo : o = .lst vs0 := eo
    subst eo
    obtain ⟨y, hy, k⟩ := R.ofO_post.mp (R.post_bind.mp k)
    obtain ⟨v', hv, hr⟩ := A2.atI hA hy
    exact ⟨q0, vs0, z.1, v', rfl, rfl, SqL.of ho, hv, k () v' S2 H2 (l1.trans l2) st2 ow2 hr⟩) fun _ z => xq_le z⟩⟩⟩
theorem hx_lenO {rp : Rp δ} {q0 : Addr} {fl : Bool} {x : Str} (i j : Nat) (sel : ς → List δ) (hm : X.mg "len" = none) (h : as[i]? = some (some (VP.ptr q0)) := by rfl) (hO : ∀ s, (O s)[j]? = some ⟨q0, cLst rp (sel s), fl⟩ := by intro _; rfl)
    (hN : X.N[i]? = some x := by rfl) (hvis : Vis X.env.scope x := by first | exact Or.inl rfl | exact Or.inr (Or.inl rfl) | exact Or.inr (Or.inr rfl)) (hd : (x == ("__debug__" : Str)) = false := by decide) (hcd : (x == ("__classdict__" : Str)) = false := by decide) (hg : Gl X "len" := by rfl)
    (he : starEach [(.Name x px : Expr)] X.env = (false, eval (.Name x px) X.env) :: starEach [] X.env := by rfl) (hpl : (backTo pos (starEach [] X.env)).any (·.1) = false := by rfl) :
    HX X C (.Call (.Name "len" p) [.Name x px] [] pos) as O (fun s => .ok (((sel s).length : Int), s)) (VP.at true rInt) := ⟨pe_weak (pe_callB call_len_seq hg hm boot_len (ha_one (hx_ptr (O := O) (C := C) (as := as) i h hN hvis hd hcd) he).pa (by decide) (by decide) he hpl) fun σ H Q ⟨s, S, st, sl, ow, q⟩ =>
  ⟨s, S, st, sl, ow, fun vs S1 H1 l1 st1 ow1 p1 => by
    obtain ⟨v, e1, pv⟩ := av1 p1
    have pv : v = .ref q0 := pv
    subst pv; subst e1
    obtain ⟨_, ⟨o, ho, vs0, eo, hA⟩, _⟩ := ow1.get (hO s)
    have eo : o = .lst vs0 := eo
    subst eo
    refine ⟨q0, vs0, rfl, .inl (SqL.of ho), ?_⟩
    rw [← A2.length hA]
    exact q () _ S1 H1 l1 st1 ow1 rfl⟩⟩
end
end Y

/-! Y: deep ==, sorted texts, index, isinstance, reversed slices. -/
namespace Y
open PySem PySem.Spec PyProof.Rows L2

section
variable {ς α β γ δ κ μ ρ π τ π0 : Type} {X : Cx} {C : Cf} {as : SA} {O : ς → OS} {a b c e elt tg iter : Expr} {es : List Expr} {pos p apos px : Pos} {w w1 w2 : Bool} {kn k : Nat} {rst : List Stmt} {N : Sv → μ → L2.St → Hp → Prop} {T : ρ → V → Hp → Prop} {ι : α → Oc μ ρ}
/-! ### == of data at any depth -/
structure DQ (K : PySem.W.Frag) (r : Rp α) where
  d : α → PyData
  can : α → Bool
  n : Nat
  dp : ∀ {a v H}, r.rep a v H → Dp K H v (d a)
  eq : ∀ a b, PyData.eqv (d a) (d b) = true ↔ a = b
  canl : ∀ {a}, can a = true → (d a).canLay0 = true
  dep : ∀ a, (d a).depth ≤ n
variable {K : PySem.W.Frag}
def dqInt : DQ K rInt := ⟨PyData.int, fun _ => true, 0, fun {a v H} h => by
  have h : v = .int a := h
  subst h; exact .int a, fun a b => by simp [PyData.eqv], fun _ => by simp [PyData.canLay0], fun _ => by simp [PyData.depth]⟩
def dqBl : DQ K rBl := ⟨PyData.bool, fun _ => true, 0, fun {a v H} h => by
  have h : v = .bl a := h
  subst h; exact .bl a, fun a b => by simp [PyData.eqv], fun _ => by simp [PyData.canLay0], fun _ => by simp [PyData.depth]⟩
def dqStr : DQ K rStr := ⟨PyData.str, fun x => PyData.strOk x, 0, fun {a v H} h => by
  have h : v = .str a := h
  subst h; exact .str a, fun a b => by simp [PyData.eqv], fun h => by simpa [PyData.canLay0] using h, fun _ => by simp [PyData.depth]⟩
theorem dq_all {r : Rp α} (q : DQ K r) {H : Hp} : ∀ {xs : List α} {vs : List V}, A2 r H xs vs → DpAll K H vs (xs.map q.d)
  | [], [], _ => .nil
  | _ :: _, _ :: _, h => .cons (q.dp h.1) (dq_all q h.2)
  | [], _ :: _, h => h.elim
  | _ :: _, [], h => h.elim
theorem dq_eqa {r : Rp α} (q : DQ K r) : ∀ (xs ys : List α), PyData.eqvAll (xs.map q.d) (ys.map q.d) = true ↔ xs = ys
  | [], [] => by simp [PyData.eqvAll]
  | x :: xs, y :: ys => by
    rw [List.map_cons, List.map_cons, PyData.eqvAll, Bool.and_eq_true, q.eq, dq_eqa q xs ys]
    simp
  | [], _ :: _ => by simp [PyData.eqvAll]
  | _ :: _, [] => by simp [PyData.eqvAll]
theorem dq_can {r : Rp α} (q : DQ K r) : ∀ {xs : List α}, xs.all q.can = true → PyData.canLayAll0 (xs.map q.d) = true
  | [], _ => by simp [PyData.canLayAll0]
  | x :: xs, h => by
    rw [List.all_cons, Bool.and_eq_true] at h
    rw [List.map_cons, PyData.canLayAll0, q.canl h.1, dq_can q h.2]
    rfl
theorem dq_dep {r : Rp α} (q : DQ K r) : ∀ (xs : List α), PyData.depthAll (xs.map q.d) ≤ q.n
  | [] => by simp [PyData.depthAll]
  | x :: xs => by
    rw [List.map_cons, PyData.depthAll]
    exact Nat.max_le.mpr ⟨q.dep x, dq_dep q xs⟩
def dqLst {r : Rp α} (q : DQ K r) : DQ K (rLst K r) := ⟨fun xs => .list (xs.map q.d), fun xs => xs.all q.can, q.n + 1, fun {a v H} h => by
  obtain ⟨p, vs, e, h1, h2⟩ := h
  subst e
  exact .lst h1 (dq_all q h2), fun xs ys => by rw [PyData.eqv]; exact dq_eqa q xs ys, fun h => by simpa [PyData.canLay0] using dq_can q h, fun xs => by
    show PyData.depth (.list _) ≤ _
    rw [PyData.depth]
    exact Nat.succ_le_succ (dq_dep q xs)⟩
/-- .. of parts -/
structure DT (K : PySem.W.Frag) (t : RT α) where
  d : α → List PyData
  can : α → Bool
  n : Nat
  dp : ∀ {a vs H}, t.rep a vs H → DpAll K H vs (d a)
  eq : ∀ a b, PyData.eqvAll (d a) (d b) = true ↔ a = b
  canl : ∀ {a}, can a = true → PyData.canLayAll0 (d a) = true
  dep : ∀ a, PyData.depthAll (d a) ≤ n
def dtOne {r : Rp α} (q : DQ K r) : DT K (RT.one r) := ⟨fun x => [q.d x], q.can, q.n, fun {a vs H} ⟨v, e, h⟩ => by subst e; exact .cons (q.dp h) .nil, fun a b => by simp [PyData.eqvAll, q.eq], fun h => by simp [PyData.canLayAll0, q.canl h], fun a => by simp [PyData.depthAll]; exact q.dep a⟩
def dtCons {r : Rp α} {t : RT β} (q : DQ K r) (u : DT K t) : DT K (RT.cons r t) := ⟨fun x => q.d x.1 :: u.d x.2, fun x => q.can x.1 && u.can x.2, max q.n u.n, fun {a vs H} ⟨v, ws, e, h1, h2⟩ => by subst e; exact .cons (q.dp h1) (u.dp h2), fun a b => by
  rw [PyData.eqvAll, Bool.and_eq_true, q.eq, u.eq]
  exact ⟨fun ⟨h1, h2⟩ => Prod.ext h1 h2, fun h => by subst h; exact ⟨rfl, rfl⟩⟩, fun {a} h => by
  rw [Bool.and_eq_true] at h
  rw [PyData.canLayAll0, q.canl h.1, u.canl h.2]; rfl, fun a => by
  rw [PyData.depthAll]
  have h1 := q.dep a.1
  have h2 := u.dep a.2
  omega⟩
def dqTup {t : RT α} (u : DT K t) : DQ K (rTup K t) := ⟨fun x => .tuple (u.d x), u.can, u.n + 1, fun {a v H} h => by
  obtain ⟨p, vs, e, h1, h2⟩ := h
  subst e
  exact .tup h1 (u.dp h2), fun a b => by rw [PyData.eqv]; exact u.eq a b, fun h => by simpa [PyData.canLay0] using u.canl h, fun a => by
    show PyData.depth (.tuple _) ≤ _
    rw [PyData.depth]
    exact Nat.succ_le_succ (u.dep a)⟩
/-- a list of parts of several sorts -/
def rLsH (K : PySem.W.Frag) (t : RT α) : Rp α := ⟨fun x v H => ∃ p vs, v = .ref p ∧ SqL K H p vs ∧ t.rep x vs H, fun e ⟨p, vs, h1, h2, h3⟩ => ⟨p, vs, h1, e.seq h2, t.mono e h3⟩⟩
def dqLsH {t : RT α} (u : DT K t) : DQ K (rLsH K t) := ⟨fun x => .list (u.d x), u.can, u.n + 1, fun {a v H} h => by
  obtain ⟨p, vs, e, h1, h2⟩ := h
  subst e
  exact .lst h1 (u.dp h2), fun a b => by rw [PyData.eqv]; exact u.eq a b, fun h => by simpa [PyData.canLay0] using u.canl h, fun a => by
    show PyData.depth (.list _) ≤ _
    rw [PyData.depth]
    exact Nat.succ_le_succ (u.dep a)⟩
def hx_lsH {m : SM ς α} {t : RT α} {w : Bool} (h : HA X C es as O m (t.vps w)) (hn : t.n ≤ 16777216 := by decide) : HX X C (.List es pos) as O m (VP.at w (rLsH X.K t)) := ⟨pe_weak (pe_lst h.pa) fun σ H Q ⟨s, S, st, sl, ow, q⟩ =>
  ⟨s, S, st, sl, ow, R.post_mono q (fun z k vs S' H' l' st' ow' pv => by
    have hr := t.law pv
    refine ⟨by rw [t.len hr, sizeLine_eq]; exact hn, fun p hp => ?_⟩
    have l2 : S'.le (S'.add p (.lst vs)) := st'.leF hp
    exact k () (.ref p) (S'.add p (.lst vs)) _ (l'.trans l2) (st'.newF hp) (ow'.newF st' hp) ⟨p, vs, rfl, SqL.of (Sv.add_at w), t.mono (l2.at w) hr⟩) fun _ z => xq_le z⟩⟩
theorem hx_lix {t : RT τ} {r : Rp β} {f : τ → β} {k : Nat} {m : SM ς τ} {j : Nat} {pi : Pos} (hc : ∀ x vs H, t.rep x vs H → ∃ v, vs[k]? = some v ∧ r.rep (f x) v H) (ha : HX X C a as O m (VP.at w (rLsH X.K t))) :
    HX X C (.Subscript a (.Constant (.int (k : Int)) j pi) pos) as O (SM.map1 f m) (VP.at w r) := ⟨pe_weak (pe_ix ix_list ha.pe pe_int (fun _ _ => rfl)) fun σ H Q ⟨s, S, st, sl, ow, q⟩ =>
  ⟨s, S, st, sl, ow, R.post_mono (R.post_bind.mp q) (fun z k' _ v S' H' l' st' ow' pv => by
    obtain ⟨p, vs, e1, hl, h3⟩ := pv
    obtain ⟨v', hv, hr⟩ := hc _ _ _ h3
    exact ⟨p, vs, k, v', e1, rfl, (st'.atH w).seq hl, atI_nat hv, k' () v' S' H' l' st' ow' hr⟩) fun _ z => xq_le z⟩⟩
def eqD [DecidableEq α] (can : α → Bool) (x y : α) : R Bool := (R.guard (can x = true ∧ can y = true)).bind fun _ => .ok (decide (x = y))
def neD [DecidableEq α] (can : α → Bool) (x y : α) : R Bool := (R.guard (can x = true ∧ can y = true)).bind fun _ => .ok (!decide (x = y))
theorem dq_b [DecidableEq α] {r : Rp α} (q : DQ K r) (x y : α) : PyData.eqv (q.d x) (q.d y) = decide (x = y) := by
  rw [Bool.eq_iff_iff, q.eq, decide_eq_true_iff]
theorem dq_sh {r : Rp α} (q : DQ K r) (hn : q.n ≤ 64) {x : α} (h : q.can x = true) : SeqAt.shaped (q.d x) = true := by
  unfold SeqAt.shaped
  rw [q.canl h, decide_eq_true (Nat.le_trans (q.dep x) hn)]; rfl
theorem Ok.u64 (o : Ok X C kn) : X.A.units + 64 < cLine := by have := o.room.un; omega
theorem ov_eqD [DecidableEq α] {r : Rp α} (q : DQ X.K r) (hn : q.n ≤ 64) : OV2 (π := Unit) C (rEqD X.K) (VP.at w1 r) (VP.at w2 r) (eqD q.can) (fun z _ => VP.at true rBl z) (fun _ _ => []) := fun x y v u S H os Q st ow h1 h2 z => by
  obtain ⟨⟨c1, c2⟩, z⟩ := z.guard
  refine ⟨_, _, q.dp (r.mono (st.atH w1) h1), q.dp (r.mono (st.atH w2) h2), dq_sh q hn c1, dq_sh q hn c2, ?_⟩
  rw [dq_b]
  exact z.imm st ow rfl
theorem ov_neD [DecidableEq α] {r : Rp α} (q : DQ X.K r) (hn : q.n ≤ 64) : OV2 (π := Unit) C (rNeD X.K) (VP.at w1 r) (VP.at w2 r) (neD q.can) (fun z _ => VP.at true rBl z) (fun _ _ => []) := fun x y v u S H os Q st ow h1 h2 z => by
  obtain ⟨⟨c1, c2⟩, z⟩ := z.guard
  refine ⟨_, _, q.dp (r.mono (st.atH w1) h1), q.dp (r.mono (st.atH w2) h2), dq_sh q hn c1, dq_sh q hn c2, ?_⟩
  rw [dq_b]
  exact z.imm st ow rfl
section
variable [DecidableEq α] {m1 m2 : SM ς α} {r : Rp α}
theorem hx_eqD (o : Ok X C kn) (q : DQ X.K r) (ha : HX X C a as O m1 (VP.at w1 r)) (hb : HX X C b as O m2 (VP.at w2 r)) (hn : q.n ≤ 64 := by decide) (hm : behindInMarks .Eq b = false := by rfl) : HX X C (.Compare a [.Eq] [b] pos) as O (SM.bnd2 (eqD q.can) m1 m2) (VP.at true rBl) := hx_cmp (op_eqD o.u64) (ov_eqD q hn) ha hb hm
theorem ht_eqD (o : Ok X C kn) (q : DQ X.K r) (ha : HX X C a as O m1 (VP.at w1 r)) (hb : HX X C b as O m2 (VP.at w2 r)) (hn : q.n ≤ 64 := by decide) (hm : behindInMarks .Eq b = false := by rfl) : HT X C (.Compare a [.Eq] [b] pos) as O (SM.bnd2 (eqD q.can) m1 m2) := ht_cmp (op_eqD o.u64) (ov_eqD q hn) ha hb hm
theorem hx_neD (o : Ok X C kn) (q : DQ X.K r) (ha : HX X C a as O m1 (VP.at w1 r)) (hb : HX X C b as O m2 (VP.at w2 r)) (hn : q.n ≤ 64 := by decide) (hm : behindInMarks .NotEq b = false := by rfl) : HX X C (.Compare a [.NotEq] [b] pos) as O (SM.bnd2 (neD q.can) m1 m2) (VP.at true rBl) := hx_cmp (op_neD o.u64) (ov_neD q hn) ha hb hm
theorem ht_neD (o : Ok X C kn) (q : DQ X.K r) (ha : HX X C a as O m1 (VP.at w1 r)) (hb : HX X C b as O m2 (VP.at w2 r)) (hn : q.n ≤ 64 := by decide) (hm : behindInMarks .NotEq b = false := by rfl) : HT X C (.Compare a [.NotEq] [b] pos) as O (SM.bnd2 (neD q.can) m1 m2) := ht_cmp (op_neD o.u64) (ov_neD q hn) ha hb hm
end
/-! ### sorted(texts) -/
def leT (x y : Str) : Bool := decide (x.cps.toList ≤ y.cps.toList)
def sortS (xs : List Str) : R (List Str) := (R.guard (xs.length < 64)).bind fun _ => .ok (xs.mergeSort leT)
theorem leT_of {x y : Str} (h : ltCps y.cps.toList x.cps.toList = false) : leT x y = true := by
  rw [ltCps_eq, decide_eq_false_iff_not] at h
  unfold leT
  rw [decide_eq_true_iff]
  exact List.not_lt.mp h
theorem leT_anti {x y : Str} (h1 : leT x y = true) (h2 : leT y x = true) : x = y := by
  unfold leT at h1 h2
  rw [decide_eq_true_iff] at h1 h2
  have e : x.cps.toList = y.cps.toList := List.le_antisymm h1 h2
  obtain ⟨⟨x⟩⟩ := x
  obtain ⟨⟨y⟩⟩ := y
  simp only at e
  subst e
  rfl
theorem leT_trans (x y z : Str) (h1 : leT x y = true) (h2 : leT y z = true) : leT x z = true := by
  unfold leT at *
  rw [decide_eq_true_iff] at *
  exact List.le_trans h1 h2
theorem leT_tot (x y : Str) : (leT x y || leT y x) = true := by
  unfold leT
  rw [Bool.or_eq_true, decide_eq_true_iff, decide_eq_true_iff]
  exact List.le_total _ _
theorem rising_pw : ∀ (xs : List Str) (x : Str), risingS x xs = true → (x :: xs).Pairwise fun a b => leT a b = true
  | [], x, _ => List.pairwise_singleton _ _
  | y :: ys, x, h => by
    unfold risingS at h
    rw [Bool.and_eq_true] at h
    have h1 : leT x y = true := leT_of (by simpa using h.1)
    have ih := rising_pw ys y h.2
    refine List.pairwise_cons.mpr ⟨fun z hz => ?_, ih⟩
    rcases List.mem_cons.mp hz with e | e
    · subst e; exact h1
    · exact leT_trans _ _ _ h1 (List.rel_of_pairwise_cons ih e)
theorem sorted_uniq {xs ys : List Str} (h : ys.Perm xs) (s : sortedS ys = true) : ys = xs.mergeSort leT := by
  have h1 : ys.Pairwise fun a b => leT a b = true := by
    cases ys with
    | nil => exact .nil
    | cons y ys => exact rising_pw ys y s
  exact List.Perm.eq_of_pairwise (fun a b _ _ => leT_anti) h1 (List.pairwise_mergeSort leT_trans leT_tot xs) (h.trans (List.mergeSort_perm xs leT).symm)
theorem hn_sortS {m : SM ς (List Str)} (hm : X.mg "sorted" = none) (ha : HX X C e as O m (VP.at w (rLst X.K rStr))) (hg : Gl X "sorted" := by rfl)
    (he : starEach [e] X.env = (false, eval e X.env) :: starEach [] X.env := by rfl) (hpl : (backTo pos (starEach [] X.env)).any (·.1) = false := by rfl) : HN X C (.Call (.Name "sorted" p) [e] [] pos) as O (SM.bnd1 sortS m) (cLst rStr) :=
  hg_callB cr_sortedS (fun x vs S H os Q st ow h q => by
    obtain ⟨v, e1, pv⟩ := av1 h
    subst e1
    obtain ⟨p, vs, e2, hl, h3⟩ := pv
    subst e2
    have e3 := h3.str
    subst e3
    obtain ⟨hz, q⟩ := q.guard
    refine ⟨p, x, rfl, (st.atH w).seq hl, hz, fun ys p' hp hs hn => ?_⟩
    have e4 := sorted_uniq hp hs
    subst e4
    exact q.newO st ow hn ⟨_, rfl, A2.ofStr _⟩) hm (by decide +kernel) (ha_one ha he) hg (by decide) (by decide) he hpl
end
end Y

/-! Y: list methods that read, isinstance, slices with a step, tuple keys, dict.clear. -/
namespace Y
open PySem PySem.Spec PyProof.Rows L2

section
variable {ς α β γ δ κ μ ρ π τ π0 : Type} {X : Cx} {C : Cf} {as : SA} {O : ς → OS} {a b c e elt tg iter : Expr} {es : List Expr} {pos p apos px : Pos} {w w1 w2 : Bool} {kn k : Nat} {rst : List Stmt} {N : Sv → μ → L2.St → Hp → Prop} {T : ρ → V → Hp → Prop} {ι : α → Oc μ ρ}
/-! ### methods of a list that read it -/
theorem hg_mtL {id : String} {name : Str} {r : V → List V → Hp → VK → Prop} {rp : Rp δ} {m : SM ς (List δ)} {Ps : β → List VP} {f : List δ → β → R γ} {P : γ → π → VP} {nw : γ → π → OS} {ma : SM ς β} (slot : Slot "list" name id) (hty : typeOf (.builtin id) = pure (.type "method_descriptor")) (hm : MtR X id r) (hv : OVM C r (VP.at w (rLst X.K rp)) Ps f P nw)
    (ho : HX X C a as O m (VP.at w (rLst X.K rp))) (ha : HA X C (e :: es) as O ma Ps)
    (hbase : attributeBase a name X.env (eval a X.env) = eval a X.env := by rfl)
    (hfew : ((backTo pos (starEach (e :: es) X.env)).all (fun x => !x.1) && (backToKw pos (keywordEach [] X.env)).all (fun x => x.1.isSome)
      && decide ((e :: es).length + ([] : List Keyword).length + (if ([] : List Keyword).isEmpty then 0 else 1) < 30)) = true := by rfl)
    (hline : (apos.endLine == pos.line) = true := by rfl) (hs : starEach (e :: es) X.env = (false, eval e X.env) :: starEach es X.env := by rfl) (hplain : (backTo pos (starEach es X.env)).any (·.1) = false := by rfl) :
    HG X C (.Call (.Attribute a name apos) (e :: es) [] pos) as O (SM.bnd2 f m ma) P nw :=
  ⟨pe_weak (pe_bm PySem.F.plainAttrs_list slot hty hm ho.pe ha.pa hbase hfew hline hs hplain) fun σ H Q ⟨s, S, st, sl, ow, q⟩ =>
    ⟨s, S, st, sl, ow, R.post_mono (R.post_bind.mp q) (fun z k _ v S1 H1 l1 st1 ow1 pv => by
      obtain ⟨p, vs, e1, hq, hA⟩ := pv
      subst e1
      refine ⟨.inl ⟨rfl, vs, (st1.atH w).seq hq⟩, z.2, S1, st1, sl.mono l1, ow1, R.post_mono (R.post_bind.mp k) (fun y k2 us S2 H2 l2 st2 ow2 pus => ?_) fun _ z => xq_le z⟩
      exact hv z.1 y.1 (.ref p) us S2 H2 (O y.2) Q st2 ow2 ((VP.at w (rLst X.K rp) z.1).mono l2 ⟨p, vs, rfl, hq, hA⟩) pus (R.post_mono (R.post_bind.mp k2) (fun c k3 q v S3 H3 l3 st3 ow3 p3 => k3 q v S3 H3 ((l1.trans l2).trans l3) st3 ow3 p3) fun _ z => xq_le z)) fun _ z => xq_le z⟩⟩
/-- flat items -/
structure FR (r : Rp α) where
  f : α → V
  law : ∀ {a v H}, r.rep a v H → v = f a
  flat : ∀ a, flatV (f a) = true
  eqv : ∀ a b, eqV (f a) (f b) = true ↔ a = b
def frInt : FR rInt := ⟨V.int, fun h => h, fun _ => rfl, fun a b => by simp [eqV]⟩
def frStr : FR rStr := ⟨V.str, fun h => h, fun _ => rfl, fun a b => by simp [eqV]⟩
theorem fr_all {r : Rp α} (F : FR r) {H : Hp} : ∀ {xs : List α} {vs : List V}, A2 r H xs vs → vs = xs.map F.f
  | [], [], _ => rfl
  | x :: xs, v :: vs, h => by rw [F.law h.1, fr_all F h.2]; rfl
  | [], _ :: _, h => h.elim
  | _ :: _, [], h => h.elim
def idxR [DecidableEq α] (xs : List α) (y : α) : R Int := (R.ofO (xs.findIdx? fun z => decide (z = y))).bind fun j => .ok (j : Int)
theorem hx_index [DecidableEq α] {r : Rp α} {m : SM ς (List α)} {ma : SM ς α} (F : FR r) (ho : HX X C a as O m (VP.at w (rLst X.K r))) (hb : HX X C e as O ma (VP.at w2 r))
    (hbase : attributeBase a "index" X.env (eval a X.env) = eval a X.env := by rfl)
    (hfew : ((backTo pos (starEach [e] X.env)).all (fun x => !x.1) && (backToKw pos (keywordEach [] X.env)).all (fun x => x.1.isSome)
      && decide ([e].length + ([] : List Keyword).length + (if ([] : List Keyword).isEmpty then 0 else 1) < 30)) = true := by rfl)
    (hline : (apos.endLine == pos.line) = true := by rfl) (hs : starEach [e] X.env = (false, eval e X.env) :: starEach [] X.env := by rfl) (hplain : (backTo pos (starEach [] X.env)).any (·.1) = false := by rfl) :
    HX X C (.Call (.Attribute a "index" apos) [e] [] pos) as O (SM.bnd2 idxR m ma) (VP.at true rInt) :=
  hg_mtL PySem.F.slot_list_index PySem.F.type_list_index mt_index (fun xs y v vs S H os Q st ow hx hy q => by
    obtain ⟨p, ws, e1, hq, hA⟩ := hx
    subst e1
    obtain ⟨u, e2, pu⟩ := av1 hy
    subst e2
    have e3 := F.law pu
    subst e3
    have e4 := fr_all F hA
    subst e4
    obtain ⟨j, hj, q⟩ := q.ofO
    obtain ⟨hlt, hj1, hj2⟩ := List.findIdx?_eq_some_iff_getElem.mp hj
    have ej : xs[j] = y := of_decide_eq_true hj1
    refine ⟨p, _, F.f y, j, F.f y, rfl, rfl, (st.atH w).seq hq, F.flat y, ?_, ?_, (F.eqv y y).mpr rfl, fun mm z' hm hz => ?_, q.imm st ow rfl⟩
    · rw [List.all_map, List.all_eq_true]
      exact fun x _ => F.flat x
    · rw [List.getElem?_map, List.getElem?_eq_getElem hlt, ej]; rfl
    · rw [List.getElem?_map, List.getElem?_eq_getElem (Nat.lt_trans hm hlt)] at hz
      have hz : F.f xs[mm] = z' := Option.some.inj hz
      have n := hj2 mm hm
      have n : xs[mm] ≠ y := by simpa using n
      cases hq : eqV z' (F.f y) with
      | false => rfl
      | true => rw [← hz, F.eqv] at hq; exact (n hq).elim) ho (ha_one hb hs) hbase hfew hline hs hplain

/-! ### isinstance -/
theorem tyx_l {K : PySem.W.Frag} {H : Hp} {p : Addr} {vs : List V} (h : SqL K H p vs) : TyX K H (.ref p) (.type "list") := by
  rcases h with (h | ⟨o, h⟩) | ⟨o, _, _, h, c, _⟩
  · exact .base (.lst h)
  · exact .base (.frz h)
  · exact .kList h c
theorem tyx_t {K : PySem.W.Frag} {H : Hp} {p : Addr} {vs : List V} (h : SqT K H p vs) : TyX K H (.ref p) (.type "tuple") := by
  rcases h with (h | ⟨o, h⟩) | ⟨o, _, _, h, c, _⟩
  · exact .base (.tup h)
  · exact .fTuple h
  · exact .kTuple h c
def TyP (K : PySem.W.Frag) (P : VP) (T : String) : Prop := ∀ v S H, Ex S.g H → Ex S.y H → P.p v S → TyX K H v (.type T)
variable {K : PySem.W.Frag}
theorem ex_at {S : Sv} {H : Hp} (h1 : Ex S.g H) (h2 : Ex S.y H) (w : Bool) : Ex (S.at w) H := by
  cases w
  · exact h2
  · exact h1
theorem ty_int {x : Int} : TyP K (VP.at w rInt x) "int" := fun v S H _ _ h => by
  have h : v = .int x := h
  subst h; exact .base (.int x)
theorem ty_str {x : Str} : TyP K (VP.at w rStr x) "str" := fun v S H _ _ h => by
  have h : v = .str x := h
  subst h; exact .base (.str x)
theorem ty_bl {x : Bool} : TyP K (VP.at w rBl x) "bool" := fun v S H _ _ h => by
  have h : v = .bl x := h
  subst h; exact .base (.bl x)
theorem ty_lst {r : Rp α} {x : List α} : TyP K (VP.at w (rLst K r) x) "list" := fun v S H g y h => by
  obtain ⟨p, vs, e, h1, _⟩ := h
  subst e; exact tyx_l ((ex_at g y w).seq h1)
theorem ty_tup {r : RT α} {x : α} : TyP K (VP.at w (rTup K r) x) "tuple" := fun v S H g y h => by
  obtain ⟨p, vs, e, h1, _⟩ := h
  subst e; exact tyx_t ((ex_at g y w).tup h1)
theorem ty_tupV {Ps : List VP} : TyP K (VP.tup K Ps) "tuple" := fun v S H g y h => by
  obtain ⟨p, vs, e, h1, _⟩ := h
  subst e; exact tyx_t (g.tup h1)
theorem ty_dic {κ : Type} {kk : KK κ} {r : Rp α} {x : List (κ × α)} : TyP K (VP.at w (rDic kk r) x) "dict" := fun v S H g y h => by
  obtain ⟨p, vs, e, h1, _⟩ := h
  subst e; exact .base (.dK (ex_at g y w _ _ h1))
theorem hx_isi {m : SM ς α} {P : α → VP} {A T' : String} {tx : Str} {ti : Bool} {p3 : Pos} (hty : ∀ x, TyP X.K (P x) A) (hk : kitB A T' = some ti) (hm : X.mg "isinstance" = none) (hmT : X.mg tx = none) (hT : bootBuiltins tx = some (.type T')) (ha : HX X C e as O m P) (hg : Gl X "isinstance" := by rfl) (hgT : Gl X tx := by rfl)
    (hnT : tx ≠ "__name__" := by decide) (hdT : (tx == ("__debug__" : Str)) = false := by decide)
    (he1 : starEach [e, .Name tx p3] X.env = (false, eval e X.env) :: starEach [.Name tx p3] X.env := by rfl) (he2 : starEach [(.Name tx p3 : Expr)] X.env = (false, eval (.Name tx p3) X.env) :: starEach [] X.env := by rfl)
    (hpl : (backTo pos (starEach [(.Name tx p3 : Expr)] X.env)).any (·.1) = false := by rfl) :
    HX X C (.Call (.Name "isinstance" p) [e, .Name tx p3] [] pos) as O (SM.map1 (fun _ => ti) m) (VP.at true rBl) := by
  have h2 : HX X C (.Name tx p3) as O (SM.ret ()) (fun _ => VP.is (.ty T')) := hx_tc (pe_bltn hgT hmT hT (show RelV (.ty T') _ from rfl) hnT hdT) fun _ => rfl
  have hA := ha_cons ha (ha_one h2 he2) he1
  exact ⟨pe_weak (pe_callB call_isi hg hm (by decide +kernel) hA.pa (by decide) (by decide) he1 hpl) fun σ H Q ⟨s, S, st, sl, ow, q⟩ =>
    ⟨s, S, st, sl, ow, by
      have q' := R.post_bind.mp q
      refine R.post_bind.mpr (R.post_mono q' (fun z k => ?_) fun _ z => z)
      show ∀ (vs : List V) (S' : Sv) (H' : Hp), S.le S' → StOk C.B S' H' → OwL C.B S' H' (O z.2) → AV S' vs [P z.1, VP.is (.ty T')] → rIsi X.K vs H' Q
      intro vs S' H' l' st' ow' pv
      obtain ⟨v, u, e1, p1, p2⟩ := av2 pv
      have p2 : u = .ty T' := p2
      subst e1; subst p2
      exact ⟨v, .ty T', .type A, .type T', ti, rfl, .ty T', hty z.1 v S' H' (st'.gy.trans st'.yh) st'.yh p1, kit_ty hk, k () _ S' H' l' st' ow' rfl⟩⟩⟩

/-! ### xs[::k], k one or minus one -/
def stepL (xs : List α) (k : Int) : R (List α) := if k = 1 then .ok xs else if k = -1 then .ok xs.reverse else .no
theorem pick1 (items : Array Value) : slicePick items none none (some 1) = items := by
  have h : slicePick items none none (some 1) = slicePick items none none none := rfl
  obtain ⟨its⟩ := items
  rw [h, slicePick_cut]
  simp [HT.sIx]
def tStepL (K : PySem.W.Frag) (te tk : TE) : TE := fun σ H Q => te σ H fun x H1 => tk σ H1 fun y H2 => ∃ k, y = .int k ∧ ∃ k', (some k : Option Int) = some k' ∧ ∃ a xs, x = .ref a ∧ SqL K H2 a xs ∧ ((k' = 1 ∧ ∀ p, H2 p = none → Q (.ref p) (upd H2 p (.lst xs))) ∨ (k' = -1 ∧ ∀ p, H2 p = none → Q (.ref p) (upd H2 p (.lst xs.reverse))))
theorem pe_stepL {e ke : Expr} {te tk : TE} {p3 pos : Pos} (he : PE X e te) (hk : PE X ke tk) : PE X (.Subscript e (.Slice none none (some ke) p3) pos) (tStepL X.K te tk) := by
  refine ⟨fun pins s σ H Q I h => ?_⟩
  refine Subscript_ (thn (he.run pins s σ H _ I h) fun v s1 ⟨x, H1, I1, r1, q1⟩ => ?_)
  have hst : PO X (some ke) (tPart tk) := po_some hk
  refine wpAny_Slice (thn (po_none.run pins s1 σ H1 (fun o H2 => o = none ∧ H2 = H1) I1 ⟨rfl, rfl⟩) fun vl s2 ⟨l, H2, I2, pl, el, e2⟩ => ?_)
  subst el e2
  refine thn (po_none.run pins s2 σ H2 (fun o H3 => o = none ∧ H3 = H2) I2 ⟨rfl, rfl⟩) fun vu s3 ⟨u, H3, I3, pu, eu, e3⟩ => ?_
  subst eu e3
  refine thn (hst.run pins s3 σ H3 (fun o H4 => ∃ k, o = some k ∧ ∃ a xs, x = .ref a ∧ SqL X.K H4 a xs ∧ ((k = 1 ∧ ∀ p, H4 p = none → Q (.ref p) (upd H4 p (.lst xs))) ∨ (k = -1 ∧ ∀ p, H4 p = none → Q (.ref p) (upd H4 p (.lst xs.reverse))))) I3 q1) fun vs s4 ⟨o, H4, I4, ps, kk, eo, a, xs, ex, hx, q⟩ => ?_
  subst eo ex
  cases r1
  have I5 : Inv X pins σ H4 { s4 with heap := s4.heap.push { cls := .type "slice", data := .fields #[vl, vu, vs] } } := I4.kept (t' := s4.toks) fun b ob q => Heap.get?_push_of_some _ q
  obtain ⟨its, r, ht, hz⟩ := I5.list hx
  have hlen := r.length
  show wpAny (model X.prog X.w) X.A (subscriptTail e (.Slice none none (some ke) p3) (.ref a) (.ref s4.heap.objs.size)) (EP X pins σ Q) X.xe { s4 with heap := s4.heap.push { cls := .type "slice", data := .fields #[vl, vu, vs] } }
  refine tail_any (ops := [.ref a, .ref s4.heap.objs.size]) ht.isList.typeIs (PySem.slot_list_getitem.lookup) ?_ (by with_unfolding_all rfl)
  rcases q with ⟨e1, q⟩ | ⟨e1, q⟩
  · subst e1
    refine wpAny_getItem_list_slice ht.isList (Heap.IsSliceOf.new _ vl vu vs) pl pu ps (by decide) ?_ (by rw [List.size_toArray]; omega)
    rw [pick1]
    refine ⟨.ref _, _, I5.laid (t' := s4.toks) (o := .lst xs) (fun b ob q => Heap.get?_push_of_some _ q) (Nat.le_refl _) ?_, rfl, q _ (I5.hok.fresh (Nat.le_refl _))⟩
    exact ⟨hz, _, 0, r, Heap.get?_push_size _ rfl⟩
  · subst e1
    refine wpAny_getItem_list_slice ht.isList (Heap.IsSliceOf.new _ vl vu vs) pl pu ps (by decide) ?_ (by rw [List.size_toArray]; omega)
    rw [PySem.W.krv_pick]
    refine ⟨.ref _, _, I5.laid (t' := s4.toks) (o := .lst xs.reverse) (fun b ob q => Heap.get?_push_of_some _ q) (Nat.le_refl _) ?_, rfl, q _ (I5.hok.fresh (Nat.le_refl _))⟩
    exact ⟨by rw [List.length_reverse]; exact hz, _, 0, r.reverse, Heap.get?_push_size _ rfl⟩
theorem hn_step {r : Rp δ} {m : SM ς (List δ)} {mk : SM ς Int} {p3 : Pos} (ha : HX X C a as O m (VP.at true (rLst X.K r))) (hb : HX X C b as O mk (VP.at w2 rInt)) : HN X C (.Subscript a (.Slice none none (some b) p3) pos) as O (SM.bnd2 stepL m mk) (cLst r) :=
  ⟨pe_weak (pe_stepL ha.pe hb.pe) fun σ H Q ⟨s, S, st, sl, ow, q⟩ =>
  ⟨s, S, st, sl, ow, R.post_mono (R.post_bind.mp q) (fun z k _ v S1 H1 l1 st1 ow1 pv =>
    ⟨z.2, S1, st1, sl.mono l1, ow1, R.post_mono (R.post_bind.mp k) (fun y k2 _ u S2 H2 l2 st2 ow2 pu => by
      obtain ⟨p, vs, e1, hl, h3⟩ := pv
      have pu : u = .int y.1 := pu
      subst e1; subst pu
      refine ⟨y.1, rfl, y.1, rfl, p, vs, rfl, (st2.atH true).seq ((l2.at true).seq hl), ?_⟩
      have k2 := R.post_bind.mp k2
      unfold stepL at k2
      by_cases h1 : y.1 = 1
      · rw [if_pos h1] at k2
        refine .inl ⟨h1, fun p' hp => k2 p' (.ref p') S2 _ (l1.trans l2) (st2.grow hp) (ow2.new st2 hp ⟨vs, rfl, h3.mono l2.g⟩) rfl⟩
      · rw [if_neg h1] at k2
        by_cases h2 : y.1 = -1
        · rw [if_pos h2] at k2
          exact .inr ⟨h2, fun p' hp => k2 p' (.ref p') S2 _ (l1.trans l2) (st2.grow hp) (ow2.new st2 hp ⟨_, rfl, (h3.mono l2.g).reverse⟩) rfl⟩
        · rw [if_neg h2] at k2; exact k2.elim) fun _ z => xq_le z⟩) fun _ z => xq_le z⟩⟩
end
end Y

/-! Y: tuple keys, dict.clear, single statements, loops over owned lists, raise, try. -/
namespace Y
open PySem PySem.Spec PyProof.Rows L2

section
variable {ς α β γ δ κ μ ρ π τ π0 : Type} {X : Cx} {C : Cf} {as : SA} {O : ς → OS} {a b c e elt tg iter : Expr} {es : List Expr} {pos p apos px : Pos} {w w1 w2 : Bool} {kn k : Nat} {rst body : List Stmt} {N : Sv → μ → L2.St → Hp → Prop} {T : ρ → V → Hp → Prop} {ι : α → Oc μ ρ} {os : OS}
/-! ### tuples as keys -/
def rTupX (t : RT α) : Rp α := ⟨fun x v H => ∃ p vs, v = .ref p ∧ H p = some (.tup vs) ∧ t.rep x vs H, fun e ⟨p, vs, h1, h2, h3⟩ => ⟨p, vs, h1, e _ _ h2, t.mono e h3⟩⟩
theorem hx_tupX {m : SM ς α} {t : RT α} {w : Bool} (h : HA X C es as O m (t.vps w)) (hn : t.n ≤ 16777216 := by decide) : HX X C (.Tuple es 0 pos) as O m (VP.at w (rTupX t)) := ⟨pe_weak (pe_tup h.pa) fun σ H Q ⟨s, S, st, sl, ow, q⟩ =>
  ⟨s, S, st, sl, ow, R.post_mono q (fun z k vs S' H' l' st' ow' pv => by
    have hr := t.law pv
    refine ⟨by rw [t.len hr, sizeLine_eq]; exact hn, fun p hp => ?_⟩
    have l2 : S'.le (S'.add p (.tup vs)) := st'.leF hp
    exact k () (.ref p) (S'.add p (.tup vs)) _ (l'.trans l2) (st'.newF hp) (ow'.newF st' hp) ⟨p, vs, rfl, Sv.add_at w, t.mono (l2.at w) hr⟩) fun _ z => xq_le z⟩⟩
structure KT (κ : Type) where
  k : κ → List Key
  inj : ∀ {a b}, k a = k b → a = b
  t : RT κ
  law : ∀ {a vs H}, t.rep a vs H → vs = (k a).map kV
def ktOne (kk : KK κ) : KT κ := ⟨fun a => [kk.k a], fun h => kk.inj (List.cons.inj h).1, RT.one kk.rp, fun ⟨v, e, h⟩ => by rw [e, kk.law h]; rfl⟩
def ktCons {κ' : Type} (kk : KK κ) (kt : KT κ') : KT (κ × κ') := ⟨fun a => kk.k a.1 :: kt.k a.2, fun h => Prod.ext (kk.inj (List.cons.inj h).1) (kt.inj (List.cons.inj h).2), RT.cons kk.rp kt.t, fun ⟨v, ws, e, h1, h2⟩ => by rw [e, kk.law h1, kt.law h2]; rfl⟩
def rDicT (kt : KT κ) (r : Rp β) : Rp (List (κ × β)) := ⟨fun xs v H => ∃ p kvs, v = .ref p ∧ H p = some (.dT kvs) ∧ AD kt.k r H xs kvs, fun e ⟨p, vs, h1, h2, h3⟩ => ⟨p, vs, h1, e _ _ h2, h3.mono e⟩⟩
def cDicT (kt : KT κ) (r : Rp β) (xs : List (κ × β)) : Ct := ⟨fun o G => ∃ kvs, o = .dT kvs ∧ AD kt.k r G xs kvs, fun h ⟨vs, e, q⟩ => ⟨vs, e, q.mono h⟩⟩
theorem pk_dicT {K : PySem.W.Frag} {os : OS} {kt : KT κ} {r : Rp β} {xs : List (κ × β)} {p : Addr} (i : Nat) {f : Bool} (h : os[i]? = some ⟨p, cDicT kt r xs, f⟩ := by rfl) : Pk K os (some (VP.ptr p)) (some (VP.at false (rDicT kt r) xs)) := .rd i f h fun o S ⟨vs, e, q⟩ hy hg => ⟨p, vs, rfl, by subst e; exact hy, q.mono hg⟩
section dicts
variable [DecidableEq κ] {kt : KT κ} {r : Rp β}
theorem hx_dgetT {m : SM ς (List (κ × β))} {mk : SM ς κ} (o : Ok X C kn) (ha : HX X C a as O m (VP.at w (rDicT kt r))) (hb : HX X C b as O mk (VP.at w2 (rTupX kt.t))) (hs : NoSl b := by exact fun _ _ => rfl) : HX X C (.Subscript a b pos) as O (SM.bnd2 (fun d k => R.ofO (dget d k)) m mk) (VP.at w r) := ⟨pe_weak (pe_dget o.hu ha.pe hb.pe hs) fun σ H Q h => by
  obtain ⟨s, S, st, sl, ow, q⟩ := hg_two ha hb h
  refine ⟨s, S, st, sl, ow, R.post_mono q (fun z k u v S1 H1 l1 st1 ow1 p1 => ?_) fun _ z => xq_le z⟩
  obtain ⟨s', S', st', sl', ow', q'⟩ := k u v S1 H1 l1 st1 ow1 p1
  refine ⟨s', S', st', sl', ow', R.post_mono q' (fun z k u v S1 H1 l1 st1 ow1 p1 => ?_) fun _ z => xq_le z⟩
  obtain ⟨x, y, S2, os, st2, ow2, ⟨p, kvs, e1, hp, hA⟩, ⟨pk, vs, e2, hk, hrep⟩, q2⟩ := k u v S1 H1 l1 st1 ow1 p1
  obtain ⟨z, hz, q2⟩ := q2.ofO1
  obtain ⟨v', hv, hr⟩ := hA.get kt.inj hz
  have e3 := kt.law hrep
  subst e3; subst e2
  refine ⟨p, v', e1, ?_, q2.imm st2 ow2 hr⟩
  rw [← hv]
  exact .t (st2.atH w _ _ hp) (st2.atH w2 _ _ hk)⟩
theorem hb_putDT {m : SM ς β} {mi : SM ς κ} {q0 : Addr} {fl : Bool} {x : Str} {ie : Expr} {p2 : Pos} {kf : ς → R α} (o : Ok X C kn) (i j : Nat) (sel : ς → List (κ × β)) (put : ς → List (κ × β) → ς) (he : HX X C e as O m (VP.at true r)) (hie : HX X C ie as O mi (VP.at w (rTupX kt.t))) (s : ς) (hr : ∀ s, HB X C rst as (O s) (kf s) ι N T)
    (h : as[i]? = some (some (VP.ptr q0)) := by rfl) (hO : ∀ s, (O s)[j]? = some ⟨q0, cDicT kt r (sel s), fl⟩ := by intro _; rfl) (hput : ∀ s d, (O s).set j ⟨q0, cDicT kt r d, fl⟩ = O (put s d) := by intro _ _; rfl)
    (hN : X.N[i]? = some x := by rfl) (hvis : Vis X.env.scope x := by first | exact Or.inl rfl | exact Or.inr (Or.inl rfl) | exact Or.inr (Or.inr rfl)) (hd : (x == ("__debug__" : Str)) = false := by decide) (hcd : (x == ("__classdict__" : Str)) = false := by decide)
    (hs : swapsWith e (some (.Subscript (.Name x px) ie p2)) pos.line X.env = pure false := by rfl) :
    HB X C (.Assign [.Subscript (.Name x px) ie p2] e pos :: rst) as (O s) ((m s).bind fun z => (mi z.2).bind fun y => (dputR (sel y.2) y.1 z.1).bind fun l => kf (put y.2 l)) ι N T :=
  ⟨pss_weak (pss_cons (ps_dput o.hu (pe_var hN hvis hd hcd) hie.pe he.pe hs) (pss_ex fun s => (hr s).pss)) fun D σ H ⟨L, S, lL, st, sl, ow, q⟩ =>
    ⟨s, S, st, sl, ow, R.post_mono (R.post_bind.mp q) (fun z k _ v S1 H1 l1 st1 ow1 pv => by
      obtain ⟨u, g1, g2⟩ := sl.2 i _ h
      have g2 : u = .ref q0 := g2
      subst g2
      refine ⟨.ref q0, g1, z.2, S1, st1, sl.mono l1, ow1, R.post_mono (R.post_bind.mp k) (fun y k2 _ u S2 H2 l2 st2 ow2 pu => ?_) fun _ z => xq_le z⟩
      obtain ⟨pk, vs, e2, hk, hrep⟩ := pu
      have e3 := kt.law hrep
      subst e3; subst e2
      obtain ⟨h1, ⟨o', ho', vs', eo', hA⟩, _, h3⟩ := ow2.get (hO y.2)
      subst eo'
      have k2 := R.post_bind.mp k2
      obtain ⟨hz, k2⟩ := R.guard_post.mp (R.post_bind.mp k2)
      have st3 : StOk C.B S2 (upd H2 q0 (.dT (putK vs' (kt.k y.1) v))) := st2.put h1 h3
      have ow3 := ow2.put (c := cDicT kt r (dput (sel y.2) y.1 z.1)) (hO y.2) ⟨_, rfl, hA.put kt.inj (k := y.1) (r.mono l2.g pv)⟩
      have ow3 : OwL C.B S2 _ ((O y.2).set j ⟨q0, cDicT kt r (dput (sel y.2) y.1 z.1), fl⟩) := ow3
      rw [hput] at ow3
      exact ⟨q0, _, rfl, .t ho' (st2.atH w _ _ hk) (by rw [← hA.length, sizeLine_eq]; exact hz), _, L, S2, (lL.trans l1).trans l2, st3, (sl.mono l1).mono l2, ow3, k2⟩) fun _ z => xq_le z⟩⟩
end dicts
/-- an empty dict for tuple keys: its first pair makes it one -/
theorem hx_dclear [DecidableEq κ] {kk : KK κ} {r : Rp β} {x : Str} {q0 : Addr} {fl : Bool} (i j : Nat) (sel : ς → List (κ × β)) (put : ς → List (κ × β) → ς) (h : as[i]? = some (some (VP.ptr q0)) := by rfl) (hO : ∀ s, (O s)[j]? = some ⟨q0, cDic kk r (sel s), fl⟩ := by intro _; rfl) (hput : ∀ s d, (O s).set j ⟨q0, cDic kk r d, fl⟩ = O (put s d) := by intro _ _; rfl)
    (hN : X.N[i]? = some x := by rfl) (hvis : Vis X.env.scope x := by first | exact Or.inl rfl | exact Or.inr (Or.inl rfl) | exact Or.inr (Or.inr rfl)) (hd : (x == ("__debug__" : Str)) = false := by decide) (hcd : (x == ("__classdict__" : Str)) = false := by decide)
    (hbase : attributeBase (.Name x px) "clear" X.env (eval (.Name x px) X.env) = eval (.Name x px) X.env := by rfl) (hline : (apos.endLine == pos.line) = true := by rfl) :
    HX X C (.Call (.Attribute (.Name x px) "clear" apos) [] [] pos) as O (fun s => .ok ((), put s [])) (VP.at true rNon) :=
  ⟨pe_weak (pe_dclear (pe_var hN hvis hd hcd) hbase hline) fun σ H Q ⟨s, S, st, sl, ow, q⟩ => by
    obtain ⟨v, h1, h2⟩ := sl.2 i _ h
    have h2 : v = .ref q0 := h2
    subst h2
    obtain ⟨_, ⟨o, ho, vs0, eo, hA⟩, _⟩ := ow.get (hO s)
    subst eo
    refine ⟨.ref q0, h1, .inr (.inr (.inl ⟨rfl, .inl ⟨_, ho⟩⟩)), q0, vs0, rfl, rfl, ho, ?_⟩
    obtain ⟨st2, ow2⟩ := mutD_fin (ws := []) (ys := []) st ow (hO s) trivial
    rw [hput] at ow2
    exact q () .non S _ (.refl S) st2 ow2 rfl⟩

/-! ### a single statement -/
structure HS (X : Cx) (C : Cf) (st : Stmt) (as : SA) (os : OS) (m : R α) (ι : α → Oc μ ρ) (N : Sv → μ → L2.St → Hp → Prop) (T : ρ → V → Hp → Prop) : Prop where
  ps : PS X st (tB C as os m ι N T)
theorem hb_seq {μ' : Type} {st : Stmt} {m : R (Oc μ' ρ)} {as1 : μ' → SA} {os1 : μ' → OS} {k : μ' → R α} {kr : ρ → α} (h : HS X C st as os m id (NS C as1 os1) T) (hr : ∀ l, HB X C rst (as1 l) (os1 l) (k l) ι N T) (hk : ∀ r, ι (kr r) = .rt r) :
    HB X C (st :: rst) as os (m.bind fun o => match o with | .nx l => k l | .rt r => .ok (kr r)) ι N T :=
  ⟨pss_weak (pss_cons h.ps (pss_ex fun l => (hr l).pss)) fun D σ H ⟨L, S, lL, st, sl, ow, q⟩ => ⟨L, S, lL, st, sl, ow, R.post_mono (R.post_bind.mp q) (fun o k2 => by
    cases o with
    | nx l =>
      rintro σ' H' ⟨S', l', st', sl', ow'⟩
      exact ⟨l, L, S', l', st', sl', ow', k2⟩
    | rt r =>
      have k2 : goes (N L) T D (ι (kr r)) := k2
      rw [hk] at k2
      exact k2) fun _ z => z⟩⟩
theorem hb_seqN {μ' : Type} {st : Stmt} {m : R μ'} {as1 : μ' → SA} {os1 : μ' → OS} {k : μ' → R α} (h : HS X C st as os m Oc.nx (NS C as1 os1) T) (hr : ∀ l, HB X C rst (as1 l) (os1 l) (k l) ι N T) :
    HB X C (st :: rst) as os (m.bind k) ι N T :=
  ⟨pss_weak (pss_cons h.ps (pss_ex fun l => (hr l).pss)) fun D σ H ⟨L, S, lL, st, sl, ow, q⟩ => ⟨L, S, lL, st, sl, ow, R.post_mono (R.post_bind.mp q) (fun l k2 => by
      rintro σ' H' ⟨S', l', st', sl', ow'⟩
      exact ⟨l, L, S', l', st', sl', ow', k2⟩) fun _ z => z⟩⟩
/-- a for loop as a single statement -/
theorem hs_for {m : SM ς (List β)} {P : β → VP} {μ' : Type} {f : μ' → β → R (Oc μ' ρ)} {l0 : ς → μ'} {asL : μ' → SA} {osL : μ' → OS} {asT : μ' → β → SA} {ts : List Nat} (o : Ok X C kn) (hi : HI X C tg e as O m P) (s : ς)
    (h0 : ∀ s', Wk as (asL (l0 s'))) (h1 : ∀ s', O s' = osL (l0 s')) (ht : ∀ l a, HTg X C tg (asL l) (P a) ts (asT l a)) (hb : ∀ l a, HB X C body (asT l a) (osL l) (f l a) id (NS C asL osL) T)
    (hs : ∀ x, foldedSetIterable e X.env x = pure x := by intro _; rfl) :
    HS X C (.For tg e body [] pos) as (O s) ((m s).bind fun z => forR f (l0 z.2) z.1) id (NS C asL osL) T :=
  ⟨ps_weak (ps_for o.po o.calm hi.pi (pg_ex fun (la : μ' × β) => (ht la.1 la.2).pg) (pss_ex fun (la : μ' × β) => (hb la.1 la.2).pss) hs) fun D σ H ⟨L, S, lL, st, sl, ow, q⟩ => by
    refine ⟨s, S, st, sl, ow, R.post_mono (R.post_bind.mp q) (fun z k' J S0 H0 l' st' ow' it => ?_) fun _ z => xq_le z⟩
    have lL0 := lL.trans l'
    let fin : Oc μ' ρ → Prop := fun o => goes (NS C asL osL L) T D o
    refine ⟨fun i n σ1 H1 => ∃ l S1, n = z.1.length - i ∧ S0.le S1 ∧ StOk C.B S1 H1 ∧ Sl S1 σ1 (asL l) ∧ OwL C.B S1 H1 (osL l) ∧ (forR f l (z.1.drop i)).post fin (C.xq L),
      ⟨z.1.length - 0, l0 z.2, S0, rfl, .refl _, st', (sl.mono l').wk (h0 _), by rw [← h1]; exact ow', k'⟩, ?_⟩
    rintro i n σ1 H1 ⟨l, S1, en, l1, st1, sl1, ow1, q1⟩
    by_cases hi : i < z.1.length
    · refine .inr ⟨it.go i S1 H1 l1 st1 hi, fun σ2 H2 => ∃ l S2, S0.le S2 ∧ StOk C.B S2 H2 ∧ Sl S2 σ2 (asL l) ∧ OwL C.B S2 H2 (osL l) ∧ (forR f l (z.1.drop (i + 1))).post fin (C.xq L), ?_, ?_⟩
      · rintro σ2 H2 ⟨l, S2, l2, st2, sl2, ow2, q2⟩
        exact ⟨n - 1, by omega, l, S2, by omega, l2, st2, sl2, ow2, q2⟩
      · intro x H2 hy
        obtain ⟨S2, l2, st2, ow2, p2⟩ := it.yld i z.1[i] S1 H1 x H2 l1 st1 (List.getElem?_eq_getElem hi) hy
        refine ⟨(l, z.1[i]), S2, st2, sl1.mono l2, p2, fun σ3 sl3 _ _ => ⟨(l, z.1[i]), S0, S2, l1.trans l2, st2, sl3, ow2 _ ow1, ?_⟩⟩
        rw [List.drop_eq_getElem_cons hi] at q1
        refine R.post_mono (R.post_bind.mp q1) (fun o3 q3 => ?_) fun _ z => xq_le z
        cases o3 with
        | nx l3 =>
          rintro σ4 H4 ⟨S4, l4, st4, sl4, ow4⟩
          exact ⟨l3, S4, l4, st4, sl4, ow4, q3⟩
        | rt r => exact q3
    · rw [List.drop_eq_nil_of_le (by omega)] at q1
      have q1 : goes (NS C asL osL L) T D (.nx l) := q1
      exact .inl ⟨it.stop i S1 H1 l1 st1 (by omega), q1 σ1 H1 ⟨S1, lL0.trans l1, st1, sl1, ow1⟩⟩⟩

/-! ### a statement under which owned things are only read -/
/-- a pointer whose object is read -/
def VP.bo (p : Addr) (Q : VP) : VP := ⟨fun v S => v = .ref p ∧ Q.p v S, fun l h => ⟨h.1, Q.mono l h.2⟩⟩
theorem hx_bo {r : Rp α} {z : α} {q0 : Addr} (i : Nat) {x : Str} (h : as[i]? = some (some (VP.bo q0 (VP.at w r z))) := by rfl) (hN : X.N[i]? = some x := by rfl) (hv : Vis X.env.scope x := by first | exact Or.inl rfl | exact Or.inr (Or.inl rfl) | exact Or.inr (Or.inr rfl))
    (hd : (x == ("__debug__" : Str)) = false := by decide) (hcd : (x == ("__classdict__" : Str)) = false := by decide) : HX X C (.Name x pos) as O (SM.ret z) (VP.at w r) := ⟨pe_weak (pe_var hN hv hd hcd) fun σ H Q ⟨s, S, st, sl, ow, q⟩ => by
  obtain ⟨v, h1, _, h2⟩ := sl.2 i _ h
  exact ⟨v, h1, q () v S H (.refl S) st ow h2⟩⟩
theorem pb_lst {K : PySem.W.Frag} {os : OS} {r : Rp β} {xs : List β} {p : Addr} (i : Nat) {f : Bool} (h : os[i]? = some ⟨p, cLst r xs, f⟩ := by rfl) : Pk K os (some (VP.ptr p)) (some (VP.bo p (VP.at false (rLst K r) xs))) := .rd i f h fun o S ⟨vs, e, q⟩ hy hg => ⟨rfl, p, vs, rfl, by subst e; exact SqL.of hy, q.mono hg⟩
theorem pb_dic {K : PySem.W.Frag} {os : OS} {k : KK κ} {r : Rp β} {xs : List (κ × β)} {p : Addr} (i : Nat) {f : Bool} (h : os[i]? = some ⟨p, cDic k r xs, f⟩ := by rfl) : Pk K os (some (VP.ptr p)) (some (VP.bo p (VP.at false (rDic k r) xs))) := .rd i f h fun o S ⟨vs, e, q⟩ hy hg => ⟨rfl, p, vs, rfl, by subst e; exact hy, q.mono hg⟩
theorem pb_dicT {K : PySem.W.Frag} {os : OS} {kt : KT κ} {r : Rp β} {xs : List (κ × β)} {p : Addr} (i : Nat) {f : Bool} (h : os[i]? = some ⟨p, cDicT kt r xs, f⟩ := by rfl) : Pk K os (some (VP.ptr p)) (some (VP.bo p (VP.at false (rDicT kt r) xs))) := .rd i f h fun o S ⟨vs, e, q⟩ hy hg => ⟨rfl, p, vs, rfl, by subst e; exact hy, q.mono hg⟩
/-- .. within a tuple -/
def PkL (os : OS) (Ps Qs : List VP) : Prop := ∀ (B : Bs) (S : Sv) (H : Hp) (vs : List V), StOk B S H → OwL B S H os → AV S vs Ps → AV (S.lend H []) vs Qs
theorem pkl_nil {os : OS} : PkL os [] [] := fun B S H vs st ow h => match vs, h with
  | [], _ => trivial
theorem pkl_same {os : OS} {P : VP} {Ps Qs : List VP} (hs : PkL os Ps Qs) : PkL os (P :: Ps) (P :: Qs) := fun B S H vs st ow h => match vs, h with
  | v :: vs, h => ⟨P.mono (lend_le st fun _ m => by cases m) h.1, hs B S H vs st ow h.2⟩
theorem pkl_rd {K : PySem.W.Frag} {os : OS} {q : Addr} {Q : VP} {Ps Qs : List VP} (h : Pk K os (some (VP.ptr q)) (some Q)) (hs : PkL os Ps Qs) : PkL os (VP.ptr q :: Ps) (Q :: Qs) := fun B S H vs st ow hv => match vs, hv with
  | v :: vs, hv => by
    have sl : Sl S [some v] [some (VP.ptr q)] := ⟨Nat.le_refl _, fun i P e => by
      cases i with
      | zero =>
        have e : VP.ptr q = P := by simpa using e
        subst e
        exact ⟨v, rfl, hv.1⟩
      | succ i => simp at e⟩
    obtain ⟨v', h1, h2⟩ := (pks_sl (K := K) (as := [some (VP.ptr q)]) (bs := [some Q]) st ow ⟨h, trivial⟩ sl).2 0 Q rfl
    have e : v = v' := by simpa using h1
    subst e
    exact ⟨h2, hs B S H vs st ow hv.2⟩
theorem pk_tup {K K' : PySem.W.Frag} {os : OS} {Ps Qs : List VP} (h : PkL os Ps Qs) : Pk K' os (some (VP.tup K Ps)) (some (VP.tup K Qs)) := .mp fun B S H v st ow ⟨p, vs, e, h1, h2⟩ => ⟨p, vs, e, h1, h B S H vs st ow h2⟩
/-- back from the reading -/
inductive Bk1 : Option VP → Option VP → Prop where
  | no {va : Option VP} : Bk1 va none
  | go {PP : VP} (h : PGo PP) : Bk1 (some PP) (some PP)
  | bo {ad : Addr} {QQ : VP} : Bk1 (some (VP.bo ad QQ)) (some (VP.ptr ad))
def Bks : SA → SA → Prop
  | _, [] => True
  | a :: as, b :: bs => Bk1 a b ∧ Bks as bs
  | [], _ :: _ => False
theorem Bks.len : ∀ {as bs : SA}, Bks as bs → bs.length ≤ as.length
  | _, [], _ => Nat.zero_le _
  | _ :: _, _ :: _, h => Nat.succ_le_succ (Bks.len h.2)
  | [], _ :: _, h => h.elim
theorem Bks.at : ∀ {as bs : SA} {i : Nat} {Q : VP}, Bks as bs → bs[i]? = some (some Q) → ∃ a, as[i]? = some a ∧ Bk1 a (some Q)
  | _, [], _, _, _, h => by simp at h
  | a :: _, b :: _, 0, Q, h, e => by
    have e' : b = some Q := Option.some.inj e
    exact ⟨a, rfl, by rw [← e']; exact h.1⟩
  | _ :: as, _ :: bs, i + 1, Q, h, e => Bks.at (i := i) h.2 e
  | [], _ :: _, _, _, h, _ => h.elim
theorem bks_sl {S S1 : Sv} {as bs : SA} {σ : L2.St} (h : Bks as bs) (sl : Sl S1 σ as) : Sl (S.back S1) σ bs := by
  refine ⟨Nat.le_trans h.len sl.1, fun i Q e => ?_⟩
  obtain ⟨a, ha, k⟩ := h.at e
  cases k with
  | go hg =>
    obtain ⟨v, h1, h2⟩ := sl.2 i Q ha
    exact ⟨v, h1, hg v S1 _ rfl h2⟩
  | bo =>
    obtain ⟨v, h1, h2⟩ := sl.2 i _ ha
    exact ⟨v, h1, h2.1⟩
/-- what such a statement may hand back -/
def TV {ρ : Type} (B : Bs) (PR : ρ → VP) : ρ → V → Hp → Prop := fun r v H => ∃ S, StOk B S H ∧ (PR r).p v S
theorem hs_pk {st : Stmt} {μ' : Type} {m : R (Oc μ' ρ)} {PR : ρ → VP} {as' : SA} {as1 as2 : μ' → SA} (hk : Pks X.K os as as')
    (h : ∀ B, HS X (C.pk B) st as' [] m id (NS (C.pk B) as1 fun _ => []) (TV B PR)) (hb : ∀ l, Bks (as1 l) (as2 l)) (hP : ∀ r, PGo (PR r)) (hT : ∀ r v S H, StOk C.B S H → OwL C.B S H os → (PR r).p v S → T r v H) :
    HS X C st as os m.calm id (NS C as2 fun _ => os) T := by
  refine ⟨⟨fun pins s σ H D I ⟨L, S, lL, st, sl, ow, q⟩ => ?_⟩⟩
  refine (h (Bs.sub S.g H [])).ps.run pins s σ H D I ⟨S.lend H [], S.lend H [], .refl _, lend_ok st (fun _ m => by cases m), pks_sl st ow hk sl, trivial, R.calm_post (R.post_mono q (fun o k => ?_) fun _ z => z) _⟩
  have bk : ∀ {S1 : Sv} {H1 : Hp}, StOk (Bs.sub S.g H []) S1 H1 → StOk C.B (S.back S1) H1 ∧ OwL C.B (S.back S1) H1 os ∧ L.le (S.back S1) := fun {S1 H1} st1 => ⟨back_ok st st1 (fun _ m => by cases m) (fun _ m => by cases m), back_ow st st1 ow (fun _ _ m => by cases m), lL.trans (back_le st1)⟩
  cases o with
  | nx l =>
    rintro σ' H' ⟨S1, _, st1, sl1, _⟩
    obtain ⟨b1, b2, b3⟩ := bk st1
    exact k σ' H' ⟨S.back S1, b3, b1, bks_sl (hb l) sl1, b2⟩
  | rt r =>
    rintro v H' ⟨S1, st1, pv⟩
    obtain ⟨b1, b2, b3⟩ := bk st1
    exact k v H' (hT r v _ H' b1 b2 (hP r v S1 _ rfl pv))

/-! ### raise -/
theorem hb_raise {m : Str} {x : Str} {j : Nat} {p p2 cpos pos : Pos} {Ca : Addr} {bmB : List Value} {Bn newId initId : String} {ε : Er} (o : Ok X C kn) (F : ExcBaseFacts Bn newId initId bmB) (q : PySem.W.excIn X.K Ca bmB newId = true) (gC : X.mg x = some (.ref Ca)) (kC : PySem.W.keepIn X.K (.ref Ca) = true) (r : Raises X (.ref Ca))
    (hw : Wk as C.ax) (ho : ∀ S H, OwL C.B S H os → OwL C.B S H C.ox) (hx : ∀ S H, StOk C.B S H → C.xr ε (.ref Ca) none S.g H) (hg : Gl X x := by rfl) (hdb : (x == ("__debug__" : Str)) = false := by decide) :
    HB X C (.Raise (some (.Call (.Name x p) [.Constant (.str m) j p2] [] cpos)) none pos :: rst) as os (.ex ε) ι N T :=
  ⟨pss_weak (pss_cons (ps_raise o.calm o.tk (pmk_own F q gC kC r hg hdb)) pss_never) fun D σ H ⟨L, S, lL, st, sl, ow, z⟩ => by
    have z : C.xq L ε := z
    exact z _ _ S H σ lL st (sl.wk hw) (ho S H ow) (hx S H st)⟩
/-- a call that may raise -/
theorem hg_callX {xr : Er → Value → Option Addr → Hp → Hp → Prop} {Ps : τ → List VP} {m : τ → R ρ} {Bv : ρ → π → VP} {nw : ρ → π → OS} {f : Addr} {fd : FuncData} {ps : List Str} {x : Str} {ma : SM ς τ} (F : FnOk X.prog X.w X.K X.mg X.base (L2.CX X.prog X.w) k f fd ps (spF (π0 := Unit) xr (fun x _ => Ps x) (fun _ _ => []) m Bv (fun _ _ => []) nw)) (o : Ok X C kn) (hkn : k ≤ kn)
    (hm : X.mg x = some (.ref f)) (hk : PySem.W.keepIn X.K (.ref f) = true) (hb : Binds X.K fd ps []) (ha : HA X C (e :: es) as O ma Ps) (hB : ∀ r q, PGo (Bv r q)) (hf : ∀ r q, AllF (nw r q))
    (hw : Wk as C.ax) (ho : ∀ s S H, OwL C.B S H (O s) → OwL C.B S H C.ox) (hx : ∀ ε cls d G H, xr ε cls d G H → C.xr ε cls d G H) (hg : Gl X x := by rfl)
    (hdb : (x == ("__debug__" : Str)) = false := by decide) (he : starEach (e :: es) X.env = (false, eval e X.env) :: starEach es X.env := by rfl) (hpl : (backTo pos (starEach es X.env)).any (·.1) = false := by rfl) :
    HG X C (.Call (.Name x p) (e :: es) [] pos) as O (SM.bnd1 m ma) Bv nw :=
  ⟨pe_weak (pe_callSD F (o.room.mono hkn) hg hm hk hb .nil (fun σ => passAt o.tk σ) ha.pa hdb he hpl) fun σ H Q ⟨s, S, st, sl, ow, q⟩ =>
  ⟨s, S, st, sl, ow, R.post_mono (R.post_bind.mp q) (fun z k vs S1 H1 l1 st1 ow1 pv => by
    show spF _ _ _ _ _ _ _ (vs ++ []) H1 Q _
    rw [List.append_nil]
    have k := R.post_bind.mp k
    refine ⟨z.1, (), S1.g, st1.gy.trans st1.yh, (fun _ m => by cases m), ?_, trivial, R.post_mono k (fun r k2 q v S2 H2 st2 ow2 p2 => ?_) fun ε kx cls d S2 H2 st2 ow2 hxr => ?_⟩
    · show AV ⟨S1.g, hide H1 []⟩ vs (Ps z.1)
      refine AV.mono (S := S1) (S' := ⟨S1.g, hide H1 []⟩) ⟨Ex.refl _, ?_⟩ pv
      show Ex S1.y (hide H1 [])
      rw [hide_nil]; exact st1.yh
    · have ow2 : OwL (Bs.sub S1.g H1 []) S2 H2 (nw r q ++ []) := ow2
      rw [List.append_nil] at ow2
      exact k2 q v (S1.back S2) H2 (l1.trans (back_le st2)) (back_ok st1 st2 (fun _ m => by cases m) (fun _ m => by cases m)) (call_new st1 st2 (hf r q) ow2 ow1 (back_ow st1 st2 ow1 fun _ _ m => by cases m)) (hB r q v S2 _ rfl p2)
    · have kx : C.xq S ε := kx
      exact kx cls d (S1.back S2) H2 σ (l1.trans (back_le st2)) (back_ok st1 st2 (fun _ m => by cases m) (fun _ m => by cases m)) (((sl.mono l1).mono (back_le st2)).wk hw) (ho z.2 _ _ (back_ow st1 st2 ow1 fun _ _ m => by cases m)) (hx ε cls d _ _ hxr)) fun _ z => xq_le z⟩⟩

/-! ### try: .. except X: .. -/
def tryR {μ' : Type} (m : R (Oc μ' ρ)) (pr : Er → Bool) (h : Er → R (Oc μ' ρ)) : R (Oc μ' ρ) := match m with
  | .no => .no
  | .ex ε => if pr ε = true then h ε else .ex ε
  | .ok o => .ok o
/-- a try's body's place -/
abbrev Cf.tr (C : Cf) (W : WX) (as : SA) (os : OS) (xr : Er → Value → Option Addr → Hp → Hp → Prop) : Cf := ⟨C.B, W, as, os, xr⟩
theorem Ok.tr (o : Ok X C kn) {W : WX} {pn : List (Addr × Obj)} {xe : Value → Shared → Prop} {xr : Er → Value → Option Addr → Hp → Hp → Prop} (t : Takes (X.tr pn xe) W) (p : PassesOwn (model X.prog X.w) X.A X.env xe) : Ok (X.tr pn xe) (C.tr W as os xr) kn := ⟨o.calm, o.nd, o.room, t, p⟩
theorem hs_try {x : Str} {cv : Value} {suite : List Stmt} {b₀ : Stmt} {np hpos : Pos} {μ' : Type} {mb : R (Oc μ' ρ)} {pr : Er → Bool} {mh : Er → R (Oc μ' ρ)} {as1 : μ' → SA} {os1 : μ' → OS} {xr : Er → Value → Option Addr → Hp → Hp → Prop} (o : Ok X C kn) (hs : X.stack = X.env :: X.outer) (hf : X.env.frame = some X.env.locals) (hc : Names X x cv)
    (hx : ∀ ε cls d G H, xr ε cls d G H → PySem.W.exmOne X.K cls cv = some (pr ε) ∧ (pr ε = false → C.xr ε cls d G H)) (hw : Wk as C.ax) (ho : ∀ S H, OwL C.B S H os → OwL C.B S H C.ox)
    (hb : ∀ (W : WX) (pn : List (Addr × Obj)) (xe : Value → Shared → Prop), Takes (X.tr pn xe) W → PassesOwn (model X.prog X.w) X.A X.env xe → HB (X.tr pn xe) (C.tr W as os xr) body as os mb id (NS C as1 os1) T)
    (hsu : ∀ (ε : Er) (a : Addr) (oe : Obj) (pn : List (Addr × Obj)), HB (X.suite a ((a, oe) :: pn)) (C.blk C.B) (b₀ :: suite) as os (mh ε) id (NS C as1 os1) T) (hcalm : ∀ ε, (mh ε).calm = mh ε) :
    HS X C (.Try body [.ExceptHandler (some (.Name x np)) none (b₀ :: suite) hpos] [] [] pos) as os (tryR mb pr mh) id (NS C as1 os1) T :=
  ⟨ps_weak (ps_try_only (tb := fun W => tB (C.tr W as os xr) as os mb id (NS C as1 os1) T) (ts := fun a cls d D σ H => ∃ ε, tB (C.blk C.B) as os (mh ε) id (NS C as1 os1) T D σ H) hs hf hc o.tk (fun W pn xe t p => (hb W pn xe t p).pss) fun a oe cls d pn _ _ => pss_ex fun ε => (hsu ε a oe pn).pss) fun D σ H ⟨L, S, lL, st, sl, ow, q⟩ => by
    refine ⟨L, S, lL, st, sl, ow, ?_⟩
    unfold tryR at q
    cases mb with
    | no => exact q
    | ok a => exact q
    | ex ε =>
      show (C.tr (wOnly X.K cv _ C.W D) as os xr).xq L ε
      intro cls d S2 H2 σ2 l2 st2 sl2 ow2 hxr
      obtain ⟨h1, h2⟩ := hx ε cls d _ _ hxr
      refine ⟨pr ε, h1, fun e1 a ha => ?_, fun e1 => ?_⟩
      · have q : (if pr ε = true then mh ε else .ex ε).post (fun a => goes (NS C as1 os1 L) T D (id a)) (C.xq L) := q
        rw [if_pos e1] at q
        refine ⟨ε, L, S2, l2, st2, sl2, ow2, ?_⟩
        rw [← hcalm] at q ⊢
        exact R.calm_post (R.post_mono (by
          cases h : mh ε with
          | no => rw [h] at q; exact q.elim
          | ex e => rw [h] at q; exact q.elim
          | ok a => rw [h] at q; exact q) (fun _ z => z) fun _ z => z) _
      · have q : (if pr ε = true then mh ε else .ex ε).post (fun a => goes (NS C as1 os1 L) T D (id a)) (C.xq L) := q
        rw [if_neg (by rw [e1]; decide)] at q
        have q : C.xq L ε := q
        exact q cls d S2 H2 σ2 l2 st2 (sl2.wk hw) (ho _ _ ow2) (h2 e1)⟩
end
end Y

/-! Y: list + list; small things. -/
namespace Y
open PySem PySem.Spec PyProof.Rows L2
section
variable {ς α β γ δ κ μ ρ π τ π0 : Type} {X : Cx} {C : Cf} {as : SA} {O : ς → OS} {a b c e elt tg iter : Expr} {es : List Expr} {pos p apos px : Pos} {w w1 w2 : Bool} {kn k : Nat} {rst body : List Stmt} {N : Sv → μ → L2.St → Hp → Prop} {T : ρ → V → Hp → Prop} {ι : α → Oc μ ρ} {os : OS}
def rCatL (K : PySem.W.Frag) : R2 := fun x y H Q => ∃ l b xs zs, x = .ref l ∧ y = .ref b ∧ SqL K H l xs ∧ SqL K H b zs ∧ xs.length + zs.length ≤ sizeLine ∧ ∀ p, H p = none → Q (.ref p) (upd H p (.lst (xs ++ zs)))
theorem op_catL : OpR X (binaryOp .Add) (rCatL X.K) := by
  intro pins s σ H x y v u Q I rx ry h
  obtain ⟨l, b, xs, zs, rfl, rfl, hH, hB, hz, q⟩ := h
  cases rx
  cases ry
  obtain ⟨its, r, pl, z⟩ := I.list hH
  obtain ⟨its2, r2, pl2, z2⟩ := I.list hB
  have hl := r.length
  have hl2 := r2.length
  obtain ⟨⟨cls, dd, data, sl⟩, ho, hc, n, hd⟩ := pl.isList
  obtain ⟨⟨cls2, dd2, data2, sl2⟩, ho2, hc2, n2, hd2⟩ := pl2.isList
  simp only at hc hd hc2 hd2
  subst hc hd hc2 hd2
  have ea : its.toArray ++ its2.toArray = (its ++ its2).toArray := by simp
  refine concat_meets ⟨_, ho, rfl⟩ ⟨_, ho2, rfl⟩ noFill_list_add seq_list_add PySem.F.slot_list_add PySem.F.entry_list_add (PySem.F.args_list_add_2 _ _) (list_addW l b its.toArray its2.toArray n n2 dd dd2 sl sl2 (by rw [List.size_toArray, List.size_toArray]; omega)) ⟨ho, ho2, ?_⟩
  rw [ea]
  exact ⟨.ref _, _, I.lnew (t' := s.toks) (r.append r2) (by rw [List.length_append]; omega), rfl, q _ I.fresh⟩
def catL (xs ys : List δ) : R (List δ) := (R.guard (xs.length + ys.length ≤ 16777216)).bind fun _ => .ok (xs ++ ys)
theorem hn_catL {rp : Rp δ} {m1 m2 : SM ς (List δ)} (ha : HX X C a as O m1 (VP.at true (rLst X.K rp))) (hb : HX X C b as O m2 (VP.at true (rLst X.K rp))) : HN X C (.BinOp a .Add b pos) as O (SM.bnd2 catL m1 m2) (cLst rp) := hg_op op_catL (fun x y v u S H os Q st ow h1 h2 q => by
  obtain ⟨hc, q⟩ := q.guard
  obtain ⟨p1, vs, e1, q1, a1⟩ := h1
  obtain ⟨p2, us, e2, q2, a2⟩ := h2
  exact ⟨p1, p2, vs, us, e1, e2, (st.atH true).seq q1, (st.atH true).seq q2, by rw [sizeLine_eq, ← a1.length, ← a2.length]; exact hc, fun p hp => q.newO st ow hp ⟨_, rfl, A2.append a1 a2⟩⟩) ha hb
/-- the result of a call, frozen -/
theorem HG.frzP {m : SM ς α} {P : α → Addr → VP} {c : α → Ct} {P' : α → VP} (h : HG (π := Addr) X C e as O m P fun a p => [⟨p, c a, true⟩]) (hP : ∀ a q v S, (P a q).p v S → v = .ref q) (hc : ∀ a p o S, (c a).c o S.g → S.g p = some o → (P' a).p (.ref p) S) : HX X C e as O m P' := HG.frz (c := c) ⟨pe_weak h.pe fun σ H Q ⟨s, S, st, sl, ow, q⟩ =>
  ⟨s, S, st, sl, ow, R.post_mono q (fun z k p v S' H' l' st' ow' pv => k p v S' H' l' st' ow' (hP _ _ _ _ pv)) fun _ z => z⟩⟩ hc
end
end Y

/-! Y: defs by names. -/
namespace Y
open PySem PySem.Spec PyProof.Rows L2
section
variable {P : Program} {w : World} {K : PySem.W.Frag} {mg : Str → Option Value} {base : Heap}
theorem okXD {x qual : Str} {params : Arguments} {body : List Stmt} {scope : Scope} {dvs : List V} {kws : List (Str × V)} {f : Addr} {fd : FuncData} {N ps : List Str} {k : Nat} {sp : Sp} (F : FunD K x qual params body scope dvs kws f fd) (S : FnScope N ps scope) (len : ∀ vs H Q E, sp vs H Q E → vs.length = ps.length)
    (hbody : ∀ (cdv : Value) (A : Around) (outer : List Env) (s : Shared) (H : Hp) (vs : List V) (Q : VK) (E : XK), Room k (A.deeper (envOfC qual scope s.heap.objs.size f cdv)) → sp vs H Q E →
      ∃ t, PSs (cxOf (L2.CX P w) P w K mg base N qual scope f cdv A outer s H E) body t ∧ t { nx := fun _ H' => Q .non H', rt := Q } (start N vs) H) : FnOk P w K mg base (L2.CX P w) (k + 1) f fd ps sp := by
  obtain ⟨oc, od, dV, kV, doc, pm, an, cdv, ct, osl, rfl, lk, hcd, _, _⟩ := F.ex
  exact fn_of lk hcd S len fun A outer s H vs Q E hr hsp => hbody cdv A outer s H vs Q E hr hsp
/-- where a body begins -/
theorem st0_ok {G H : Hp} {os : OS} (hG : Ex G H) (hn : ∀ e ∈ os, G e.p = none) : StOk (Bs.sub G H (os.map (·.p))) ⟨G, hide H (os.map (·.p))⟩ H := {
    gy := fun a u e => by
      have e : G a = some u := e
      show hide H _ a = some u
      rw [hide_out fun m => by
        obtain ⟨e', m1, m2⟩ := List.mem_map.mp m
        have z := hn e' m1
        rw [m2] at z
        rw [z] at e; cases e]
      exact hG a u e
    yh := hide_ex
    g0 := Ex.refl _
    b0 := fun a u e n => by
      show hide H _ a = some u
      rw [hide_out n]; exact e
    fr := fun _ h _ => h
    tr := fun _ h => h
    kp := fun _ _ h => by cases h }
/-- a def of the text that hands back at every way -/
theorem fd_ok {τ ρ π0 π : Type} {x qual : Str} {params : Arguments} {body : List Stmt} {scope : Scope} {dvs : List V} {kws : List (Str × V)} {f : Addr} {fd : FuncData} {N ps : List Str} {k : Nat} {xr : Er → Value → Option Addr → Hp → Hp → Prop} {Ps : τ → π0 → List VP} {os0 : τ → π0 → OS} {m : τ → R ρ} {Bv : ρ → π → VP} {os1 : ρ → π0 → OS} {nw : ρ → π → OS} (F : FunD K x qual params body scope dvs kws f fd) (Sc : FnScope N ps scope)
    (n : Nat) (hlen : ∀ x q0, (Ps x q0).length = ps.length) (hN : n + ps.length = N.length)
    (hb : ∀ (cdv : Value) (A : Around) (outer : List Env) (s : Shared) (H : Hp) (E : XK) (B : Bs) (x : τ) (q0 : π0), Ok (cxOf (L2.CX P w) P w K mg base N qual scope f cdv A outer s H E) (Cf.fn B E (os0 x q0) xr) k →
      HB (μ := Unit) (cxOf (L2.CX P w) P w K mg base N qual scope f cdv A outer s H E) (Cf.fn B E (os0 x q0) xr) body (asP (Ps x q0) n) (os0 x q0) (m x) Oc.rt NF (TF B Bv os1 nw q0)) :
    FnOk P w K mg base (L2.CX P w) (k + 1) f fd ps (spF xr Ps os0 m Bv os1 nw) := by
  refine okXD F Sc (fun vs H Q E ⟨x, q0, G, _, _, h, _⟩ => by rw [h.length, hlen]) fun cdv A outer s H vs Q E hr ⟨x, q0, G, hG, hn, hv, how, h⟩ => ?_
  have o : Ok (cxOf (L2.CX P w) P w K mg base N qual scope f cdv A outer s H E) (Cf.fn (Bs.sub G H ((os0 x q0).map (·.p))) E (os0 x q0) xr) k := ⟨rfl, Sc.nd, hr, takes_of rfl rfl rfl rfl, passes_of rfl⟩
  refine ⟨_, (hb cdv A outer s H E _ x q0 o).pss, ?_⟩
  refine ⟨_, _, .refl _, st0_ok hG hn, start_sl hv (by rw [hlen, hN]; exact Nat.le_refl _), how, R.post_mono h (fun r k v H' ⟨q, S', st', ow', pv⟩ => k q v S' H' st' ow' pv) fun ε k cls d S' H' σ _ st' _ ow' hx => k cls d S' H' st' ow' hx⟩
/-- .. that hands back None at its end -/
theorem fd_okN {τ ρ π0 : Type} {x qual : Str} {params : Arguments} {body : List Stmt} {scope : Scope} {dvs : List V} {kws : List (Str × V)} {f : Addr} {fd : FuncData} {N ps : List Str} {k : Nat} {xr : Er → Value → Option Addr → Hp → Hp → Prop} {Ps : τ → π0 → List VP} {os0 : τ → π0 → OS} {m : τ → R ρ} {os1 : ρ → π0 → OS} (F : FunD K x qual params body scope dvs kws f fd) (Sc : FnScope N ps scope)
    (n : Nat) (hlen : ∀ x q0, (Ps x q0).length = ps.length) (hN : n + ps.length = N.length)
    (hb : ∀ (cdv : Value) (A : Around) (outer : List Env) (s : Shared) (H : Hp) (E : XK) (B : Bs) (x : τ) (q0 : π0), Ok (cxOf (L2.CX P w) P w K mg base N qual scope f cdv A outer s H E) (Cf.fn B E (os0 x q0) xr) k →
      HB (ρ := Unit) (cxOf (L2.CX P w) P w K mg base N qual scope f cdv A outer s H E) (Cf.fn B E (os0 x q0) xr) body (asP (Ps x q0) n) (os0 x q0) (m x) Oc.nx (NS (Cf.fn B E (os0 x q0) xr) (fun _ => []) fun r => os1 r q0) (fun _ _ _ => False)) :
    FnOk P w K mg base (L2.CX P w) (k + 1) f fd ps (spF (π := Unit) xr Ps os0 m (fun _ _ => VP.at true rNon ()) os1 fun _ _ => []) := by
  refine okXD F Sc (fun vs H Q E ⟨x, q0, G, _, _, h, _⟩ => by rw [h.length, hlen]) fun cdv A outer s H vs Q E hr ⟨x, q0, G, hG, hn, hv, how, h⟩ => ?_
  have o : Ok (cxOf (L2.CX P w) P w K mg base N qual scope f cdv A outer s H E) (Cf.fn (Bs.sub G H ((os0 x q0).map (·.p))) E (os0 x q0) xr) k := ⟨rfl, Sc.nd, hr, takes_of rfl rfl rfl rfl, passes_of rfl⟩
  refine ⟨_, (hb cdv A outer s H E _ x q0 o).pss, ?_⟩
  refine ⟨_, _, .refl _, st0_ok hG hn, start_sl hv (by rw [hlen, hN]; exact Nat.le_refl _), how, R.post_mono h (fun r k σ' H' ⟨S', _, st', _, ow'⟩ => k () .non S' H' st' ow' rfl) fun ε k cls d S' H' σ _ st' _ ow' hx => k cls d S' H' st' ow' hx⟩
/-- a def that is called by its name -/
structure Fk (P : Program) (w : World) (K : PySem.W.Frag) (mg : Str → Option Value) (base : Heap) (k : Nat) (x : Str) (ps : List Str) (sp : Sp) : Prop where
  ex : ∃ fd, FnOk P w K mg base (L2.CX P w) k (He.ga K x) fd ps sp ∧ Binds K fd ps []
  gl : mg x = some (.ref (He.ga K x))
  kp : PySem.W.keepIn K (.ref (He.ga K x)) = true
/-- the law's own def -/
structure FkL (P : Program) (w : World) (K : PySem.W.Frag) (mg : Str → Option Value) (base : Heap) (k : Nat) (x : Str) (ps : List Str) (sp : Sp) : Prop where
  ex : ∃ fd, FnOk P w K mg base (L2.CX P w) k (He.ga K x) fd ps sp ∧ Binds K fd ps [] ∧ (∀ (s : Shared) (us : List Value), us.length = ps.length → BindsTo s fd ⟨us, []⟩ (ps.zip us)) ∧ ∃ oc od osl, K.lookup (He.ga K x) = some ⟨oc, od, .func fd, osl⟩
  gl : mg x = some (.ref (He.ga K x))
  kp : PySem.W.keepIn K (.ref (He.ga K x)) = true
theorem FkL.top {k : Nat} {x p : Str} {sp : Sp} {h : Heap} {g : Heap → Prop} (z : ∀ base, FkL P w K mg base k x [p] sp) : ∃ fd : FuncData, (∀ (s : Shared) (v : Value), BindsTo s fd ⟨[v], []⟩ [(p, v)]) ∧ ∀ base : Heap, K.In base → base.Ns mainGlobals mg → FnOk P w K mg base (L2.CX P w) k (He.ga K x) fd [p] sp := by
  obtain ⟨fd, _, _, hb, oc, od, osl, lk⟩ := (z h).ex
  refine ⟨fd, fun s v => hb s [v] rfl, fun base _ _ => ?_⟩
  obtain ⟨fd', F', _, _, oc', od', osl', lk'⟩ := (z base).ex
  rw [lk] at lk'
  cases lk'
  exact F'
end
section
variable {ς α β γ μ ρ π τ π0 : Type} {X : Cx} {C : Cf} {as : SA} {O : ς → OS} {a b c e elt tg iter : Expr} {es : List Expr} {pos p apos : Pos} {w w1 w2 : Bool} {kn k : Nat}
theorem hg_fk {xr : Er → Value → Option Addr → Hp → Hp → Prop} {Ps : τ → List VP} {m : τ → R ρ} {Bv : ρ → π → VP} {nw : ρ → π → OS} {ps : List Str} {x : Str} {ma : SM ς τ} (F : Fk X.prog X.w X.K X.mg X.base k x ps (spF (π0 := Unit) xr (fun x _ => Ps x) (fun _ _ => []) m Bv (fun _ _ => []) nw)) (o : Ok X C kn) (hkn : k ≤ kn)
    (ha : HA X C (e :: es) as O ma Ps) (hB : ∀ r q, PGo (Bv r q)) (hf : ∀ r q, AllF (nw r q)) (hg : Gl X x := by rfl)
    (hdb : (x == ("__debug__" : Str)) = false := by decide) (he : starEach (e :: es) X.env = (false, eval e X.env) :: starEach es X.env := by rfl) (hpl : (backTo pos (starEach es X.env)).any (·.1) = false := by rfl) :
    HG X C (.Call (.Name x p) (e :: es) [] pos) as O (SM.bnd1 (fun z => (m z).calm) ma) Bv nw := by
  obtain ⟨fd, h1, h2⟩ := F.ex
  exact hg_call h1 o hkn F.gl F.kp h2 ha hB hf hg hdb he hpl
theorem hg_fk1 {δ : Type} {xr : Er → Value → Option Addr → Hp → Hp → Prop} {Ps : τ → Addr → List VP} {ct : δ → Ct} {sel0 : τ → δ} {m : τ → R ρ} {Bv : ρ → π → VP} {sel1 : ρ → δ} {nw : ρ → π → OS} {ps : List Str} {x : Str} {ma : SM ς β} {Pa : β → List VP}
    (F : Fk X.prog X.w X.K X.mg X.base k x ps (spF (π0 := Addr) xr Ps (fun x q => [⟨q, ct (sel0 x), false⟩]) m Bv (fun r q => [⟨q, ct (sel1 r), false⟩]) nw)) (o : Ok X C kn) (hkn : k ≤ kn)
    (i : Nat) {q0 : Addr} {fl : Bool} (sel : ς → δ) (put : ς → δ → ς) (mk : β → δ → τ) (ha : HA X C (e :: es) as O ma Pa) (hPs : ∀ z d, Ps (mk z d) q0 = Pa z) (hs0 : ∀ z d, sel0 (mk z d) = d)
    (hO : ∀ s, (O s)[i]? = some ⟨q0, ct (sel s), fl⟩) (hput : ∀ s d, (O s).set i ⟨q0, ct d, fl⟩ = O (put s d)) (hB : ∀ r q, PGo (Bv r q)) (hf : ∀ r q, AllF (nw r q)) (hg : Gl X x := by rfl)
    (hdb : (x == ("__debug__" : Str)) = false := by decide) (he : starEach (e :: es) X.env = (false, eval e X.env) :: starEach es X.env := by rfl) (hpl : (backTo pos (starEach es X.env)).any (·.1) = false := by rfl) :
    HG X C (.Call (.Name x p) (e :: es) [] pos) as O (fun s => (ma s).bind fun z => (m (mk z.1 (sel z.2))).calm.bind fun r => .ok (r, put z.2 (sel1 r))) Bv nw := by
  obtain ⟨fd, h1, h2⟩ := F.ex
  exact hg_call1 h1 o hkn F.gl F.kp h2 i sel put mk ha hPs hs0 hO hput hB hf hg hdb he hpl
theorem hg_fkX {xr : Er → Value → Option Addr → Hp → Hp → Prop} {Ps : τ → List VP} {m : τ → R ρ} {Bv : ρ → π → VP} {nw : ρ → π → OS} {ps : List Str} {x : Str} {ma : SM ς τ} (F : Fk X.prog X.w X.K X.mg X.base k x ps (spF (π0 := Unit) xr (fun x _ => Ps x) (fun _ _ => []) m Bv (fun _ _ => []) nw)) (o : Ok X C kn) (hkn : k ≤ kn)
    (ha : HA X C (e :: es) as O ma Ps) (hB : ∀ r q, PGo (Bv r q)) (hf : ∀ r q, AllF (nw r q))
    (hw : Wk as C.ax) (ho : ∀ s S H, OwL C.B S H (O s) → OwL C.B S H C.ox) (hx : ∀ ε cls d G H, xr ε cls d G H → C.xr ε cls d G H) (hg : Gl X x := by rfl)
    (hdb : (x == ("__debug__" : Str)) = false := by decide) (he : starEach (e :: es) X.env = (false, eval e X.env) :: starEach es X.env := by rfl) (hpl : (backTo pos (starEach es X.env)).any (·.1) = false := by rfl) :
    HG X C (.Call (.Name x p) (e :: es) [] pos) as O (SM.bnd1 m ma) Bv nw := by
  obtain ⟨fd, h1, h2⟩ := F.ex
  exact hg_callX h1 o hkn F.gl F.kp h2 ha hB hf hw ho hx hg hdb he hpl
/-- the end of a block within a loop -/
theorem hb_endO {T : ρ → V → Hp → Prop} {as' : μ → SA} {os' : μ → OS} {l : μ} (h : Wk as (as' l)) : HB X C [] as (os' l) (.ok (Oc.nx l)) id (NS C as' os') T := ⟨pss_weak pss_nil fun D σ H ⟨L, S, lL, st, sl, ow, q⟩ => q σ H ⟨S, lL, st, sl.wk h, ow⟩⟩
end
def noX : Er → Value → Option Addr → Hp → Hp → Prop := fun _ _ _ _ _ => False
end Y

/-! Y: rules shaped for the printed walks. -/
namespace Y
open PySem PySem.Spec PyProof.Rows L2
section
variable {ς α β γ δ μ ρ π τ π0 : Type} {X : Cx} {C : Cf} {as : SA} {O : ς → OS} {a b c e elt tg iter : Expr} {es : List Expr} {pos p apos : Pos} {w w1 w2 : Bool} {kn k : Nat} {rst body orelse : List Stmt} {N : Sv → μ → L2.St → Hp → Prop} {T : ρ → V → Hp → Prop} {ι : α → Oc μ ρ} {os : OS}
/-- a flat value hangs on no heap -/
structure FF (r : Rp α) : Prop where
  any : ∀ {a v H H'}, r.rep a v H → r.rep a v H'
theorem ffInt : FF rInt := ⟨fun h => h⟩
theorem ffStr : FF rStr := ⟨fun h => h⟩
theorem ffBl : FF rBl := ⟨fun h => h⟩
theorem ffNon : FF rNon := ⟨fun h => h⟩
theorem hx_fl {r : Rp α} {m : SM ς α} (F : FF r) (h : HX X C e as O m (VP.at w r)) : HX X C e as O m (VP.at true r) := ⟨pe_weak h.pe fun σ H Q ⟨s, S, st, sl, ow, q⟩ =>
  ⟨s, S, st, sl, ow, R.post_mono q (fun z k _ v S' H' l' st' ow' pv => k () v S' H' l' st' ow' (F.any pv)) fun _ z => xq_le z⟩⟩
/-- a part of a list that is read -/
theorem hx_cutB {r : Rp δ} {m : SM ς (List δ)} {lo hi : Option Expr} {ml mh : SM ς (Option Int)} {p2 : Pos} (ha : HX X C a as O m (VP.at w (rLst X.K r))) (hl : HO' X C lo as O ml) (hh : HO' X C hi as O mh) : HX X C (.Subscript a (.Slice lo hi none p2) pos) as O (SM.map3 cutL m ml mh) (VP.at w (rLst X.K r)) :=
  ⟨pe_weak (pe_slice sl_list ha.pe hl.po hh.po) fun σ H Q ⟨s, S, st, sl, ow, q⟩ =>
  ⟨s, S, st, sl, ow, R.post_mono (R.post_bind.mp q) (fun z k _ v S1 H1 l1 st1 ow1 pv =>
    ⟨z.2, S1, st1, sl.mono l1, ow1, R.post_mono (R.post_bind.mp k) (fun w' k2 S2 H2 l2 st2 ow2 =>
      ⟨w'.2, S2, st2, (sl.mono l1).mono l2, ow2, R.post_mono (R.post_bind.mp k2) (fun u k3 S3 H3 l3 st3 ow3 => by
        obtain ⟨p, vs, e1, hl, h3⟩ := pv
        have l13 := l2.trans l3
        refine ⟨p, vs, e1, (st3.atH w).seq ((l13.at w).seq hl), fun p' hp => ?_⟩
        have l4 : S3.le (S3.add p' (.lst (cutV vs w'.1 u.1))) := st3.leF hp
        exact k3 () (.ref p') _ _ ((l1.trans l13).trans l4) (st3.newF hp) (ow3.newF st3 hp) ⟨p', _, rfl, SqL.of (Sv.add_at w), (h3.mono ((l13.trans l4).at w)).cut _ _⟩) fun _ z => xq_le z⟩) fun _ z => xq_le z⟩) fun _ z => xq_le z⟩⟩
theorem hx_listB {r : Rp δ} {m : SM ς (List δ)} (hm : X.mg "list" = none) (ha : HX X C e as O m (VP.at w (rLst X.K r))) (hg : Gl X "list" := by rfl)
    (he : starEach [e] X.env = (false, eval e X.env) :: starEach [] X.env := by rfl) (hpl : (backTo pos (starEach [] X.env)).any (·.1) = false := by rfl) : HX X C (.Call (.Name "list" p) [e] [] pos) as O (SM.map1 id m) (VP.at w (rLst X.K r)) :=
  hg_callT (f := fun z => .ok (id z)) call_list_of (fun x vs S H os Q st ow h q => by
    obtain ⟨v, e1, pv⟩ := av1 h
    subst e1
    obtain ⟨p, vs, e2, hl, h3⟩ := pv
    subst e2
    exact ⟨p, vs, rfl, .inl ((st.atH w).seq hl), fun l hl => q.newF st ow hl ⟨l, vs, rfl, SqL.of (Sv.add_at w), h3.mono ((st.leF hl).at w)⟩⟩) hm (by decide +kernel) (ha_one ha he) hg (by decide) (by decide) he hpl

/-! ### tests that change nothing -/
theorem hb_if0 {mc : SM Unit Bool} {ma mb : R β} {k : β → R α} {as1 : β → SA} {os1 : β → OS} (hc : HT X C c as (fun _ => os) mc) (ha : HB X C body as os ma Oc.nx (NS C as1 os1) T) (hb : HB X C orelse as os mb Oc.nx (NS C as1 os1) T) (hr : ∀ l, HB X C rst (as1 l) (os1 l) (k l) ι N T) :
    HB X C (.If c body orelse pos :: rst) as os ((mc ()).bind fun z => (if z.1 = true then ma else mb).bind k) ι N T := hb_if (O := fun _ => os) (ma := fun _ => ma) (mb := fun _ => mb) hc () (fun _ => ha) (fun _ => hb) hr
theorem hb_ifR0 {mc : SM Unit Bool} {ma mr : R α} (hc : HT X C c as (fun _ => os) mc) (ha : HB X C body as os ma ι NF T) (hr : HB X C rst as os mr ι N T) :
    HB X C (.If c body [] pos :: rst) as os ((mc ()).bind fun z => if z.1 = true then ma else mr) ι N T := hb_ifR (O := fun _ => os) (ma := fun _ => ma) (mr := fun _ => mr) hc () (fun _ => ha) (fun _ => hr)
theorem hb_if20 {mc : SM Unit Bool} {ma mr : R α} (hc : HT X C c as (fun _ => os) mc) (ha : HB X C body as os ma ι NF T) (hb : HB X C orelse as os mr ι NF T) :
    HB X C (.If c body orelse pos :: rst) as os ((mc ()).bind fun z => if z.1 = true then ma else mr) ι N T := hb_if2 (O := fun _ => os) (ma := fun _ => ma) (mr := fun _ => mr) hc () (fun _ => ha) (fun _ => hb)
def whileR0 {μ' : Type} (mc : μ' → SM Unit Bool) (f : μ' → R μ') (n : Nat) (l : μ') : R μ' := (whileR (fun l => mc l ()) (fun l (_ : Unit) => f l) n l).bind fun z => .ok z.1
theorem hb_while0 {μ' : Type} {c : Expr} {mc : μ' → SM Unit Bool} {f : μ' → R μ'} {n : Nat} {l0 : μ'} {k : μ' → R α} {asL : μ' → SA} {osL : μ' → OS} (o : Ok X C kn)
    (h0 : Wk as (asL l0)) (h1 : os = osL l0) (hc : ∀ l, HT X C c (asL l) (fun _ => osL l) (mc l)) (hb : ∀ l, HB X C body (asL l) (osL l) (f l) Oc.nx (NS C asL osL) T) (hr : ∀ l, HB X C rst (asL l) (osL l) (k l) ι N T) :
    HB X C (.While c body [] pos :: rst) as os ((whileR0 mc f n l0).bind k) ι N T := by
  unfold whileR0
  rw [R.bind_assoc]
  exact hb_while (δ := Unit) (f := fun l _ => f l) (osL := fun l _ => osL l) (d0 := fun _ => ()) (k := fun z => k z.1) o h0 h1 (fun l => ⟨mc l, rfl, hc l⟩) (fun l _ => hb l) (fun z => hr z.1)
/-- the owned ones by their places -/
theorem OwL.pick {B : Bs} {S : Sv} {H : Hp} {os : OS} (h : OwL B S H os) : ∀ (is : List Nat), is.Nodup → OwL B S H (is.filterMap (os[·]?))
  | [], _ => trivial
  | i :: is, hn => by
    rw [List.nodup_cons] at hn
    have ih := OwL.pick h is hn.2
    rw [List.filterMap_cons]
    cases e : os[i]? with
    | none => exact ih
    | some u =>
      obtain ⟨h1, h2, h3⟩ := h.get e
      refine ⟨h1, h2, h3, fun q m => ?_, ih⟩
      obtain ⟨j, hj, ej⟩ := List.mem_filterMap.mp m
      exact h.apart ej e fun z => hn.1 (by rw [← z]; exact hj)
theorem hb_ow {m : R α} {os' : OS} (is : List Nat) (h : HB X C rst as os' m ι N T) (e : os' = is.filterMap (os[·]?) := by rfl) (hn : is.Nodup := by decide) : HB X C rst as os m ι N T := ⟨pss_weak h.pss fun D σ H ⟨L, S, lL, st, sl, ow, q⟩ => ⟨L, S, lL, st, sl, by rw [e]; exact ow.pick is hn, q⟩⟩
/-- what a def promises that changes one thing -/
def spM {δ : Type} (xr : Er → Value → Option Addr → Hp → Hp → Prop) (Ps : τ → Addr → List VP) (ct : δ → Ct) (sel0 : τ → δ) (m : τ → R (ρ × δ)) (Bv : ρ → π → VP) (nw : ρ → π → OS) : Sp :=
  spF (π0 := Addr) xr Ps (fun x q => [⟨q, ct (sel0 x), false⟩]) m (fun r => Bv r.1) (fun r q => [⟨q, ct r.2, false⟩]) fun r => nw r.1
/-- a call with one thing lent; what it hands back comes with that thing's new content -/
theorem hg_fkM {δ : Type} {xr : Er → Value → Option Addr → Hp → Hp → Prop} {Ps : τ → Addr → List VP} {ct : δ → Ct} {sel0 : τ → δ} {m : τ → R (ρ × δ)} {Bv : ρ → π → VP} {nw : ρ → π → OS} {ps : List Str} {x : Str} {ma : SM ς β} {Pa : β → List VP}
    (F : Fk X.prog X.w X.K X.mg X.base k x ps (spM xr Ps ct sel0 m Bv nw)) (o : Ok X C kn) (hkn : k ≤ kn)
    (i : Nat) {q0 : Addr} {fl : Bool} (sel : ς → δ) (put : ς → δ → ς) (mk : β → δ → τ) (ha : HA X C (e :: es) as O ma Pa) (hPs : ∀ z d, Ps (mk z d) q0 = Pa z := by intro _ _; rfl) (hs0 : ∀ z d, sel0 (mk z d) = d := by intro _ _; rfl)
    (hO : ∀ s, (O s)[i]? = some ⟨q0, ct (sel s), fl⟩ := by intro _; rfl) (hput : ∀ s d, (O s).set i ⟨q0, ct d, fl⟩ = O (put s d) := by intro _ _; rfl) (hB : ∀ r q, PGo (Bv r q)) (hf : ∀ r q, AllF (nw r q)) (hg : Gl X x := by rfl)
    (hdb : (x == ("__debug__" : Str)) = false := by decide) (he : starEach (e :: es) X.env = (false, eval e X.env) :: starEach es X.env := by rfl) (hpl : (backTo pos (starEach es X.env)).any (·.1) = false := by rfl) :
    HG X C (.Call (.Name x p) (e :: es) [] pos) as O (fun s => (ma s).bind fun z => (m (mk z.1 (sel z.2))).calm.bind fun r => .ok (r.1, put z.2 r.2)) Bv nw := ⟨pe_weak (hg_fk1 F o hkn i sel put mk ha hPs hs0 hO hput (fun r => hB r.1) (fun r => hf r.1) hg hdb he hpl).pe fun σ H Q ⟨s, S, st, sl, ow, q⟩ =>
  ⟨s, S, st, sl, ow, by
    have q1 := R.post_bind.mp q
    refine R.post_bind.mpr (R.post_mono q1 (fun z k => ?_) fun _ z => z)
    have k1 := R.post_bind.mp k
    exact R.post_bind.mpr (R.post_mono k1 (fun r k2 => k2) fun _ z => z)⟩⟩
end
/-- the names of built-ins are free in the module -/
structure Bi (mg : Str → Option Value) : Prop where
  len : mg "len" = none
  sum : mg "sum" = none
  min : mg "min" = none
  max : mg "max" = none
  abs : mg "abs" = none
  int : mg "int" = none
  str : mg "str" = none
  list : mg "list" = none
  tuple : mg "tuple" = none
  dict : mg "dict" = none
  bool : mg "bool" = none
  range : mg "range" = none
  enumerate : mg "enumerate" = none
  zip : mg "zip" = none
  reversed : mg "reversed" = none
  sorted : mg "sorted" = none
  isinstance : mg "isinstance" = none
  any : mg "any" = none
  all : mg "all" = none
  set : mg "set" = none
  type_ : mg "type" = none
  repr : mg "repr" = none
/-- a def of the module's top -/
structure Dfd (K : PySem.W.Frag) (mg : Str → Option Value) (x : Str) (st : Stmt) : Prop where
  fd : ∃ fd, FunD K x x (defArgs st) (defBody st) (defScope st) [] [] (He.ga K x) fd
  gl : mg x = some (.ref (He.ga K x))
theorem mkFk {P : Program} {w : World} {K : PySem.W.Frag} {mg : Str → Option Value} {base : Heap} {k : Nat} {x : Str} {st : Stmt} {ps : List Str} {sp : Sp} (D : Dfd K mg x st) (h : ∀ fd, FunD K x x (defArgs st) (defBody st) (defScope st) [] [] (He.ga K x) fd → FnOk P w K mg base (L2.CX P w) k (He.ga K x) fd ps sp)
    (hb : ∀ (kV doc pm : Value) (an : Option Addr) (cdv ct : Value) (us : List Value), us.length = ps.length → bindArgs (PySem.W.fnOf x x (defArgs st) (defBody st) (defScope st) .none kV doc pm an cdv ct) ⟨us, []⟩ = pure (ps.zip us)) : Fk P w K mg base k x ps sp := by
  obtain ⟨fd, F⟩ := D.fd
  exact ⟨⟨fd, h fd F, F.bindsN hb⟩, D.gl, F.kp⟩
theorem mkFkL {P : Program} {w : World} {K : PySem.W.Frag} {mg : Str → Option Value} {base : Heap} {k : Nat} {x : Str} {st : Stmt} {ps : List Str} {sp : Sp} (D : Dfd K mg x st) (h : ∀ fd, FunD K x x (defArgs st) (defBody st) (defScope st) [] [] (He.ga K x) fd → FnOk P w K mg base (L2.CX P w) k (He.ga K x) fd ps sp)
    (hb : ∀ (kV doc pm : Value) (an : Option Addr) (cdv ct : Value) (us : List Value), us.length = ps.length → bindArgs (PySem.W.fnOf x x (defArgs st) (defBody st) (defScope st) .none kV doc pm an cdv ct) ⟨us, []⟩ = pure (ps.zip us))   : FkL P w K mg base k x ps sp := by
  obtain ⟨fd, F⟩ := D.fd
  refine ⟨⟨fd, h fd F, F.bindsN hb, F.bindsA hb, ?_⟩, D.gl, F.kp⟩
  obtain ⟨oc, od, dV, kV, doc, pm, an, cdv, ct, osl, e, lk, _⟩ := F.ex
  exact ⟨oc, od, osl, lk⟩
end Y

/-! Y: ways out of loops, exceptions by names. -/
namespace Y
open PySem PySem.Spec PyProof.Rows L2
section
variable {ς α β γ δ μ ρ π τ π0 : Type} {X : Cx} {C : Cf} {as : SA} {O : ς → OS} {a b c e elt tg iter : Expr} {es : List Expr} {pos p apos : Pos} {w w1 w2 : Bool} {kn k : Nat} {rst body orelse : List Stmt} {N : Sv → μ → L2.St → Hp → Prop} {T : ρ → V → Hp → Prop} {ι : α → Oc μ ρ} {os : OS}
def ocB {μ' : Type} (o : Oc μ' ρ) (k : μ' → R α) (kr : ρ → α) : R α := match o with
  | .nx l => k l
  | .rt r => .ok (kr r)
theorem hb_forY {m : SM ς (List β)} {P : β → VP} {μ' : Type} {f : μ' → β → R (Oc μ' ρ)} {l0 : ς → μ'} {k : μ' → R α} {kr : ρ → α} {asL : μ' → SA} {osL : μ' → OS} {asT : μ' → β → SA} {ts : List Nat} (o : Ok X C kn) (hi : HI X C tg e as O m P) (s : ς)
    (h0 : ∀ s', Wk as (asL (l0 s'))) (h1 : ∀ s', O s' = osL (l0 s')) (ht : ∀ l a, HTg X C tg (asL l) (P a) ts (asT l a)) (hb : ∀ l a, HB X C body (asT l a) (osL l) (f l a) id (NS C asL osL) T) (hr : ∀ l, HB X C rst (asL l) (osL l) (k l) ι N T) (hk : ∀ r, ι (kr r) = .rt r := by intro _; rfl)
    (hs : ∀ x, foldedSetIterable e X.env x = pure x := by intro _; rfl) :
    HB X C (.For tg e body [] pos :: rst) as (O s) ((m s).bind fun z => (forR f (l0 z.2) z.1).bind fun o => ocB o k kr) ι N T := hb_forX o hi s h0 h1 ht hb hr hk hs
theorem hb_seqY {μ' : Type} {st : Stmt} {m : R (Oc μ' ρ)} {as1 : μ' → SA} {os1 : μ' → OS} {k : μ' → R α} {kr : ρ → α} (h : HS X C st as os m id (NS C as1 os1) T) (hr : ∀ l, HB X C rst (as1 l) (os1 l) (k l) ι N T) (hk : ∀ r, ι (kr r) = .rt r := by intro _; rfl) :
    HB X C (st :: rst) as os (m.bind fun o => ocB o k kr) ι N T := hb_seq h hr hk
/-- a test as a single statement -/
theorem hs_if {mc : SM Unit Bool} {μ' : Type} {ma mb : R (Oc μ' ρ)} {as1 : μ' → SA} {os1 : μ' → OS} (hc : HT X C c as (fun _ => os) mc) (ha : HB X C body as os ma id (NS C as1 os1) T) (hb : HB X C orelse as os mb id (NS C as1 os1) T) :
    HS X C (.If c body orelse pos) as os ((mc ()).bind fun z => if z.1 = true then ma else mb) id (NS C as1 os1) T :=
  ⟨ps_weak (ps_if hc.pt ha.pss hb.pss) fun D σ H ⟨L, S, lL, st, sl, ow, q⟩ =>
    ⟨(), S, st, sl, ow, R.post_mono (R.post_bind.mp q) (fun z k' S' H' l' st' ow' => by
      by_cases hz : z.1 = true
      · rw [if_pos hz] at k' ⊢
        exact ⟨L, S', lL.trans l', st', sl.mono l', ow', k'⟩
      · rw [if_neg hz] at k' ⊢
        exact ⟨L, S', lL.trans l', st', sl.mono l', ow', k'⟩) fun _ z => xq_le z⟩⟩
/-- an own exception class -/
structure Xd (K : PySem.W.Frag) (mg : Str → Option Value) (x : Str) : Prop where
  c : (He.Fa.exc x).ok K = true
  gl : mg x = some (.ref (He.ga K x))
def Xd.er (K : PySem.W.Frag) (x : Str) (cls : Value) : Prop := cls = .ref (He.ga K x)
theorem hb_raiseN {m : Str} {x : Str} {j : Nat} {p p2 cpos pos : Pos} {ε : Er} (o : Ok X C kn) (D : Xd X.K X.mg x)
    (hw : Wk as C.ax) (ho : ∀ S H, OwL C.B S H os → OwL C.B S H C.ox) (hx : ∀ G H, C.xr ε (.ref (He.ga X.K x)) none G H) (hg : Gl X x := by rfl) (hdb : (x == ("__debug__" : Str)) = false := by decide) :
    HB X C (.Raise (some (.Call (.Name x p) [.Constant (.str m) j p2] [] cpos)) none pos :: rst) as os (.ex ε) ι N T := by
  obtain ⟨h1, h2, h3, h4⟩ := He.exc_ok D.c
  exact hb_raise o PySem.F.excBase_ValueError h1 D.gl h2 (raises_own h3 h4) hw ho (fun S H _ => hx _ _) hg hdb
theorem Xd.names {x : Str} (D : Xd X.K X.mg x) (hg : Gl X x) (hdb : (x == ("__debug__" : Str)) = false := by decide) : Names X x (.ref (He.ga X.K x)) := ⟨hg, hdb, .inl D.gl⟩
/-- a written list's length -/
def dispR {δ : Type} (xs : List δ) : R (List δ) := (R.guard (xs.length ≤ 16777216)).bind fun _ => .ok xs
theorem hn_lstD {m : SM ς (List δ)} {r : Rp δ} (h : HA X C es as O m (fun xs => xs.map (VP.at true r))) : HN X C (.List es pos) as O (SM.bnd1 dispR m) (cLst r) := hn_lst h
/-- a part of a tuple that is plain data -/
theorem hx_tixW {Ps : α → List VP} {r : Rp δ} {x : δ} {k : Nat} {m : SM ς α} {j : Nat} {pi : Pos} (hc : ∀ y, (Ps y)[k]? = some (VP.at w r x)) (ha : HX X C a as O m (fun y => VP.tup X.K (Ps y))) :
    HX X C (.Subscript a (.Constant (.int (k : Int)) j pi) pos) as O (SM.map1 (fun _ => x) m) (VP.at w r) := ⟨pe_weak (hx_tixV (P := fun _ => VP.at w r x) hc ha).pe fun σ H Q ⟨s, S, st, sl, ow, q⟩ => ⟨s, S, st, sl, ow, R.post_bind.mp q⟩⟩
/-- a part of an owned list -/
theorem hn_cutO {rp : Rp δ} {q0 : Addr} {fl : Bool} {x : Str} {px p2 : Pos} {lo hi : Option Expr} {ml mh : SM ς (Option Int)} (i j : Nat) (sel : ς → List δ) (hl : HO' X C lo as O ml) (hh : HO' X C hi as O mh) (h : as[i]? = some (some (VP.ptr q0)) := by rfl) (hO : ∀ s, (O s)[j]? = some ⟨q0, cLst rp (sel s), fl⟩ := by intro _; rfl)
    (hN : X.N[i]? = some x := by rfl) (hvis : Vis X.env.scope x := by first | exact Or.inl rfl | exact Or.inr (Or.inl rfl) | exact Or.inr (Or.inr rfl)) (hd : (x == ("__debug__" : Str)) = false := by decide) (hcd : (x == ("__classdict__" : Str)) = false := by decide) :
    HN X C (.Subscript (.Name x px) (.Slice lo hi none p2) pos) as O (fun s => (ml s).bind fun z => (mh z.2).bind fun y => .ok (cutL (sel y.2) z.1 y.1, y.2)) (cLst rp) := ⟨pe_weak (pe_slice sl_list (hx_ptr (O := O) (C := C) (as := as) i h hN hvis hd hcd).pe hl.po hh.po) fun σ H Q ⟨s, S, st, sl, ow, q⟩ =>
  ⟨s, S, st, sl, ow, fun _ v S1 H1 l1 st1 ow1 p1 => ⟨s, S1, st1, sl.mono l1, ow1, R.post_mono (R.post_bind.mp q) (fun z k S2 H2 l2 st2 ow2 => ⟨z.2, S2, st2, (sl.mono l1).mono l2, ow2, R.post_mono (R.post_bind.mp k) (fun y k2 S3 H3 l3 st3 ow3 => by
    have p1 : v = .ref q0 := p1
    subst p1
    obtain ⟨_, ⟨o, ho, vs0, eo, hA⟩, _⟩ := ow3.get (hO y.2)
    have eo : o = .lst vs0 := eo
    subst eo
    exact ⟨q0, vs0, rfl, SqL.of ho, fun p' hp => k2 p' (.ref p') S3 _ ((l1.trans l2).trans l3) (st3.grow hp) (ow3.new st3 hp ⟨_, rfl, A2.cut hA _ _⟩) rfl⟩) fun _ z => xq_le z⟩) fun _ z => xq_le z⟩⟩⟩
theorem hn_dnilT {κ : Type} {kt : KT κ} {r : Rp δ} : HN X C (.Dict [] [] pos) as O (SM.ret ([] : List (κ × δ))) (cDicT kt r) := ⟨pe_weak pe_dnewT fun σ H Q ⟨s, S, st, sl, ow, q⟩ p hp => q p (.ref p) S _ (.refl S) (st.grow hp) (ow.new st hp ⟨[], rfl, trivial⟩) rfl⟩
end
def VP.fls : VP := ⟨fun _ _ => False, fun _ h => h⟩
def K0 : PySem.W.Frag := []
end Y

/-! Y: the law's own walk, where what a def may let out hangs on the world. -/
namespace Y
open PySem PySem.Spec PyProof.Rows L2
theorem walk_ofW {l : PySem.W.OpenLaw} {n k : Nat} {q : Program} {loose : List Str} {XP : (Str → Option Value) → Heap → Prop} {YP : World → Heap → Prop} {d : DefRec} {CX : World → CXT} {x : Str}
    (hn : l.most = some n) (hn2 : n ≤ sizeLine) (hdf : d.params.defaults = []) (hr : Room k callerA)
    (F : ∀ (w : World) (mg : Str → Option Value) (fa : Addr) (h : Heap), YP w h → h.Ns mainGlobals mg → mg d.name = some (.ref fa) →
      ∃ (K : PySem.W.Frag) (fd : FuncData) (sp : Sp), K.In h ∧ (∀ (s : Shared) (u : Value), BindsTo s fd ⟨[u], []⟩ [(x, u)]) ∧
        (∀ (H : Hp) (a : Addr) (ns : List Int), ns.length ≤ n → Only H → SqL K H a (ns.map V.int) → sp [.ref a] H (fun v _ => v = .bl true) fun _ _ _ => False) ∧
        ∀ base : Heap, K.In base → base.Ns mainGlobals mg → FnOk l.prog w K mg base (CX w) k fa fd [x] sp)
    (hCX : ∀ (w : World) (H : Hp) (s : Shared) (e : Value) (s' : Shared), CX w [] H s (fun _ _ _ => False) e s' → False) :
    PySem.W.WalkO q loose XP YP l.row.toRowW d [] (fun f vs => PySem.call f vs) := by
  refine Att.attach_call hn hdf fun w s₀ s₁ mg mb fa o pm cd doc a vs ns G Y ho hd hcd hmg hobj hints hlen hg => ?_
  obtain ⟨K, fd, sp, KX, hb, hsp, hF⟩ := F w mg fa _ Y G.T.g hmg
  exact law_call KX G.T.g G.T.b G.T.builtins G.T.nolimit hg hobj hints (Nat.le_trans hlen hn2) hr hF hb (fun H hO hS => hsp H a ns hlen hO hS) fun H e s' => hCX w H s₁ e s'
theorem cx_none {P : Program} {w : World} {H : Hp} {s : Shared} {e : Value} {s' : Shared} (h : L2.CX P w [] H s (fun _ _ _ => False) e s') : False := by
  obtain ⟨_, _, _, _, _, _, _, _, _, _, _, _, z⟩ := h
  exact z
end Y

/-! Y: the mirrors read. -/
namespace Y
open PySem PySem.Spec PyProof.Rows L2
section
variable {ς α β γ δ : Type}
@[simp] theorem sm_ret (a : α) (s : ς) : SM.ret a s = .ok (a, s) := Eq.trans rfl rfl
@[simp] theorem sm_map1 (f : α → β) (m : SM ς α) (s : ς) : SM.map1 f m s = (m s).bind fun z => .ok (f z.1, z.2) := Eq.trans rfl rfl
@[simp] theorem sm_bnd1 (f : α → R β) (m : SM ς α) (s : ς) : SM.bnd1 f m s = (m s).bind fun z => (f z.1).bind fun b => .ok (b, z.2) := Eq.trans rfl rfl
@[simp] theorem sm_map2 (f : α → β → γ) (m : SM ς α) (n : SM ς β) (s : ς) : SM.map2 f m n s = (m s).bind fun z => (n z.2).bind fun w => .ok (f z.1 w.1, w.2) := Eq.trans rfl rfl
@[simp] theorem sm_bnd2 (f : α → β → R γ) (m : SM ς α) (n : SM ς β) (s : ς) : SM.bnd2 f m n s = (m s).bind fun z => (n z.2).bind fun w => (f z.1 w.1).bind fun c => .ok (c, w.2) := Eq.trans rfl rfl
@[simp] theorem sm_map3 (f : α → β → γ → δ) (m : SM ς α) (n : SM ς β) (o : SM ς γ) (s : ς) : SM.map3 f m n o s = (m s).bind fun z => (n z.2).bind fun w => (o w.2).bind fun u => .ok (f z.1 w.1 u.1, u.2) := Eq.trans rfl rfl
@[simp] theorem sm_and (m n : SM ς Bool) (s : ς) : SM.and m n s = (m s).bind fun z => if z.1 = true then n z.2 else .ok (false, z.2) := Eq.trans rfl rfl
@[simp] theorem sm_or (m n : SM ς Bool) (s : ς) : SM.or m n s = (m s).bind fun z => if z.1 = true then .ok (true, z.2) else n z.2 := Eq.trans rfl rfl
@[simp] theorem sm_not (m : SM ς Bool) (s : ς) : SM.not m s = (m s).bind fun z => .ok (!z.1, z.2) := Eq.trans rfl rfl
@[simp] theorem sm_pk (m : ς → SM Unit α) (s : ς) : SM.pk m s = ((m s) ()).calm.bind fun z => .ok (z.1, s) := Eq.trans rfl rfl
end
theorem filter_tt {α : Type} (xs : List α) : (xs.filter fun _ => true) = xs := List.filter_eq_self.mpr fun _ _ => rfl
theorem p62 : (2 : Int) ^ 62 = 4611686018427387904 := by decide
theorem p63 : (2 : Int) ^ 63 = 9223372036854775808 := by decide
theorem p64 : (2 : Int) ^ 64 = 18446744073709551616 := by decide
theorem rng1_ok {j : Int} (h0 : -1000000000 ≤ j) (h1 : j < 1000000000) : rng1 j = .ok (rangeL 0 j) := by
  unfold rng1
  rw [R.guard_true (by rw [p62]; exact ⟨by omega, by omega⟩)]
  rfl
theorem rng2_ok {i j : Int} (h0 : -1000000000 ≤ i) (h1 : i < 1000000000) (h2 : -1000000000 ≤ j) (h3 : j < 1000000000) : rng2 i j = .ok (rangeL i j) := by
  unfold rng2
  rw [R.guard_true (by rw [p62]; exact ⟨by omega, by omega, by omega, by omega⟩)]
  rfl
theorem mulR_ok {i j : Int} (h : (-18446744073709551616 < i ∧ i < 18446744073709551616) ∨ (-18446744073709551616 < j ∧ j < 18446744073709551616)) : mulR i j = .ok (i * j) := by
  unfold mulR
  rw [R.guard_true (by unfold CMul; rw [p64]; exact h)]
  rfl
theorem modR_ok {i j : Int} (h : 0 < j) : modR i j = .ok (i % j) := by
  unfold modR
  rw [R.guard_true h]; rfl
theorem divR_ok {i j : Int} (h : 0 < j) (hl : j.natAbs.log2 < 9000) : divR i j = .ok (i / j) := by
  unfold divR
  rw [R.guard_true (show CDivW i j from ⟨h, hl⟩)]; rfl
theorem shlR_ok {n : Nat} (h : n ≤ 64) : shlR 1 (n : Int) = .ok (((2 ^ n : Nat)) : Int) := by
  unfold shlR
  rw [R.guard_true (show CPow 1 (n : Int) from ⟨by omega, by omega, by decide⟩), R.bind_ok]
  congr 1
  rw [Int.toNat_natCast, Int.one_mul]
  push_cast; rfl
theorem pk_eq {ς α : Type} (m : ς → SM Unit α) (s : ς) : SM.pk m s = ((m s) ()).calm.bind fun z => .ok (z.1, s) := rfl
theorem R.calm_bind {α β : Type} (m : R α) (f : α → R β) : (m.bind f).calm = m.calm.bind fun a => (f a).calm := by cases m <;> rfl
theorem R.calm_calm {α : Type} (m : R α) : m.calm.calm = m.calm := by cases m <;> rfl
theorem R.calm_ofO {α : Type} (o : Option α) : (R.ofO o).calm = R.ofO o := by cases o <;> rfl
theorem R.calm_guard {c : Prop} [Decidable c] : (R.guard c).calm = R.guard c := by unfold R.guard; split <;> rfl
theorem R.calm_ite {α : Type} {c : Prop} [Decidable c] (a b : R α) : (if c then a else b).calm = if c then a.calm else b.calm := by split <;> rfl
theorem R.ite_bind {α β : Type} {c : Prop} [Decidable c] (a b : R α) (f : α → R β) : (if c then a else b).bind f = if c then a.bind f else b.bind f := by split <;> rfl
/-- a comprehension whose parts are plain -/
theorem lcS_ok {ς α β : Type} {t : α → SM ς Bool} {f : α → SM ς β} {p : α → Bool} {g : α → β} (s : ς) : ∀ (xs : List α) (ys : List β), (∀ x ∈ xs, t x s = .ok (p x, s)) → (∀ x ∈ xs, p x = true → f x s = .ok (g x, s)) → ys.length + xs.length ≤ 16777216 → lcS t f xs ys s = .ok (ys ++ (xs.filter p).map g, s)
  | [], ys, _, _, _ => by simp [lcS]
  | x :: xs, ys, ht, hf, hl => by
    rw [List.length_cons] at hl
    unfold lcS
    rw [ht x List.mem_cons_self, R.calm_ok, R.bind_ok]
    cases hp : p x with
    | false =>
      rw [if_neg (by simp)]
      rw [lcS_ok s xs ys (fun y m => ht y (List.mem_cons_of_mem _ m)) (fun y m => hf y (List.mem_cons_of_mem _ m)) (by omega), List.filter_cons_of_neg (by simp [hp])]
    | true =>
      rw [if_pos rfl, hf x List.mem_cons_self hp, R.calm_ok, R.bind_ok, R.guard_true (by omega), R.bind_ok]
      rw [lcS_ok s xs _ (fun y m => ht y (List.mem_cons_of_mem _ m)) (fun y m => hf y (List.mem_cons_of_mem _ m)) (by simp; omega), List.filter_cons_of_pos (by simp [hp])]
      simp
theorem lc_ok {ς α β : Type} {m : SM ς (List α)} {t : α → SM ς Bool} {f : α → SM ς β} {p : α → Bool} {g : α → β} {s s' : ς} {xs : List α} (hm : m s = .ok (xs, s')) (ht : ∀ x ∈ xs, t x s' = .ok (p x, s')) (hf : ∀ x ∈ xs, p x = true → f x s' = .ok (g x, s')) (hl : xs.length ≤ 16777216) : SM.lc m t f s = .ok ((xs.filter p).map g, s') := by
  unfold SM.lc
  rw [hm, R.bind_ok, lcS_ok s' xs [] ht hf (by simpa using hl)]
  rfl
theorem foldR_ok {μ β : Type} {f : μ → β → R μ} {g : μ → β → μ} (I : μ → Prop) : ∀ (xs : List β) (l : μ), I l → (∀ l, I l → ∀ x ∈ xs, f l x = .ok (g l x) ∧ I (g l x)) → foldR f l xs = .ok (xs.foldl g l) ∧ I (xs.foldl g l)
  | [], l, h, _ => ⟨rfl, h⟩
  | x :: xs, l, h, hf => by
    obtain ⟨h1, h2⟩ := hf l h x List.mem_cons_self
    unfold foldR
    rw [h1, R.bind_ok]
    exact foldR_ok I xs (g l x) h2 fun l hl y m => hf l hl y (List.mem_cons_of_mem _ m)
/-- a loop with an invariant by places -/
theorem foldR_inv {μ β : Type} {f : μ → β → R μ} (I : Nat → μ → Prop) : ∀ (xs : List β) (n : Nat) (l : μ), I n l → (∀ i l x, I (n + i) l → xs[i]? = some x → ∃ l', f l x = .ok l' ∧ I (n + i + 1) l') → ∃ l', foldR f l xs = .ok l' ∧ I (n + xs.length) l'
  | [], n, l, h, _ => ⟨l, rfl, h⟩
  | x :: xs, n, l, h, hf => by
    obtain ⟨l1, h1, h2⟩ := hf 0 l x h rfl
    obtain ⟨l2, h3, h4⟩ := foldR_inv I xs (n + 1) l1 h2 fun i l y hi hy => by
      obtain ⟨l', a, b⟩ := hf (i + 1) l y (by rw [show n + (i + 1) = n + 1 + i by omega]; exact hi) hy
      exact ⟨l', a, by rw [show n + 1 + i + 1 = n + (i + 1) + 1 by omega]; exact b⟩
    refine ⟨l2, ?_, by rw [List.length_cons, show n + (xs.length + 1) = n + 1 + xs.length by omega]; exact h4⟩
    unfold foldR
    rw [h1, R.bind_ok, h3]
/-- a loop that goes on to its end -/
theorem forR_inv {μ β ρ : Type} {f : μ → β → R (Oc μ ρ)} (I : Nat → μ → Prop) : ∀ (xs : List β) (n : Nat) (l : μ), I n l → (∀ i l x, I (n + i) l → xs[i]? = some x → ∃ l', f l x = .ok (.nx l') ∧ I (n + i + 1) l') → ∃ l', forR f l xs = .ok (.nx l') ∧ I (n + xs.length) l'
  | [], n, l, h, _ => ⟨l, rfl, h⟩
  | x :: xs, n, l, h, hf => by
    obtain ⟨l1, h1, h2⟩ := hf 0 l x h rfl
    obtain ⟨l2, h3, h4⟩ := forR_inv I xs (n + 1) l1 h2 fun i l y hi hy => by
      obtain ⟨l', a, b⟩ := hf (i + 1) l y (by rw [show n + (i + 1) = n + 1 + i by omega]; exact hi) hy
      exact ⟨l', a, by rw [show n + 1 + i + 1 = n + (i + 1) + 1 by omega]; exact b⟩
    refine ⟨l2, ?_, by rw [List.length_cons, show n + (xs.length + 1) = n + 1 + xs.length by omega]; exact h4⟩
    unfold forR
    rw [h1, R.bind_ok]
    exact h3
end Y

/-! Y: a if c else b, in of lists, None, zip. -/
namespace Y
open PySem PySem.Spec PyProof.Rows L2
section
variable {ς α β γ δ κ μ ρ π τ π0 : Type} {X : Cx} {C : Cf} {as : SA} {O : ς → OS} {a b c e elt tg iter : Expr} {es : List Expr} {pos p apos px : Pos} {w w1 w2 : Bool} {kn k : Nat} {rst body : List Stmt} {N : Sv → μ → L2.St → Hp → Prop} {T : ρ → V → Hp → Prop} {ι : α → Oc μ ρ} {os : OS}
theorem hx_ifE {mc : SM ς Bool} {m1 m2 : SM ς δ} {P : δ → VP} (hc : HT X C c as O mc) (ha : HX X C a as O m1 P) (hb : HX X C b as O m2 P) : HX X C (.IfExp c a b pos) as O (SM.ite mc m1 m2) P := ⟨pe_weak (pe_ifExp hc.pt ha.pe hb.pe) fun σ H Q ⟨s, S, st, sl, ow, q⟩ =>
  ⟨s, S, st, sl, ow, R.post_mono (R.post_bind.mp q) (fun z k S' H' l' st' ow' => by
    by_cases hz : z.1 = true
    · rw [if_pos hz] at k ⊢
      exact ⟨z.2, S', st', sl.mono l', ow', R.post_mono k (fun w k2 u v S2 H2 l2 st2 ow2 p2 => k2 u v S2 H2 (l'.trans l2) st2 ow2 p2) fun _ z => xq_le z⟩
    · rw [if_neg hz] at k ⊢
      exact ⟨z.2, S', st', sl.mono l', ow', R.post_mono k (fun w k2 u v S2 H2 l2 st2 ow2 p2 => k2 u v S2 H2 (l'.trans l2) st2 ow2 p2) fun _ z => xq_le z⟩) fun _ z => xq_le z⟩⟩
def inL [DecidableEq δ] (y : δ) (xs : List δ) : Bool := decide (y ∈ xs)
def niL [DecidableEq δ] (y : δ) (xs : List δ) : Bool := !decide (y ∈ xs)
theorem inV_eq [DecidableEq δ] {r : Rp δ} (F : FR r) (y : δ) : ∀ xs : List δ, inV (F.f y) (xs.map F.f) = inL y xs
  | [] => by simp [inV, inL]
  | x :: xs => by
    have ih := inV_eq F y xs
    unfold inL at ih ⊢
    unfold inV at ih ⊢
    rw [List.map_cons, List.any_cons, ih]
    by_cases h : x = y
    · subst h
      rw [(F.eqv x x).mpr rfl]; simp
    · have e1 : eqV (F.f x) (F.f y) = false := by
        cases q : eqV (F.f x) (F.f y) with
        | false => rfl
        | true => exact (h ((F.eqv x y).mp q)).elim
      have h' : ¬ y = x := fun z => h z.symm
      rw [e1]; simp [h']
theorem ov_in [DecidableEq δ] {r : Rp δ} (F : FR r) : OV2 (π := Unit) C (rIn X.K false) (VP.at w1 r) (VP.at w2 (rLst X.K r)) (fun y xs => .ok (inL y xs)) (fun z _ => VP.at true rBl z) (fun _ _ => []) := fun x y v u S H os Q st ow h1 h2 q => by
  obtain ⟨p, vs, e, hq, hA⟩ := h2
  have e1 := F.law h1
  have e2 := fr_all F hA
  subst e1; subst e2
  refine ⟨p, _, e, .inl ((st.atH w2).seq hq), F.flat x, ?_, ?_⟩
  · rw [List.all_map, List.all_eq_true]; exact fun x _ => F.flat x
  · refine q.imm st ow ?_
    show V.bl (inV _ _) = V.bl _
    rw [inV_eq]
theorem ov_ni [DecidableEq δ] {r : Rp δ} (F : FR r) : OV2 (π := Unit) C (rIn X.K true) (VP.at w1 r) (VP.at w2 (rLst X.K r)) (fun y xs => .ok (niL y xs)) (fun z _ => VP.at true rBl z) (fun _ _ => []) := fun x y v u S H os Q st ow h1 h2 q => by
  obtain ⟨p, vs, e, hq, hA⟩ := h2
  have e1 := F.law h1
  have e2 := fr_all F hA
  subst e1; subst e2
  refine ⟨p, _, e, .inl ((st.atH w2).seq hq), F.flat x, ?_, ?_⟩
  · rw [List.all_map, List.all_eq_true]; exact fun x _ => F.flat x
  · refine q.imm st ow ?_
    show V.bl (!inV _ _) = V.bl _
    rw [inV_eq]; rfl
section
variable [DecidableEq δ] {r : Rp δ} {m1 : SM ς δ} {m2 : SM ς (List δ)} (F : FR r) (ha : HX X C a as O m1 (VP.at w1 r)) (hb : HX X C b as O m2 (VP.at w2 (rLst X.K r)))
include F ha hb
theorem hx_inL (hm : behindInMarks .In b = false := by rfl) : HX X C (.Compare a [.In] [b] pos) as O (SM.map2 inL m1 m2) (VP.at true rBl) := hx_cmp op_in_seq (ov_in F) ha hb hm
theorem ht_inL (hm : behindInMarks .In b = false := by rfl) : HT X C (.Compare a [.In] [b] pos) as O (SM.map2 inL m1 m2) := ht_cmp op_in_seq (ov_in F) ha hb hm
theorem hx_niL (hm : behindInMarks .NotIn b = false := by rfl) : HX X C (.Compare a [.NotIn] [b] pos) as O (SM.map2 niL m1 m2) (VP.at true rBl) := hx_cmp op_notIn_seq (ov_ni F) ha hb hm
theorem ht_niL (hm : behindInMarks .NotIn b = false := by rfl) : HT X C (.Compare a [.NotIn] [b] pos) as O (SM.map2 niL m1 m2) := ht_cmp op_notIn_seq (ov_ni F) ha hb hm
end
/-! ### None -/
theorem ov_isN {r : Rp δ} : OV2 (π := Unit) C (fun x y H Q => y = .non ∧ Q (.bl (decide (x = .non))) H) (VP.at w1 (rOpt r)) (VP.at w2 rNon) (fun x _ => .ok x.isNone) (fun z _ => VP.at true rBl z) (fun _ _ => []) := fun x y v u S H os Q st ow h1 h2 q => by
  have h2 : u = .non := h2
  refine ⟨h2, q.imm st ow ?_⟩
  show V.bl _ = V.bl _
  cases x with
  | none =>
    have h1 : v = .non := h1
    rw [decide_eq_true h1]; rfl
  | some x =>
    have h1 : v ≠ .non := h1.1
    rw [decide_eq_false h1]; rfl
theorem ov_noN {r : Rp δ} : OV2 (π := Unit) C (fun x y H Q => y = .non ∧ Q (.bl (!decide (x = .non))) H) (VP.at w1 (rOpt r)) (VP.at w2 rNon) (fun x _ => .ok x.isSome) (fun z _ => VP.at true rBl z) (fun _ _ => []) := fun x y v u S H os Q st ow h1 h2 q => by
  have h2 : u = .non := h2
  refine ⟨h2, q.imm st ow ?_⟩
  show V.bl _ = V.bl _
  cases x with
  | none =>
    have h1 : v = .non := h1
    rw [decide_eq_true h1]; rfl
  | some x =>
    have h1 : v ≠ .non := h1.1
    rw [decide_eq_false h1]; rfl
theorem hx_isN {r : Rp δ} {m : SM ς (Option δ)} {j : Nat} {pc : Pos} (ha : HX X C a as O m (VP.at w1 (rOpt r))) : HX X C (.Compare a [.Is] [.Constant .none j pc] pos) as O (SM.map2 (fun x _ => x.isNone) m (SM.ret ())) (VP.at true rBl) := hx_cmp op_isN ov_isN ha hx_non (nomark _)
theorem ht_isN {r : Rp δ} {m : SM ς (Option δ)} {j : Nat} {pc : Pos} (ha : HX X C a as O m (VP.at w1 (rOpt r))) : HT X C (.Compare a [.Is] [.Constant .none j pc] pos) as O (SM.map2 (fun x _ => x.isNone) m (SM.ret ())) := ht_cmp op_isN ov_isN ha hx_non (nomark _)
theorem hx_noN {r : Rp δ} {m : SM ς (Option δ)} {j : Nat} {pc : Pos} (ha : HX X C a as O m (VP.at w1 (rOpt r))) : HX X C (.Compare a [.IsNot] [.Constant .none j pc] pos) as O (SM.map2 (fun x _ => x.isSome) m (SM.ret ())) (VP.at true rBl) := hx_cmp op_notN ov_noN ha hx_non (nomark _)
theorem ht_noN {r : Rp δ} {m : SM ς (Option δ)} {j : Nat} {pc : Pos} (ha : HX X C a as O m (VP.at w1 (rOpt r))) : HT X C (.Compare a [.IsNot] [.Constant .none j pc] pos) as O (SM.map2 (fun x _ => x.isSome) m (SM.ret ())) := ht_cmp op_notN ov_noN ha hx_non (nomark _)
/-- what is there -/
theorem hx_some {r : Rp δ} {m : SM ς (Option δ)} (h : HX X C e as O m (VP.at w (rOpt r))) : HX X C e as O (SM.bnd1 R.ofO m) (VP.at w r) := ⟨pe_weak h.pe fun σ H Q ⟨s, S, st, sl, ow, q⟩ =>
  ⟨s, S, st, sl, ow, R.post_mono (R.post_bind.mp q) (fun z k _ v S' H' l' st' ow' pv => by
    obtain ⟨x, hx, k⟩ := R.ofO_post.mp (R.post_bind.mp k)
    have pv : (rOpt r).rep z.1 v (S'.at w) := pv
    rw [hx] at pv
    exact k () v S' H' l' st' ow' pv.2) fun _ z => xq_le z⟩⟩
/-- a representation that is never None -/
structure NN (r : Rp δ) : Prop where
  nn : ∀ {a v H}, r.rep a v H → v ≠ .non
theorem nnInt : NN rInt := ⟨fun {a v H} h => by
  have h : v = .int a := h
  rw [h]; intro z; cases z⟩
theorem nnStr : NN rStr := ⟨fun {a v H} h => by
  have h : v = .str a := h
  rw [h]; intro z; cases z⟩
theorem nnBl : NN rBl := ⟨fun {a v H} h => by
  have h : v = .bl a := h
  rw [h]; intro z; cases z⟩
theorem nnLst {K : PySem.W.Frag} {r : Rp δ} : NN (rLst K r) := ⟨fun ⟨p, vs, e, _⟩ => by rw [e]; intro z; cases z⟩
theorem nnTup {K : PySem.W.Frag} {t : RT δ} : NN (rTup K t) := ⟨fun ⟨p, vs, e, _⟩ => by rw [e]; intro z; cases z⟩
theorem nnDic {kk : KK κ} {r : Rp δ} : NN (rDic kk r) := ⟨fun ⟨p, vs, e, _⟩ => by rw [e]; intro z; cases z⟩
theorem hx_opt {r : Rp δ} {m : SM ς δ} (n : NN r) (h : HX X C e as O m (VP.at w r)) : HX X C e as O (SM.map1 some m) (VP.at w (rOpt r)) := ⟨pe_weak h.pe fun σ H Q ⟨s, S, st, sl, ow, q⟩ =>
  ⟨s, S, st, sl, ow, R.post_mono (R.post_bind.mp q) (fun z k _ v S' H' l' st' ow' pv => k () v S' H' l' st' ow' ⟨n.nn pv, pv⟩) fun _ z => xq_le z⟩⟩
end
end Y

/-! Y: ranges downwards, zip, reversed. -/
namespace Y
open PySem PySem.Spec PyProof.Rows L2
section
variable {ς α β γ δ κ μ ρ π τ π0 : Type} {X : Cx} {C : Cf} {as : SA} {O : ς → OS} {a b c e elt tg iter : Expr} {es : List Expr} {pos p apos px : Pos} {w w1 w2 : Bool} {kn k : Nat}
def downL (lo hi : Int) : List Int := (List.range (lo - hi).toNat).map fun (k : Nat) => lo - (k : Int)
theorem downL_len {lo hi : Int} : (downL lo hi).length = (lo - hi).toNat := by unfold downL; rw [List.length_map, List.length_range]
theorem downL_get {lo hi : Int} {i : Nat} {a : Int} (h : (downL lo hi)[i]? = some a) : i < (lo - hi).toNat ∧ a = lo - (i : Int) := by
  have hi' := (List.getElem?_eq_some_iff.mp h).1
  rw [downL_len] at hi'
  refine ⟨hi', ?_⟩
  unfold downL at h
  rw [List.getElem?_map, List.getElem?_range hi'] at h
  exact (Option.some.inj h).symm
theorem itc_down {S0 : Sv} {lo hi : Int} {n : Nat} (hn : n = (lo - hi).toNat) : ItC C S0 (Itc lo (-1) n) (downL lo hi) (VP.at true rInt) where
  go := fun i S H l st h => by rw [downL_len] at h; show i < n; omega
  yld := fun i a S H x H' l st h hy => by
    obtain ⟨e1, e2⟩ := hy
    subst e1
    obtain ⟨_, e3⟩ := downL_get h
    exact ⟨S, .refl S, st, fun _ h => h, by show x = V.int a; rw [e2, e3]; congr 1; omega⟩
  stop := fun i S H l st h => by rw [downL_len] at h; show n ≤ i; omega
def rngD (z : Int × Int × Int) : R (List Int) := (R.guard (z.2.2 = -1 ∧ -(2 ^ 62) ≤ z.1 ∧ z.1 < 2 ^ 62 ∧ -(2 ^ 62) ≤ z.2.1 ∧ z.2.1 < 2 ^ 62)).bind fun _ => .ok (downL z.1 z.2.1)
theorem hi_down {m : SM ς (Int × Int × Int)} {w3 : Bool} (hm : X.mg "range" = none) (ha : HA X C [a, b, c] as O m (fun z => [VP.at w1 rInt z.1, VP.at w2 rInt z.2.1, VP.at w3 rInt z.2.2])) (hg : Gl X "range" := by rfl)
    (hs : starEach [a, b, c] X.env = (false, eval a X.env) :: starEach [b, c] X.env := by rfl) (hpl : (backTo pos (starEach [b, c] X.env)).any (·.1) = false := by rfl) : HI X C tg (.Call (.Name "range" p) [a, b, c] [] pos) as O (SM.bnd1 rngD m) (VP.at true rInt) :=
  ⟨pi_weak (pi_range3 hg hm ha.pa hs hpl) fun σ H U ⟨s, S, st, sl, ow, q⟩ =>
  ⟨s, S, st, sl, ow, R.post_mono (R.post_bind.mp q) (fun z k vs S' H' l' st' ow' pv => by
    match vs, pv with
    | [v, u, t], pv =>
      have e1 : v = .int z.1.1 := pv.1
      have e2 : u = .int z.1.2.1 := pv.2.1
      have e3 : t = .int z.1.2.2 := pv.2.2.1
      subst e1; subst e2; subst e3
      obtain ⟨hb, k⟩ := R.guard_post.mp (R.post_bind.mp (R.post_bind.mp k))
      obtain ⟨h1, h2, h3, h4, h5⟩ := hb
      refine ⟨z.1.1, z.1.2.1, z.1.2.2, _, rfl, by rw [h1]; exact RgC.neg h2 h3 h4 h5, ?_⟩
      rw [h1]
      exact k _ S' H' l' st' ow' (itc_down rfl)) fun _ z => xq_le z⟩⟩
/-- zip of two lists -/
theorem itc_zip {K : PySem.W.Frag} {r : Rp α} {r' : Rp β} {S0 : Sv} {p p' : Addr} {vs us : List V} {xs : List α} {ys : List β} (h1 : SqL K (S0.at w) p vs) (h2 : A2 r (S0.at w) xs vs) (g1 : SqL K (S0.at w) p' us) (g2 : A2 r' (S0.at w) ys us) : ItC C S0 (Itz K p p') (xs.zip ys) (VP.at w (rTup K (RT.cons r (RT.one r')))) where
  go := fun i S H l st hi => by
    rw [List.length_zip] at hi
    obtain ⟨v, hv, _⟩ := h2.get (List.getElem?_eq_getElem (show i < xs.length by omega))
    obtain ⟨u, hu, _⟩ := g2.get (List.getElem?_eq_getElem (show i < ys.length by omega))
    exact ⟨vs, us, v, u, (st.atH w).seq ((l.at w).seq h1), (st.atH w).seq ((l.at w).seq g1), hv, hu⟩
  yld := fun i a S H x H' l st hi hy => by
    obtain ⟨T, v', u', e1, nT, e2, f, f'⟩ := hy
    subst e1; subst e2
    rw [List.getElem?_zip_eq_some] at hi
    obtain ⟨hx, hy'⟩ := hi
    obtain ⟨v, hv, hr⟩ := h2.get hx
    obtain ⟨u, hu, hr'⟩ := g2.get hy'
    have e3 := f vs ((st.atH w).seq ((l.at w).seq h1))
    have e4 := f' us ((st.atH w).seq ((l.at w).seq g1))
    rw [hv] at e3
    rw [hu] at e4
    have e3 : v = v' := Option.some.inj e3
    have e4 : u = u' := Option.some.inj e4
    subst e3; subst e4
    have l2 : S.le (S.add T (.tup [v, u])) := st.leF nT
    exact ⟨S.add T (.tup [v, u]), l2, st.newF nT, fun os h => h.newF st nT, ⟨T, _, rfl, .inl (.inl (Sv.add_at w)), _, _, rfl, r.mono ((l.trans l2).at w) hr, _, rfl, r'.mono ((l.trans l2).at w) hr'⟩⟩
  stop := fun i S H l st hi => ⟨vs, us, (st.atH w).seq ((l.at w).seq h1), (st.atH w).seq ((l.at w).seq g1), by
    rw [List.length_zip] at hi
    rw [← h2.length, ← g2.length]; omega⟩
theorem hi_zip {r : Rp α} {r' : Rp β} {m : SM ς (List α × List β)} {elts : List Expr} {kk : Nat} {tpos : Pos} (hm : X.mg "zip" = none) (ha : HA X C [a, b] as O m (fun z => [VP.at w (rLst X.K r) z.1, VP.at w (rLst X.K r') z.2])) (hg : Gl X "zip" := by rfl)
    (hs : starEach [a, b] X.env = (false, eval a X.env) :: starEach [b] X.env := by rfl) (hpl : (backTo pos (starEach [b] X.env)).any (·.1) = false := by rfl) :
    HI X C (.Tuple elts kk tpos) (.Call (.Name "zip" p) [a, b] [] pos) as O (SM.map1 (fun z => z.1.zip z.2) m) (VP.at w (rTup X.K (RT.cons r (RT.one r')))) :=
  ⟨pi_weak (pi_zip hg hm ha.pa hs hpl) fun σ H U ⟨s, S, st, sl, ow, q⟩ =>
  ⟨s, S, st, sl, ow, R.post_mono (R.post_bind.mp q) (fun z k vs S' H' l' st' ow' pv => by
    obtain ⟨v, u, e1, p1, p2⟩ := av2 pv
    subst e1
    have p1 : ∃ p ws, v = .ref p ∧ SqL X.K (S'.at w) p ws ∧ A2 r (S'.at w) z.1.1 ws := p1
    have p2 : ∃ p ws, u = .ref p ∧ SqL X.K (S'.at w) p ws ∧ A2 r' (S'.at w) z.1.2 ws := p2
    obtain ⟨q1, ws, e1, h1, h2⟩ := p1
    obtain ⟨q2, us, e2, g1, g2⟩ := p2
    subst e1; subst e2
    exact ⟨q1, q2, ws, us, rfl, (st'.atH w).seq h1, (st'.atH w).seq g1, k _ S' H' l' st' ow' (itc_zip h1 h2 g1 g2)⟩) fun _ z => xq_le z⟩⟩
theorem itc_rev {K : PySem.W.Frag} {r : Rp α} {S0 : Sv} {p : Addr} {vs : List V} {xs : List α} (h1 : SqL K (S0.at w) p vs) (h2 : A2 r (S0.at w) xs vs) : ItC C S0 (Itv K p vs.length) xs.reverse (VP.at w r) where
  go := fun i S H l st hi => by
    rw [List.length_reverse, h2.length] at hi
    exact ⟨hi, vs, vs[vs.length - 1 - i], (st.atH w).seq ((l.at w).seq h1), List.getElem?_eq_getElem (by omega)⟩
  yld := fun i a S H x H' l st hi hy => by
    obtain ⟨e, f⟩ := hy
    subst e
    have hl := (List.getElem?_eq_some_iff.mp hi).1
    rw [List.length_reverse] at hl
    rw [List.getElem?_reverse hl] at hi
    obtain ⟨v, hv, hr⟩ := h2.get hi
    have e2 := f vs ((st.atH w).seq ((l.at w).seq h1))
    rw [← h2.length, hv] at e2
    cases e2
    exact ⟨S, .refl S, st, fun _ h => h, r.mono (l.at w) hr⟩
  stop := fun i S H l st hi => by
    rw [List.length_reverse, h2.length] at hi
    exact hi
theorem hi_rev {r : Rp α} {m : SM ς (List α)} (hm : X.mg "reversed" = none) (ha : HX X C a as O m (VP.at w (rLst X.K r))) (hg : Gl X "reversed" := by rfl) (hs1 : starEach [a] X.env = (false, eval a X.env) :: starEach [] X.env := by rfl) (hs : starEach [a] X.env = [(false, eval a X.env)] := by rfl) :
    HI X C tg (.Call (.Name "reversed" p) [a] [] pos) as O (SM.map1 List.reverse m) (VP.at w r) :=
  ⟨pi_weak (pi_reversed hg hm (ha_one ha hs1).pa hs) fun σ H U ⟨s, S, st, sl, ow, q⟩ =>
  ⟨s, S, st, sl, ow, R.post_mono (R.post_bind.mp q) (fun z k vs S' H' l' st' ow' pv => by
    obtain ⟨v, e1, p1⟩ := av1 pv
    subst e1
    have p2 : ∃ p ws, v = .ref p ∧ SqL X.K (S'.at w) p ws ∧ A2 r (S'.at w) z.1 ws := p1
    obtain ⟨p, ws, ee, h1, h2⟩ := p2
    subst ee
    exact ⟨p, ws, rfl, (st'.atH w).seq h1, k _ S' H' l' st' ow' (itc_rev h1 h2)⟩) fun _ z => xq_le z⟩⟩
end
end Y

/-! Y: lists of owned lists. -/
namespace Y
open PySem PySem.Spec PyProof.Rows L2

/-! ### several objects kept as they are -/
def KPs (B : Bs) : List (Addr × HO) → Bs
  | [] => B
  | e :: l => (KPs B l).kpp e.1 e.2
section
variable {B : Bs} {S : Sv} {H : Hp} {us : OS}
theorem kps_kp : ∀ {l : List (Addr × HO)} {a : Addr}, (∀ e ∈ l, e.1 ≠ a) → (KPs B l).kp a = B.kp a
  | [], _, _ => rfl
  | e :: l, a, h => by
    show upd (KPs B l).kp e.1 e.2 a = _
    rw [upd_ne (fun z => h e List.mem_cons_self z.symm)]
    exact kps_kp fun e m => h e (List.mem_cons_of_mem _ m)
theorem kps_ok : ∀ {l : List (Addr × HO)}, (∀ e ∈ l, S.y e.1 = none ∧ H e.1 = some e.2) → StOk B S H → StOk (KPs B l) S H
  | [], _, st => st
  | e :: l, h, st => kp_ok (kps_ok (fun e m => h e (List.mem_cons_of_mem _ m)) st) (h e List.mem_cons_self).1 (h e List.mem_cons_self).2
theorem kps_un : ∀ {l : List (Addr × HO)}, (l.map (·.1)).Nodup → (∀ e ∈ l, B.kp e.1 = none) → StOk (KPs B l) S H → StOk B S H ∧ ∀ e ∈ l, S.y e.1 = none ∧ H e.1 = some e.2
  | [], _, _, st => ⟨st, fun _ m => by cases m⟩
  | e :: l, hn, hk, st => by
    rw [List.map_cons, List.nodup_cons] at hn
    have ne : ∀ u ∈ l, u.1 ≠ e.1 := fun u m z => hn.1 (List.mem_map.mpr ⟨u, m, z⟩)
    obtain ⟨st1, h1, h2⟩ := kp_un (by rw [kps_kp ne]; exact hk e List.mem_cons_self) st
    obtain ⟨st2, h3⟩ := kps_un hn.2 (fun u m => hk u (List.mem_cons_of_mem _ m)) st1
    refine ⟨st2, fun u m => ?_⟩
    rcases List.mem_cons.mp m with z | z
    · subst z; exact ⟨h1, h2⟩
    · exact h3 u z
theorem kps_ow : ∀ {l : List (Addr × HO)}, OwL B S H us → (∀ e ∈ us, ∀ u ∈ l, e.p ≠ u.1) → OwL (KPs B l) S H us
  | [], h, _ => h
  | e :: l, h, n => kp_ow (kps_ow h fun x m u mu => n x m u (List.mem_cons_of_mem _ mu)) fun x m => n x m e List.mem_cons_self
theorem kps_uw : ∀ {l : List (Addr × HO)}, OwL (KPs B l) S H us → OwL B S H us ∧ ∀ e ∈ us, ∀ u ∈ l, e.p ≠ u.1
  | [], h => ⟨h, fun _ _ _ m => by cases m⟩
  | e :: l, h => by
    obtain ⟨h1, h2⟩ := kp_uw h
    obtain ⟨h3, h4⟩ := kps_uw h1
    refine ⟨h3, fun x m u mu => ?_⟩
    rcases List.mem_cons.mp mu with z | z
    · subst z; exact h2 x m
    · exact h4 x m u z
end
/-- pointers -/
def rPtr : Rp Addr := ⟨fun p v _ => v = .ref p, fun _ h => h⟩
/-- a row of pointers, so many -/
def cPs (ps : List Addr) (n : Nat) : Ct := ⟨fun o _ => o = .lst (ps.map V.ref) ∧ ps.length = n, fun _ h => h⟩
/-- a group of owned things -/
def grp {α : Type} (ct : α → Ct) (ps : List Addr) (xs : List α) : OS := List.zipWith (fun p x => ⟨p, ct x, true⟩) ps xs
theorem grp_mem {α : Type} {ct : α → Ct} : ∀ {ps : List Addr} {xs : List α} {e : OE}, e ∈ grp ct ps xs → e.p ∈ ps ∧ e.f = true
  | p :: ps, x :: xs, e, h => by
    rcases List.mem_cons.mp (show e ∈ (⟨p, ct x, true⟩ : OE) :: grp ct ps xs from h) with z | z
    · subst z; exact ⟨List.mem_cons_self, rfl⟩
    · obtain ⟨h1, h2⟩ := grp_mem z
      exact ⟨List.mem_cons_of_mem _ h1, h2⟩
  | [], _, _, h => by unfold grp at h; simp at h
  | _ :: _, [], _, h => by unfold grp at h; simp at h
section
variable {α : Type} {ct : α → Ct} {B B' : Bs} {S S' : Sv} {H H' : Hp}
/-- a group and its objects -/
def G3 (ct : α → Ct) (B : Bs) (S : Sv) (H : Hp) : List Addr → List α → List HO → Prop
  | [], [], [] => True
  | p :: ps, x :: xs, o :: os => S.y p = none ∧ H p = some o ∧ (ct x).c o S.g ∧ B.h p = none ∧ B.kp p = none ∧ (∀ q ∈ ps, q ≠ p) ∧ G3 ct B S H ps xs os
  | _, _, _ => False
theorem g3_of : ∀ {ps : List Addr} {xs : List α}, ps.length = xs.length → OwL B S H (grp ct ps xs) → ∃ os, G3 ct B S H ps xs os
  | [], [], _, _ => ⟨[], trivial⟩
  | p :: ps, x :: xs, hl, h => by
    have h : OwL B S H ((⟨p, ct x, true⟩ : OE) :: grp ct ps xs) := h
    obtain ⟨h1, ⟨o, h2, h3⟩, h4, h5, h6⟩ := h
    have hl' : ps.length = xs.length := by simpa using hl
    obtain ⟨os, hos⟩ := g3_of hl' h6
    refine ⟨o :: os, h1, h2, h3, h4.1 rfl, h4.2, fun q m => ?_, hos⟩
    obtain ⟨i, hi, e⟩ := List.mem_iff_getElem.mp m
    have hix : i < xs.length := by omega
    have mg : (⟨q, ct xs[i], true⟩ : OE) ∈ grp ct ps xs := by
      unfold grp
      rw [List.mem_iff_getElem]
      refine ⟨i, by rw [List.length_zipWith]; omega, ?_⟩
      rw [List.getElem_zipWith, e]
    exact h5 _ mg
  | [], _ :: _, hl, _ => by simp at hl
  | _ :: _, [], hl, _ => by simp at hl
theorem G3.len : ∀ {ps : List Addr} {xs : List α} {os : List HO}, G3 ct B S H ps xs os → ps.length = xs.length ∧ os.length = ps.length
  | [], [], [], _ => ⟨rfl, rfl⟩
  | _ :: _, _ :: _, _ :: _, h => by
    obtain ⟨h1, h2⟩ := G3.len h.2.2.2.2.2.2
    exact ⟨congrArg (· + 1) h1, congrArg (· + 1) h2⟩
  | [], [], _ :: _, h => h.elim
  | [], _ :: _, [], h => h.elim
  | [], _ :: _, _ :: _, h => h.elim
  | _ :: _, [], [], h => h.elim
  | _ :: _, [], _ :: _, h => h.elim
  | _ :: _, _ :: _, [], h => h.elim
theorem g3_ow : ∀ {ps : List Addr} {xs : List α} {os : List HO}, G3 ct B S H ps xs os → OwL B S H (grp ct ps xs)
  | [], [], [], _ => trivial
  | p :: ps, x :: xs, o :: os, h => ⟨h.1, ⟨o, h.2.1, h.2.2.1⟩, ⟨fun _ => h.2.2.2.1, h.2.2.2.2.1⟩, fun u m => h.2.2.2.2.2.1 u.p (grp_mem m).1, g3_ow h.2.2.2.2.2.2⟩
  | [], [], _ :: _, h => h.elim
  | [], _ :: _, [], h => h.elim
  | [], _ :: _, _ :: _, h => h.elim
  | _ :: _, [], [], h => h.elim
  | _ :: _, [], _ :: _, h => h.elim
  | _ :: _, _ :: _, [], h => h.elim
theorem G3.at : ∀ {ps : List Addr} {xs : List α} {os : List HO}, G3 ct B S H ps xs os → ∀ e ∈ ps.zip os, S.y e.1 = none ∧ H e.1 = some e.2 ∧ B.kp e.1 = none
  | [], [], [], _, _, m => by cases m
  | p :: ps, x :: xs, o :: os, h, e, m => by
    rcases List.mem_cons.mp (show e ∈ (p, o) :: ps.zip os from m) with z | z
    · subst z; exact ⟨h.1, h.2.1, h.2.2.2.2.1⟩
    · exact G3.at h.2.2.2.2.2.2 e z
  | [], [], _ :: _, h, _, _ => h.elim
  | [], _ :: _, [], h, _, _ => h.elim
  | [], _ :: _, _ :: _, h, _, _ => h.elim
  | _ :: _, [], [], h, _, _ => h.elim
  | _ :: _, [], _ :: _, h, _, _ => h.elim
  | _ :: _, _ :: _, [], h, _, _ => h.elim
theorem G3.move : ∀ {ps : List Addr} {xs : List α} {os : List HO}, G3 ct B S H ps xs os → S.le S' → (∀ e ∈ ps.zip os, S'.y e.1 = none ∧ H' e.1 = some e.2) → G3 ct B S' H' ps xs os
  | [], [], [], _, _, _ => trivial
  | p :: ps, x :: xs, o :: os, h, l, k => by
    obtain ⟨k1, k2⟩ := k (p, o) (show (p, o) ∈ (p, o) :: ps.zip os from List.mem_cons_self)
    exact ⟨k1, k2, (ct x).mono l.g h.2.2.1, h.2.2.2.1, h.2.2.2.2.1, h.2.2.2.2.2.1, G3.move h.2.2.2.2.2.2 l fun e m => k e (show e ∈ (p, o) :: ps.zip os from List.mem_cons_of_mem _ m)⟩
  | [], [], _ :: _, h, _, _ => h.elim
  | [], _ :: _, [], h, _, _ => h.elim
  | [], _ :: _, _ :: _, h, _, _ => h.elim
  | _ :: _, [], [], h, _, _ => h.elim
  | _ :: _, [], _ :: _, h, _, _ => h.elim
  | _ :: _, _ :: _, [], h, _, _ => h.elim
theorem G3.nodup : ∀ {ps : List Addr} {xs : List α} {os : List HO}, G3 ct B S H ps xs os → ps.Nodup
  | [], [], [], _ => .nil
  | p :: ps, x :: xs, o :: os, h => List.nodup_cons.mpr ⟨fun m => h.2.2.2.2.2.1 p m rfl, G3.nodup h.2.2.2.2.2.2⟩
  | [], [], _ :: _, h => h.elim
  | [], _ :: _, [], h => h.elim
  | [], _ :: _, _ :: _, h => h.elim
  | _ :: _, [], [], h => h.elim
  | _ :: _, [], _ :: _, h => h.elim
  | _ :: _, _ :: _, [], h => h.elim
theorem grp_snoc {p : Addr} {x : α} : ∀ {ps : List Addr} {xs : List α}, ps.length = xs.length → grp ct (ps ++ [p]) (xs ++ [x]) = grp ct ps xs ++ [⟨p, ct x, true⟩]
  | [], [], _ => rfl
  | q :: ps, y :: xs, h => by
    have h' : ps.length = xs.length := by simpa using h
    show (⟨q, ct y, true⟩ : OE) :: grp ct (ps ++ [p]) (xs ++ [x]) = _
    rw [grp_snoc h']; rfl
  | [], _ :: _, h => by simp at h
  | _ :: _, [], h => by simp at h
end
end Y

/-! Y: a comprehension whose items are new owned things. -/
namespace Y
open PySem PySem.Spec PyProof.Rows L2
section
variable {ς α β γ μ ρ π τ : Type} {X : Cx} {C : Cf} {as : SA} {O : ς → OS} {a b c e elt tg iter : Expr} {es : List Expr} {pos p : Pos} {w w1 w2 : Bool} {kn : Nat}
structure Lcq (X : Cx) (C : Cf) (elt tg iter : Expr) (ifs : List Expr) (scope : Scope) (own : List (Str × Nat)) (as : SA) (O : ς → OS) (m : SM ς (List α)) (t : α → SM ς Bool) (f : α → SM ς β) (ct : β → Ct) : Prop where
  x : ∃ (P : α → VP) (ts : List Nat) (asT : α → SA), HI X C tg iter as O m P ∧ BlkOk X.N X.env.scope scope own ∧ (∀ j ∈ ts, j ∈ own.map (·.2)) ∧
    (∀ (s : Shared) (H : Hp) (cl : List (Str × Addr)) (A : Addr) (fp : List Addr) (B : Bs) (x : α), HTg (blkX X s H scope cl A fp) (C.blk B) tg (wipeA as (own.map (·.2))) (P x) ts (asT x)) ∧
    (∀ (s : Shared) (H : Hp) (cl : List (Str × Addr)) (A : Addr) (fp : List Addr) (B : Bs) (x : α), HTs (blkX X s H scope cl A fp) (C.blk B) ifs (asT x) O (t x)) ∧
    (∀ (s : Shared) (H : Hp) (cl : List (Str × Addr)) (A : Addr) (fp : List Addr) (B : Bs) (x : α), HN (blkX X s H scope cl A fp) (C.blk B) elt (asT x) O (f x) ct)
abbrev nwG (ct : β → Ct) : List β → Addr × List Addr → OS := fun a q => ⟨q.1, cPs q.2 a.length, true⟩ :: grp ct q.2 a
theorem lcq_read {m : SM ς (List α)} {t : α → SM ς Bool} {f : α → SM ς β} {ct : β → Ct} {P : α → VP} {ts vs : List Nat} {asT : α → SA} (hts : ∀ j ∈ ts, j ∈ vs) {σ : L2.St} {H : Hp} {Q : VK}
    (h : tG (π := Addr × List Addr) C as O (SM.lc m t f) (fun _ q => VP.ptr q.1) (nwG ct) σ H Q) :
    tLc (tI C as O m P) (fun v σ H Q => ∃ Bx : Bs × α, tTg (C.blk Bx.1) (wipeA as vs) (P Bx.2) ts (asT Bx.2) v σ H Q) (fun σ H Q => ∃ Bx : Bs × α, tT (C.blk Bx.1) (asT Bx.2) O (t Bx.2) σ H Q) (fun σ H Q => ∃ Bx : Bs × α, tG (π := Addr) (C.blk Bx.1) (asT Bx.2) O (f Bx.2) (fun _ p => VP.ptr p) (fun a p => [⟨p, ct a, true⟩]) σ H Q) vs σ H Q := by
  obtain ⟨s, S, st, sl, ow, q⟩ := h
  refine ⟨s, S, st, sl, ow, R.post_mono (R.post_bind.mp q) (fun z k J S0 H0 l0 st0 ow0 it D hD => ?_) fun _ z => xq_le z⟩
  let fin : List β × ς → Prop := fun z => ∀ (q : Addr × List Addr) (v : V) (S' : Sv) (H' : Hp), S.le S' → StOk C.B S' H' → OwL C.B S' H' (nwG ct z.1 q ++ O z.2) → (VP.ptr q.1).p v S' → Q v H'
  refine ⟨fun i n H1 => ∃ ys ps s1 S1, n = z.1.length - i ∧ ps.length = ys.length ∧ S0.le S1 ∧ StOk C.B S1 H1 ∧ OwL C.B S1 H1 (nwG ct ys (D, ps) ++ O s1) ∧ (lcS t f (z.1.drop i) ys s1).post fin (C.xq S),
    ⟨z.1.length - 0, [], [], z.2, S0, rfl, rfl, .refl _, st0.grow hD, ow0.new st0 hD ⟨rfl, rfl⟩, k⟩, ?_⟩
  rintro i n H1 ⟨ys, ps, s1, S1, en, epl, l1, st1, ow1, q1⟩
  by_cases hi : i < z.1.length
  · refine .inr ⟨it.go i S1 H1 l1 st1 hi, fun H2 => ∃ ys ps s2 S2, ps.length = ys.length ∧ S0.le S2 ∧ StOk C.B S2 H2 ∧ OwL C.B S2 H2 (nwG ct ys (D, ps) ++ O s2) ∧ (lcS t f (z.1.drop (i + 1)) ys s2).post fin (C.xq S), ?_, ?_⟩
    · rintro H2 ⟨ys, ps, s2, S2, epl, l2, st2, ow2, q2⟩
      exact ⟨n - 1, by omega, ys, ps, s2, S2, by omega, epl, l2, st2, ow2, q2⟩
    · intro x H2 hy
      obtain ⟨S2, l2, st2, ow2, p2⟩ := it.yld i z.1[i] S1 H1 x H2 l1 st1 (List.getElem?_eq_getElem hi) hy
      have l02 := l1.trans l2
      have sl2 := ((sl.mono l0).mono l02).wipe vs
      have full2 : OwL C.B S2 H2 ((⟨D, cPs ps ys.length, true⟩ : OE) :: (grp ct ps ys ++ O s1)) := ow2 _ ow1
      obtain ⟨hDy, ⟨ob, hDo, hob⟩, ⟨hDf, hDk⟩, hDn, ow'⟩ := full2
      have eo : ob = .lst (ps.map V.ref) := hob.1
      subst eo
      have hDy : S2.y D = none := hDy
      have hDo : H2 D = some (.lst (ps.map V.ref)) := hDo
      have hDk : C.B.kp D = none := hDk
      have owG := ow'.left
      have owO := ow'.right
      have sepGO := ow'.sep
      obtain ⟨os, g3⟩ := g3_of epl owG
      have hosl := g3.len.2
      have mapz : (ps.zip os).map (·.1) = ps := List.map_fst_zip (by omega)
      have inz : ∀ e ∈ ps.zip os, e.1 ∈ ps := fun e m => by rw [← mapz]; exact List.mem_map.mpr ⟨e, m, rfl⟩
      have ofz : ∀ a ∈ ps, ∃ e ∈ ps.zip os, e.1 = a := fun a m => by rw [← mapz] at m; exact List.mem_map.mp m
      have grpIn : ∀ a ∈ ps, ∃ e ∈ grp ct ps ys, e.p = a := fun a m => by
        obtain ⟨j, hj, ej⟩ := List.mem_iff_getElem.mp m
        refine ⟨⟨a, ct ys[j], true⟩, ?_, rfl⟩
        unfold grp
        rw [List.mem_iff_getElem]
        refine ⟨j, by rw [List.length_zipWith]; omega, ?_⟩
        rw [List.getElem_zipWith, ej]
      have hDps : D ∉ ps := fun m => by
        obtain ⟨e, me, ee⟩ := grpIn D m
        exact hDn e (List.mem_append_left _ me) ee
      let kl : List (Addr × HO) := (D, .lst (ps.map V.ref)) :: ps.zip os
      have nd : (kl.map (·.1)).Nodup := by
        show (D :: (ps.zip os).map (·.1)).Nodup
        rw [mapz]
        exact List.nodup_cons.mpr ⟨hDps, g3.nodup⟩
      have hkk : ∀ e ∈ kl, S2.y e.1 = none ∧ H2 e.1 = some e.2 := fun e m => by
        rcases List.mem_cons.mp m with z | z
        · subst z; exact ⟨hDy, hDo⟩
        · exact ⟨(g3.at e z).1, (g3.at e z).2.1⟩
      have kpn : ∀ e ∈ kl, C.B.kp e.1 = none := fun e m => by
        rcases List.mem_cons.mp m with z | z
        · subst z; exact hDk
        · exact (g3.at e z).2.2
      have owOk : OwL (KPs C.B kl) S2 H2 (O s1) := kps_ow owO fun e m u mu => by
        rcases List.mem_cons.mp mu with z | z
        · subst z; exact hDn e (List.mem_append_right _ m)
        · obtain ⟨g, mg, eg⟩ := grpIn u.1 (inz u z)
          rw [← eg]; exact sepGO g mg e m
      -- what is owned again behind the item
      have again : ∀ {S4 : Sv} {H4 : Hp} {us : OS}, S2.le S4 → StOk (KPs C.B kl) S4 H4 → OwL (KPs C.B kl) S4 H4 us → StOk C.B S4 H4 ∧ S4.y D = none ∧ H4 D = some (.lst (ps.map V.ref)) ∧ OwL C.B S4 H4 ((⟨D, cPs ps ys.length, true⟩ : OE) :: (grp ct ps ys ++ us)) := fun {S4 H4 us} l st4 ow4 => by
        obtain ⟨st4', k4⟩ := kps_un nd kpn st4
        obtain ⟨ow4', n4⟩ := kps_uw ow4
        have g4 : G3 ct C.B S4 H4 ps ys os := g3.move l fun e m => k4 e (List.mem_cons_of_mem _ m)
        have kD := k4 (D, .lst (ps.map V.ref)) List.mem_cons_self
        refine ⟨st4', kD.1, kD.2, kD.1, ⟨_, kD.2, rfl, epl⟩, ⟨hDf, hDk⟩, fun u m => ?_, (g3_ow g4).app ow4' fun e me u mu => ?_⟩
        · rcases List.mem_append.mp m with z | z
          · intro e
            have e : u.p = D := e
            exact hDps (by rw [← e]; exact (grp_mem z).1)
          · exact n4 u z _ List.mem_cons_self
        · obtain ⟨k, mk, ek⟩ := ofz e.p (grp_mem me).1
          rw [← ek]
          exact n4 u mu k (List.mem_cons_of_mem _ mk)
      refine ⟨(KPs C.B kl, z.1[i]), S2, kps_ok hkk st2, sl2, p2, fun σ3 sl3 hl3 he3 => ⟨?_, ?_⟩⟩
      · refine wipe_eq (by rw [hl3, wipe_length]) fun j hj => ?_
        rw [he3 j fun m => hj (hts j m), wipe_get σ vs j hj]
      · rw [List.drop_eq_getElem_cons hi] at q1
        refine ⟨(KPs C.B kl, z.1[i]), s1, S2, kps_ok hkk st2, sl3, owOk, R.calm_post (R.post_mono (R.post_bind.mp q1) (fun b q3 S3 H3 l3 st3 ow3 => ?_) fun _ z => z) _⟩
        by_cases hb : b.1 = true
        · rw [if_pos hb] at q3 ⊢
          refine ⟨(KPs C.B kl, z.1[i]), b.2, S3, st3, sl3.mono l3, ow3, R.calm_post (R.post_mono (R.post_bind.mp q3) (fun y q4 q' v S4 H4 l4 st4 ow4 pv => ?_) fun _ z => z) _⟩
          obtain ⟨st4', hy4, hD4, full⟩ := again (l3.trans l4) st4 ow4
          obtain ⟨hz, q4⟩ := R.guard_post.mp (R.post_bind.mp q4)
          have pv : v = .ref q' := pv
          subst pv
          refine ⟨ps.map V.ref, hD4, by rw [List.length_map, epl, sizeLine_eq]; exact hz, ys ++ [y.1], ps ++ [q'], y.2, S4, by rw [List.length_append, List.length_append, epl]; rfl, (l02.trans l3).trans l4, st4'.put hy4 hDk, ?_, q4⟩
          have f2 := full.put (i := 0) (e := ⟨D, cPs ps ys.length, true⟩) (c := cPs (ps ++ [q']) (ys ++ [y.1]).length) (o := .lst (ps.map V.ref ++ [.ref q'])) rfl ⟨by rw [List.map_append]; rfl, by rw [List.length_append, List.length_append, epl]; rfl⟩
          show OwL C.B S4 _ ((⟨D, cPs (ps ++ [q']) (ys ++ [y.1]).length, true⟩ : OE) :: (grp ct (ps ++ [q']) (ys ++ [y.1]) ++ O y.2))
          rw [grp_snoc epl, List.append_assoc]
          exact f2
        · rw [if_neg hb] at q3 ⊢
          obtain ⟨st3', _, _, full⟩ := again l3 st3 ow3
          exact ⟨ys, ps, b.2, S3, epl, l02.trans l3, st3', full, q3⟩
  · rw [List.drop_eq_nil_of_le (by omega)] at q1
    exact .inl ⟨it.stop i S1 H1 l1 st1 (by omega), q1 (D, ps) (.ref D) S1 H1 (l0.trans l1) st1 ow1 rfl⟩
theorem hg_lcq {ifs : List Expr} {scope : Scope} {own : List (Str × Nat)} {m : SM ς (List α)} {t : α → SM ς Bool} {f : α → SM ς β} {ct : β → Ct} (o : Ok X C kn) (h : Lcq X C elt tg iter ifs scope own as O m t f ct) (hs : ∀ x, foldedSetIterable iter X.env x = pure x := by intro _; rfl) :
    HG (π := Addr × List Addr) X C (.ListComp elt [⟨tg, iter, ifs, 0⟩] scope pos) as O (SM.lc m t f) (fun _ q => VP.ptr q.1) (nwG ct) := by
  obtain ⟨P, ts, asT, hi, ok, hts, hg, ht, he⟩ := h.x
  exact ⟨pe_weak (pe_lc o.calm o.nd hi.pi ok (fun s H A cl fp => pg_ex fun (Bx : Bs × α) => (hg s H cl A fp Bx.1 Bx.2).pg) (fun s H A cl fp => pts_ex fun (Bx : Bs × α) => (ht s H cl A fp Bx.1 Bx.2).pt) (fun s H A cl fp => pe_ex fun (Bx : Bs × α) => (he s H cl A fp Bx.1 Bx.2).pe) hs) fun σ H Q h => lcq_read hts h⟩
end
end Y

/-! Y: lists of owned lists read and frozen. -/
namespace Y
open PySem PySem.Spec PyProof.Rows L2
section
variable {ς α β γ μ ρ π τ : Type} {X : Cx} {C : Cf} {as : SA} {O : ς → OS} {a b c e elt tg iter : Expr} {es : List Expr} {pos p : Pos} {w w1 w2 : Bool} {kn : Nat} {K : PySem.W.Frag}
theorem g3_a2 {B : Bs} {S : Sv} {H : Hp} {r : Rp α} (hg : Ex S.g H) : ∀ {ps : List Addr} {xs : List (List α)} {os : List HO}, G3 (cLst r) B S H ps xs os → A2 (rLst K r) H xs (ps.map V.ref)
  | [], [], [], _ => trivial
  | p :: ps, x :: xs, o :: os, h => by
    obtain ⟨_, h2, ⟨vs, e, hA⟩, _, _, _, h7⟩ := h
    have e : o = .lst vs := e
    subst e
    exact ⟨⟨p, vs, rfl, SqL.of h2, hA.mono hg⟩, g3_a2 hg h7⟩
  | [], [], _ :: _, h => h.elim
  | [], _ :: _, [], h => h.elim
  | [], _ :: _, _ :: _, h => h.elim
  | _ :: _, [], [], h => h.elim
  | _ :: _, [], _ :: _, h => h.elim
  | _ :: _, _ :: _, [], h => h.elim
/-- a list of owned lists as a thing to be read; A: what is owned ahead of it -/
theorem pk_grp {r : Rp α} {q : Addr} {ps : List Addr} {xss : List (List α)} (A B' : OS) : Pk K (A ++ (nwG (cLst r) xss (q, ps) ++ B')) (some (VP.ptr q)) (some (VP.at false (rLst K (rLst K r)) xss)) := .mp fun B S H v st ow pv => by
  have pv : v = .ref q := pv
  subst pv
  have ow1 := ow.right.left
  have ow1 : OwL B S H ((⟨q, cPs ps xss.length, true⟩ : OE) :: grp (cLst r) ps xss) := ow1
  obtain ⟨_, ⟨o, h2, h3⟩, _, _, owG⟩ := ow1
  have e : o = .lst (ps.map V.ref) := h3.1
  subst e
  obtain ⟨os, g3⟩ := g3_of h3.2 owG
  refine ⟨q, ps.map V.ref, rfl, ?_, ?_⟩
  · show SqL K (hide H []) q _
    rw [hide_nil]; exact SqL.of h2
  · show A2 (rLst K r) (hide H []) xss _
    rw [hide_nil]; exact g3_a2 (st.gy.trans st.yh) g3
/-- freezing a group -/
theorem g3_frz {B : Bs} {H : Hp} {r : Rp α} : ∀ {ps : List Addr} {xs : List (List α)} {os : List HO} {S : Sv}, StOk B S H → G3 (cLst r) B S H ps xs os → ∃ S', S.le S' ∧ StOk B S' H ∧ A2 (rLst K r) S'.g xs (ps.map V.ref) ∧ ∀ a, a ∉ ps → S'.y a = S.y a
  | [], [], [], S, st, _ => ⟨S, .refl S, st, trivial, fun _ _ => rfl⟩
  | p :: ps, x :: xs, o :: os, S, st, h => by
    obtain ⟨h1, h2, ⟨vs, e, hA⟩, h4, h5, h6, h7⟩ := h
    have e : o = .lst vs := e
    subst e
    have l1 : S.le (S.add p (.lst vs)) := Sv.le_add h1 (st.gnone h1)
    have st1 := st.frz (o := .lst vs) h1 h4 h5 h2
    have g1 : G3 (cLst r) B (S.add p (.lst vs)) H ps xs os := h7.move l1 fun e m => by
      have ne : e.1 ≠ p := by
        have mm : e.1 ∈ ps := (List.of_mem_zip m).1
        exact h6 _ mm
      refine ⟨?_, (h7.at e m).2.1⟩
      show upd S.y p _ e.1 = none
      rw [upd_ne ne]; exact (h7.at e m).1
    obtain ⟨S', l2, st2, hA2, hy⟩ := g3_frz st1 g1
    refine ⟨S', l1.trans l2, st2, ⟨⟨p, vs, rfl, SqL.of (l2.g p _ upd_same), hA.mono (l1.trans l2).g⟩, hA2⟩, fun a ha => ?_⟩
    rw [hy a (fun m => ha (List.mem_cons_of_mem _ m))]
    show upd S.y p _ a = S.y a
    rw [upd_ne (fun z => ha (by rw [z]; exact List.mem_cons_self))]
  | [], [], _ :: _, _, _, h => h.elim
  | [], _ :: _, [], _, _, h => h.elim
  | [], _ :: _, _ :: _, _, _, h => h.elim
  | _ :: _, [], [], _, _, h => h.elim
  | _ :: _, [], _ :: _, _, _, h => h.elim
  | _ :: _, _ :: _, [], _, _, h => h.elim
/-- a new list of new lists that stays frozen -/
theorem HG.frzG {r : Rp β} {m : SM ς α} {f : α → List (List β)} (h : HG (π := Addr × List Addr) X C e as O m (fun _ q => VP.ptr q.1) (fun a q => nwG (cLst r) (f a) q)) : HX X C e as O m fun a => VP.at true (rLst X.K (rLst X.K r)) (f a) := ⟨pe_weak h.pe fun σ H Q ⟨s, S, st, sl, ow, q⟩ => by
  refine ⟨s, S, st, sl, ow, R.post_mono q (fun z k q v S' H' l st' ow' hv => ?_) fun _ z => xq_le z⟩
  have hv : v = .ref q.1 := hv
  subst hv
  have full : OwL C.B S' H' ((⟨q.1, cPs q.2 (f z.1).length, true⟩ : OE) :: (grp (cLst r) q.2 (f z.1) ++ O z.2)) := ow'
  obtain ⟨h1, ⟨o, h2, h3⟩, h4, h5, h6⟩ := full
  have e : o = .lst (q.2.map V.ref) := h3.1
  subst e
  obtain ⟨os, g3⟩ := g3_of h3.2 h6.left
  obtain ⟨S1, l1, st1, hA, hy⟩ := g3_frz (K := X.K) st' g3
  have grpIn : ∀ a ∈ q.2, ∃ e ∈ grp (cLst r) q.2 (f z.1), e.p = a := fun a m => by
    obtain ⟨j, hj, ej⟩ := List.mem_iff_getElem.mp m
    have := h3.2
    refine ⟨⟨a, cLst r (f z.1)[j], true⟩, ?_, rfl⟩
    unfold grp
    rw [List.mem_iff_getElem]
    refine ⟨j, by rw [List.length_zipWith]; omega, ?_⟩
    rw [List.getElem_zipWith, ej]
  have nq : q.1 ∉ q.2 := fun m => by
    obtain ⟨e, me, ee⟩ := grpIn _ m
    exact h5 e (List.mem_append_left _ me) ee
  have y1 : S1.y q.1 = none := by rw [hy _ nq]; exact h1
  have l2 : S1.le (S1.add q.1 (.lst (q.2.map V.ref))) := Sv.le_add y1 (st1.gnone y1)
  have owO : OwL C.B S1 H' (O z.2) := h6.right.move l1 (fun e m => by
    rw [hy e.p fun mm => by
      obtain ⟨g, mg, eg⟩ := grpIn _ mm
      exact h6.sep g mg e m eg.symm]
    exact (h6.right.mem m).1) (fun _ _ _ z => z) (fun _ _ _ z => z) fun _ _ z => z
  exact k () (.ref q.1) (S1.add q.1 (.lst (q.2.map V.ref))) H' ((l.trans l1).trans l2) (st1.frz y1 (h4.1 rfl) h4.2 h2) (owO.add y1 (st1.gnone y1) fun e m => h5 e (List.mem_append_right _ m)) ⟨q.1, _, rfl, SqL.of upd_same, hA.mono l2.g⟩⟩
end
end Y

/-! Y: methods that change an owned list within a list. -/
namespace Y
open PySem PySem.Spec PyProof.Rows L2
section
variable {ς α β γ δ μ ρ π τ : Type} {X : Cx} {C : Cf} {as : SA} {O : ς → OS} {a b c e elt tg iter : Expr} {es : List Expr} {pos p px apos p2 : Pos} {w w1 w2 : Bool} {kn : Nat} {K : PySem.W.Frag}
theorem grp_get {ct : α → Ct} : ∀ {ps : List Addr} {xs : List α} {j : Nat} {p : Addr} {x : α}, ps[j]? = some p → xs[j]? = some x → (grp ct ps xs)[j]? = some ⟨p, ct x, true⟩ := fun {ps xs j p x} h1 h2 => by
  unfold grp
  rw [List.getElem?_zipWith, h1, h2]
theorem grp_set {ct : α → Ct} {ps : List Addr} {xs : List α} {j : Nat} {p : Addr} {x : α} (h1 : ps[j]? = some p) (h : ps.length = xs.length) : (grp ct ps xs).set j ⟨p, ct x, true⟩ = grp ct ps (xs.set j x) := by
  apply List.ext_getElem?
  intro i
  unfold grp
  by_cases e : j = i
  · subst e
    have hj := (List.getElem?_eq_some_iff.mp h1).1
    rw [List.getElem?_set_self (by rw [List.length_zipWith]; omega), List.getElem?_zipWith, h1, List.getElem?_set_self (by omega)]
  · rw [List.getElem?_set_ne e, List.getElem?_zipWith, List.getElem?_zipWith, List.getElem?_set_ne e]
/-- x[k].m(..): the place of the list of lists among the owned: A ahead of it, B behind -/
theorem hx_mutG {id : String} {name x : Str} {r : V → List V → Hp → VK → Prop} {rp : Rp δ} {Ps : β → List VP} {f : List δ → β → R (γ × List δ)} {P : γ → VP} {ma : SM ς β} {mi : SM ς Int} {q0 : Addr} {ps : List Addr} (slot : Slot "list" name id) (hty : typeOf (.builtin id) = pure (.type "method_descriptor")) (hm : MtR X id r) (hv : OVU r rp Ps f P)
    (i : Nat) (A B' : ς → OS) (sel : ς → List (List δ)) (put : ς → List (List δ) → ς) (hie : HX X C b as O mi (VP.at w rInt)) (ha : HA X C (e :: es) as O ma Ps) (h : as[i]? = some (some (VP.ptr q0)) := by rfl) (hO : ∀ s, O s = A s ++ (nwG (cLst rp) (sel s) (q0, ps) ++ B' s) := by intro _; rfl)
    (hput : ∀ s d, d.length = (sel s).length → A s ++ (nwG (cLst rp) d (q0, ps) ++ B' s) = O (put s d) := by intro _ _ _; rfl)
    (hN : X.N[i]? = some x := by rfl) (hvis : Vis X.env.scope x := by first | exact Or.inl rfl | exact Or.inr (Or.inl rfl) | exact Or.inr (Or.inr rfl)) (hd : (x == ("__debug__" : Str)) = false := by decide) (hcd : (x == ("__classdict__" : Str)) = false := by decide) (hpi : PlainIx b := by exact fun _ _ => rfl)
    (hbase : attributeBase (.Subscript (.Name x px) b p2) name X.env (eval (.Subscript (.Name x px) b p2) X.env) = eval (.Subscript (.Name x px) b p2) X.env := by rfl)
    (hfew : ((backTo pos (starEach (e :: es) X.env)).all (fun x => !x.1) && (backToKw pos (keywordEach [] X.env)).all (fun x => x.1.isSome)
      && decide ((e :: es).length + ([] : List Keyword).length + (if ([] : List Keyword).isEmpty then 0 else 1) < 30)) = true := by rfl)
    (hline : (apos.endLine == pos.line) = true := by rfl) (hs : starEach (e :: es) X.env = (false, eval e X.env) :: starEach es X.env := by rfl) (hplain : (backTo pos (starEach es X.env)).any (·.1) = false := by rfl) :
    HX X C (.Call (.Attribute (.Subscript (.Name x px) b p2) name apos) (e :: es) [] pos) as O (fun s => (mi s).bind fun k => (R.ofO (ixN (sel k.2).length k.1)).bind fun j => (ma k.2).bind fun z => (R.ofO (sel z.2)[j]?).bind fun xs => (f xs z.1).bind fun r => .ok (r.1, put z.2 ((sel z.2).set j r.2))) P :=
  ⟨pe_weak (pe_bm PySem.F.plainAttrs_list slot hty hm (pe_ix ix_list (hx_ptr (O := O) (C := C) (as := as) i h hN hvis hd hcd).pe hie.pe hpi) ha.pa hbase hfew hline hs hplain) fun σ H Q ⟨s, S, st, sl, ow, q⟩ =>
    ⟨s, S, st, sl, ow, fun _ v S0 H0 l0 st0 ow0 p0 => ⟨s, S0, st0, sl.mono l0, ow0, R.post_mono (R.post_bind.mp q) (fun k q1 _ u S1 H1 l1 st1 ow1 pu => by
      have p0 : v = .ref q0 := p0
      have pu : u = .int k.1 := pu
      subst p0; subst pu
      obtain ⟨j, hj, q1⟩ := R.ofO_post.mp (R.post_bind.mp q1)
      have owA : OwL C.B S1 H1 (A k.2 ++ (nwG (cLst rp) (sel k.2) (q0, ps) ++ B' k.2)) := by rw [← hO]; exact ow1
      have owN : OwL C.B S1 H1 ((⟨q0, cPs ps (sel k.2).length, true⟩ : OE) :: grp (cLst rp) ps (sel k.2)) := owA.right.left
      obtain ⟨_, ⟨ob, h2, h3⟩, _, _, owG⟩ := owN
      have eo : ob = .lst (ps.map V.ref) := h3.1
      subst eo
      have hlen : ps.length = (sel k.2).length := h3.2
      have hjl : j < ps.length := by
        have := (ixN_seq hj).2.1
        omega
      have hpj : ps[j]? = some ps[j] := List.getElem?_eq_getElem hjl
      have hat : atI (ps.map V.ref) k.1 = some (V.ref ps[j]) := by
        unfold L2.atI
        rw [List.length_map, hlen, hj]
        show (ps.map V.ref)[j]? = _
        rw [List.getElem?_map, hpj]; rfl
      refine ⟨q0, _, k.1, .ref ps[j], rfl, rfl, SqL.of h2, hat, ?_⟩
      have hxj : (sel k.2)[j]? = some (sel k.2)[j] := List.getElem?_eq_getElem (by omega)
      obtain ⟨_, ⟨o1, g2, vs1, g3, _⟩, _⟩ := owG.get (grp_get hpj hxj)
      have eo1 : o1 = .lst vs1 := g3
      subst eo1
      refine ⟨.inl ⟨rfl, vs1, SqL.of g2⟩, k.2, S1, st1, (sl.mono l0).mono l1, ow1, R.post_mono (R.post_bind.mp q1) (fun z q2 vs S2 H2 l2 st2 ow2 pv => ?_) fun _ z => xq_le z⟩
      obtain ⟨xs, hxs, q2⟩ := R.ofO_post.mp (R.post_bind.mp q2)
      have owA2 : OwL C.B S2 H2 (A z.2 ++ (nwG (cLst rp) (sel z.2) (q0, ps) ++ B' z.2)) := by rw [← hO]; exact ow2
      have owN2 : OwL C.B S2 H2 ((⟨q0, cPs ps (sel z.2).length, true⟩ : OE) :: grp (cLst rp) ps (sel z.2)) := owA2.right.left
      have hlen2 : ps.length = (sel z.2).length := by
        obtain ⟨_, ⟨ob, _, h3⟩, _⟩ := owN2
        exact h3.2
      have hgj := grp_get (ct := cLst rp) hpj hxs
      obtain ⟨hy, ⟨o2, g2', vs2, g3', hA⟩, _, hk⟩ := owN2.2.2.2.2.get hgj
      have eo2 : o2 = .lst vs2 := g3'
      subst eo2
      refine hv xs z.1 ps[j] vs2 vs S2 H2 Q _ g2' hA pv (R.post_mono (R.post_bind.mp q2) (fun y q3 v ws hw pw => ?_) fun _ z => z)
      have idx : (A z.2 ++ (nwG (cLst rp) (sel z.2) (q0, ps) ++ B' z.2))[(A z.2).length + (j + 1)]? = some ⟨ps[j], cLst rp xs, true⟩ := by
        rw [List.getElem?_append_right (by omega), show (A z.2).length + (j + 1) - (A z.2).length = j + 1 by omega]
        show (grp (cLst rp) ps (sel z.2) ++ B' z.2)[j]? = _
        rw [List.getElem?_append_left (List.getElem?_eq_some_iff.mp hgj).1]
        exact hgj
      have put2 := owA2.put (c := cLst rp y.2) idx ⟨ws, rfl, hw⟩
      have eset : (A z.2 ++ (nwG (cLst rp) (sel z.2) (q0, ps) ++ B' z.2)).set ((A z.2).length + (j + 1)) ⟨ps[j], cLst rp y.2, true⟩ = A z.2 ++ (nwG (cLst rp) ((sel z.2).set j y.2) (q0, ps) ++ B' z.2) := by
        rw [List.set_append_right _ _ (by omega), show (A z.2).length + (j + 1) - (A z.2).length = j + 1 by omega]
        congr 1
        show (⟨q0, cPs ps (sel z.2).length, true⟩ : OE) :: (grp (cLst rp) ps (sel z.2) ++ B' z.2).set j _ = _
        rw [List.set_append_left _ _ (List.getElem?_eq_some_iff.mp hgj).1, grp_set hpj hlen2]
        show _ = (⟨q0, cPs ps ((sel z.2).set j y.2).length, true⟩ : OE) :: (grp (cLst rp) ps ((sel z.2).set j y.2) ++ B' z.2)
        rw [List.length_set]
      have put3 : OwL C.B S2 _ ((A z.2 ++ (nwG (cLst rp) (sel z.2) (q0, ps) ++ B' z.2)).set ((A z.2).length + (j + 1)) ⟨ps[j], cLst rp y.2, true⟩) := put2
      rw [eset, hput _ _ (List.length_set ..)] at put3
      exact q3 () v S2 _ ((l0.trans l1).trans l2) (st2.put hy hk) put3 pw) fun _ z => xq_le z⟩⟩⟩
end
end Y

/-! Y: dict.get, chained comparisons, truth of lists. -/
namespace Y
open PySem PySem.Spec PyProof.Rows L2
section
variable {ς α β γ δ κ μ ρ π τ : Type} {X : Cx} {C : Cf} {as : SA} {O : ς → OS} {a b c d e f elt tg iter : Expr} {es : List Expr} {pos p px apos p2 : Pos} {w w1 w2 : Bool} {kn : Nat} {K : PySem.W.Frag}
/-- d.get(k, x) -/
theorem hx_get2 [DecidableEq κ] {kk : KK κ} {r : Rp β} {m : SM ς (List (κ × β))} {mk : SM ς κ} {mx : SM ς β} (o : Ok X C kn) (ha : HX X C a as O m (VP.at w (rDic kk r))) (hb : HX X C b as O mk (VP.at w1 kk.rp)) (hc : HX X C c as O mx (VP.at w r)) (mm : M2 X a "get" apos b c pos) :
    HX X C (.Call (.Attribute a "get" apos) [b, c] [] pos) as O (SM.map3 (fun d k x => (dget d k).getD x) m mk mx) (VP.at w r) := ⟨pe_weak (pe_dget2 o.hu ha.pe hb.pe hc.pe mm) fun σ H Q ⟨s, S, st, sl, ow, q⟩ =>
  ⟨s, S, st, sl, ow, R.post_mono (R.post_bind.mp q) (fun z k _ v S1 H1 l1 st1 ow1 pv => by
    obtain ⟨p, kvs, e1, hp, hA⟩ := pv
    refine ⟨p, e1, .inl ⟨kvs, .inl (st1.atH w _ _ hp)⟩, z.2, S1, st1, sl.mono l1, ow1, R.post_mono (R.post_bind.mp k) (fun y k2 _ u S2 H2 l2 st2 ow2 pu => ?_) fun _ z => xq_le z⟩
    refine ⟨y.2, S2, st2, (sl.mono l1).mono l2, ow2, R.post_mono (R.post_bind.mp k2) (fun t k3 _ u3 S3 H3 l3 st3 ow3 p3 => ?_) fun _ z => xq_le z⟩
    have l13 := l2.trans l3
    have hA3 : AD kk.k r (S3.at w) z.1 kvs := hA.mono (l13.at w)
    have hp3 : H3 p = some (.dK kvs) := st3.atH w _ _ ((l13.at w) _ _ hp)
    have pu := kk.law pu
    subst pu
    refine ⟨valV kvs (kk.k y.1), .k hp3, ?_⟩
    have hv := hA3.val kk.inj y.1
    cases q4 : dget z.1 y.1 with
    | none =>
      rw [q4] at hv
      rw [hv]
      refine k3 () u3 S3 H3 (l1.trans l13) st3 ow3 ?_
      show r.rep ((dget z.1 y.1).getD t.1) u3 _
      rw [q4]; exact p3
    | some x =>
      rw [q4] at hv
      obtain ⟨v', hv, hr⟩ := hv
      rw [hv]
      refine k3 () v' S3 H3 (l1.trans l13) st3 ow3 ?_
      show r.rep ((dget z.1 y.1).getD t.1) v' _
      rw [q4]; exact hr) fun _ z => xq_le z⟩⟩
end
end Y

/-! Y: chained comparisons of whole numbers. -/
namespace Y
open PySem PySem.Spec PyProof.Rows L2
section
variable {ς α β γ : Type} {X : Cx} {C : Cf} {as : SA} {O : ς → OS} {a b c : Expr} {pos : Pos} {w1 w2 w3 : Bool}
def SM.chain (p q : Int → Int → Bool) (m1 m2 m3 : SM ς Int) : SM ς Bool := fun s => (m1 s).bind fun z => (m2 z.2).bind fun y => if p z.1 y.1 = true then (m3 y.2).bind fun t => .ok (q y.1 t.1, t.2) else .ok (false, y.2)
theorem chain_read {p q : Int → Int → Bool} {m1 m2 m3 : SM ς Int} (ha : HX X C a as O m1 (VP.at w1 rInt)) (hb : HX X C b as O m2 (VP.at w2 rInt)) (hc : HX X C c as O m3 (VP.at w3 rInt)) {σ : L2.St} {H : Hp} {Q : VK}
    (h : tG (π := Unit) C as O (SM.chain p q m1 m2 m3) (fun b _ => VP.at true rBl b) (fun _ _ => []) σ H Q) :
    tChain (rI0 fun i j => .bl (p i j)) (rI0 fun i j => .bl (q i j)) (tG (π := Unit) C as O m1 (fun x _ => VP.at w1 rInt x) fun _ _ => []) (tG (π := Unit) C as O m2 (fun x _ => VP.at w2 rInt x) fun _ _ => []) (tG (π := Unit) C as O m3 (fun x _ => VP.at w3 rInt x) fun _ _ => []) σ H Q := by
  obtain ⟨s, S, st, sl, ow, h⟩ := h
  refine ⟨s, S, st, sl, ow, R.post_mono (R.post_bind.mp h) (fun z k _ v S1 H1 l1 st1 ow1 p1 => ?_) fun _ z => xq_le z⟩
  refine ⟨z.2, S1, st1, sl.mono l1, ow1, R.post_mono (R.post_bind.mp k) (fun y k2 _ u S2 H2 l2 st2 ow2 p2 => ?_) fun _ z => xq_le z⟩
  refine ⟨z.1, y.1, p1, p2, p z.1 y.1, rfl, ?_⟩
  by_cases hp : p z.1 y.1 = true
  · rw [if_pos hp] at k2 ⊢
    refine ⟨y.2, S2, st2, (sl.mono l1).mono l2, ow2, R.post_mono (R.post_bind.mp k2) (fun t k3 _ x S3 H3 l3 st3 ow3 p3 => ?_) fun _ z => xq_le z⟩
    exact ⟨y.1, t.1, p2, p3, k3 () _ S3 H3 ((l1.trans l2).trans l3) st3 ow3 rfl⟩
  · rw [if_neg hp] at k2 ⊢
    exact k2 () _ S2 H2 (l1.trans l2) st2 ow2 rfl
theorem hx_chain {op op' : CmpOp} {p q : Int → Int → Bool} {m1 m2 m3 : SM ς Int} (ho : OpR X (compareOp op) (rI0 fun i j => .bl (p i j))) (ho' : OpR X (compareOp op') (rI0 fun i j => .bl (q i j))) (ha : HX X C a as O m1 (VP.at w1 rInt)) (hb : HX X C b as O m2 (VP.at w2 rInt)) (hc : HX X C c as O m3 (VP.at w3 rInt)) (hm : lastMarks [op, op'] [b, c] = false := by with_unfolding_all rfl) :
    HX X C (.Compare a [op, op'] [b, c] pos) as O (SM.chain p q m1 m2 m3) (VP.at true rBl) := ⟨pe_weak (pe_chain ho ho' ha.pe hb.pe hc.pe hm) fun σ H Q h => chain_read ha hb hc h⟩
theorem ht_chain {op op' : CmpOp} {p q : Int → Int → Bool} {m1 m2 m3 : SM ς Int} (ho : OpR X (compareOp op) (rI0 fun i j => .bl (p i j))) (ho' : OpR X (compareOp op') (rI0 fun i j => .bl (q i j))) (ha : HX X C a as O m1 (VP.at w1 rInt)) (hb : HX X C b as O m2 (VP.at w2 rInt)) (hc : HX X C c as O m3 (VP.at w3 rInt)) (hm : lastMarks [op, op'] [b, c] = false := by with_unfolding_all rfl) :
    HT X C (.Compare a [op, op'] [b, c] pos) as O (SM.chain p q m1 m2 m3) := ⟨pt_weak (pt_chain ho ho' ha.pe hb.pe hc.pe hm) fun σ H Q ⟨s, S, st, sl, ow, h⟩ => chain_read ha hb hc ⟨s, S, st, sl, ow, R.post_mono h (fun z k _ v S' H' l' st' ow' pv => ⟨z.1, pv, k S' H' l' st' ow'⟩) fun _ z => xq_le z⟩⟩
end
end Y

/-! Y: defs with defaults, all of them given. -/
namespace Y
open PySem PySem.Spec PyProof.Rows L2
structure DfdD (K : PySem.W.Frag) (mg : Str → Option Value) (x : Str) (st : Stmt) (dvs : List V) : Prop where
  fd : ∃ fd, FunD K x x (defArgs st) (defBody st) (defScope st) dvs [] (He.ga K x) fd
  gl : mg x = some (.ref (He.ga K x))
theorem mkFkD {P : Program} {w : World} {K : PySem.W.Frag} {mg : Str → Option Value} {base : Heap} {k : Nat} {x : Str} {st : Stmt} {dvs : List V} {ps : List Str} {sp : Sp} (D : DfdD K mg x st dvs) (hd : dvs ≠ []) (h : ∀ fd, FunD K x x (defArgs st) (defBody st) (defScope st) dvs [] (He.ga K x) fd → FnOk P w K mg base (L2.CX P w) k (He.ga K x) fd ps sp)
    (hb : ∀ (T : Addr) (kV doc pm : Value) (an : Option Addr) (cdv ct : Value) (us its : List Value), us.length = ps.length → its.length = dvs.length →
      ∃ k, bindArgs (PySem.W.fnOf x x (defArgs st) (defBody st) (defScope st) (.ref T) kV doc pm an cdv ct) ⟨us, []⟩ = seqItems? (.ref T) >>= k ∧ k (some its.toArray) = pure (ps.zip (us ++ its.drop dvs.length))) :
    ∃ fd, FnOk P w K mg base (L2.CX P w) k (He.ga K x) fd ps sp ∧ Binds K fd ps [] ∧ mg x = some (.ref (He.ga K x)) ∧ PySem.W.keepIn K (.ref (He.ga K x)) = true := by
  obtain ⟨fd, F⟩ := D.fd
  obtain ⟨ds, hv, hbn⟩ := F.binds1 (ps := ps) ps.length dvs.length hd (by omega) hb
  have e : ds = [] := by
    rw [List.drop_length] at hv
    cases hv; rfl
  subst e
  exact ⟨fd, h fd F, hbn, D.gl, F.kp⟩
end Y

/-! Z: owned things in another order, frozen, several lent at once. -/
namespace Y
open PySem PySem.Spec PyProof.Rows L2
section
variable {B B' : Bs} {S S' S1 S2 : Sv} {H H' H1 H2 : Hp} {os os' us : OS}
theorem OwL.ne {a : OE} (h : OwL B S H (a :: os)) : ∀ q ∈ os, q.p ≠ a.p := h.2.2.2.1
theorem OwL.perm (p : os.Perm os') (h : OwL B S H os) : OwL B S H os' := by
  induction p with
  | nil => trivial
  | cons a p ih => exact ⟨h.1, h.2.1, h.2.2.1, fun q m => h.2.2.2.1 q (p.mem_iff.mpr m), ih h.2.2.2.2⟩
  | swap a b l =>
    obtain ⟨h1, h2, h3, h4, g1, g2, g3, g4, g5⟩ := h
    exact ⟨g1, g2, g3, fun q m => by
      rcases List.mem_cons.mp m with z | z
      · subst z; exact (h4 a List.mem_cons_self).symm
      · exact g4 q z, h1, h2, h3, fun q m => h4 q (List.mem_cons_of_mem _ m), g5⟩
  | trans _ _ ih1 ih2 => exact ih2 (ih1 h)
theorem OwL.sub (p : os'.Sublist os) (h : OwL B S H os) : OwL B S H os' := by
  induction p with
  | slnil => trivial
  | cons a p ih => exact ih h.2.2.2.2
  | cons_cons a p ih => exact ⟨h.1, h.2.1, h.2.2.1, fun q m => h.2.2.2.1 q (p.subset m), ih h.2.2.2.2⟩
/-- known by pointers and contents alone -/
theorem OwL.reflag : ∀ {os us : OS}, OwL B S H os → os.map (fun e => (e.p, e.c)) = us.map (fun e => (e.p, e.c)) → (∀ e ∈ us, (S.y e.p = none → S'.y e.p = none) ∧ ((e.f = true → B'.h e.p = none) ∧ B'.kp e.p = none)) → Ex S.g S'.g → (∀ e ∈ us, ∀ o, H e.p = some o → H' e.p = some o) → OwL B' S' H' us
  | [], [], _, _, _, _, _ => trivial
  | a :: os, b :: us, h, e, k, g, hh => by
    obtain ⟨h1, ⟨o, h2, h3⟩, h4, h5, h6⟩ := h
    have e1 : a.p = b.p ∧ a.c = b.c := by
      have := (List.cons.inj e).1
      exact ⟨(Prod.mk.inj this).1, (Prod.mk.inj this).2⟩
    have e2 : os.map (fun e => (e.p, e.c)) = us.map (fun e => (e.p, e.c)) := (List.cons.inj e).2
    have kb := k b List.mem_cons_self
    refine ⟨kb.1 (by rw [← e1.1]; exact h1), ⟨o, hh b List.mem_cons_self o (by rw [← e1.1]; exact h2), ?_⟩, kb.2, fun q m => ?_, OwL.reflag h6 e2 (fun e m => k e (List.mem_cons_of_mem _ m)) g fun e m => hh e (List.mem_cons_of_mem _ m)⟩
    · rw [← e1.2]; exact a.c.mono g h3
    · have : (q.p, q.c) ∈ os.map (fun e => (e.p, e.c)) := by rw [e2]; exact List.mem_map.mpr ⟨q, m, rfl⟩
      obtain ⟨q', m', e'⟩ := List.mem_map.mp this
      have := h5 q' m'
      rw [← e1.1, ← (Prod.mk.inj e').1]; exact this
  | [], _ :: _, _, e, _, _, _ => by simp at e
  | _ :: _, [], _, e, _, _, _ => by simp at e
theorem Sl.re {σ : L2.St} {as : SA} {i : Nat} {v : V} {P : VP} (h : Sl S σ as) (hv : σ[i]? = some (some v)) (q : P.p v S) : Sl S σ (as.set i (some P)) := by
  refine ⟨by rw [List.length_set]; exact h.1, fun j Q e => ?_⟩
  by_cases hj : i = j
  · subst hj
    have hi : i < as.length := by
      have z := (List.getElem?_eq_some_iff.mp e).1
      rw [List.length_set] at z
      exact z
    rw [List.getElem?_set_self hi] at e
    have e' : P = Q := by injection e with e; injection e
    subst e'
    exact ⟨v, hv, q⟩
  · rw [List.getElem?_set_ne hj] at e
    exact h.2 j Q e
theorem OwL.rest_ne {i : Nat} {e : OE} (h : OwL B S H os) (hi : os[i]? = some e) : ∀ u ∈ os.eraseIdx i, u.p ≠ e.p := fun u m => by
  obtain ⟨j, hj, ej⟩ := List.mem_eraseIdx_iff_getElem?.mp m
  exact h.apart ej hi hj
end
section
variable {ς α β γ δ μ ρ π τ π0 : Type} {X : Cx} {C : Cf} {as : SA} {O : ς → OS} {a b c e elt tg iter : Expr} {es : List Expr} {pos p apos : Pos} {w w1 w2 : Bool} {kn k : Nat} {rst body orelse : List Stmt} {N : Sv → μ → L2.St → Hp → Prop} {T : ρ → V → Hp → Prop} {ι : α → Oc μ ρ} {os : OS}
theorem hb_perm {m : R α} {os' : OS} (p : os.Perm os') (h : HB X C rst as os' m ι N T) : HB X C rst as os m ι N T := ⟨pss_weak h.pss fun D σ H ⟨L, S, lL, st, sl, ow, q⟩ => ⟨L, S, lL, st, sl, ow.perm p, q⟩⟩
theorem hb_sub {m : R α} {os' : OS} (p : os'.Sublist os) (h : HB X C rst as os' m ι N T) : HB X C rst as os m ι N T := ⟨pss_weak h.pss fun D σ H ⟨L, S, lL, st, sl, ow, q⟩ => ⟨L, S, lL, st, sl, ow.sub p, q⟩⟩
/-- an owned list that stays as it is from here on -/
theorem hb_frzL {m : R α} {r : Rp δ} {xs : List δ} {q0 : Addr} (i j : Nat) (h : HB X C rst (as.set i (some (VP.at true (rLst X.K r) xs))) (os.eraseIdx j) m ι N T) (hi : as[i]? = some (some (VP.ptr q0)) := by rfl) (hj : os[j]? = some ⟨q0, cLst r xs, true⟩ := by rfl) : HB X C rst as os m ι N T := ⟨pss_weak h.pss fun D σ H ⟨L, S, lL, st, sl, ow, q⟩ => by
  obtain ⟨h1, ⟨o, h2, vs, eo, hA⟩, h3, h4⟩ := ow.get hj
  have eo : o = .lst vs := eo
  subst eo
  obtain ⟨v, hv, pv⟩ := sl.2 i _ hi
  have pv : v = .ref q0 := pv
  subst pv
  have l2 : S.le (S.add q0 (.lst vs)) := Sv.le_add h1 (st.gnone h1)
  exact ⟨L, S.add q0 (.lst vs), lL.trans l2, st.frz h1 (h3 rfl) h4 h2, (sl.mono l2).re hv ⟨q0, vs, rfl, SqL.of upd_same, hA.mono l2.g⟩, (ow.erase j).add h1 (st.gnone h1) (ow.rest_ne hj), q⟩⟩
theorem hb_frzD {κ : Type} {m : R α} {kk : KK κ} {r : Rp δ} {xs : List (κ × δ)} {q0 : Addr} (i j : Nat) (h : HB X C rst (as.set i (some (VP.at true (rDic kk r) xs))) (os.eraseIdx j) m ι N T) (hi : as[i]? = some (some (VP.ptr q0)) := by rfl) (hj : os[j]? = some ⟨q0, cDic kk r xs, true⟩ := by rfl) : HB X C rst as os m ι N T := ⟨pss_weak h.pss fun D σ H ⟨L, S, lL, st, sl, ow, q⟩ => by
  obtain ⟨h1, ⟨o, h2, vs, eo, hA⟩, h3, h4⟩ := ow.get hj
  have eo : o = .dK vs := eo
  subst eo
  obtain ⟨v, hv, pv⟩ := sl.2 i _ hi
  have pv : v = .ref q0 := pv
  subst pv
  have l2 : S.le (S.add q0 (.dK vs)) := Sv.le_add h1 (st.gnone h1)
  exact ⟨L, S.add q0 (.dK vs), lL.trans l2, st.frz h1 (h3 rfl) h4 h2, (sl.mono l2).re hv ⟨q0, vs, rfl, upd_same, hA.mono l2.g⟩, (ow.erase j).add h1 (st.gnone h1) (ow.rest_ne hj), q⟩⟩
/-! ### several things lent to a call -/
/-- what stands in a call's text, by pointers: the same things with other contents -/
structure Lent (os0 os1 cb ca : OS) : Prop where
  b : cb.map (fun e => (e.p, e.c)) = os0.map (fun e => (e.p, e.c))
  a : ca.map (fun e => (e.p, e.c)) = os1.map (fun e => (e.p, e.c))
  f : ca.map (fun e => (e.p, e.f)) = cb.map (fun e => (e.p, e.f))
theorem map_p {os us : OS} (h : os.map (fun e => (e.p, e.c)) = us.map (fun e => (e.p, e.c))) : os.map (·.p) = us.map (·.p) := by
  have := congrArg (List.map Prod.fst) h
  simpa [List.map_map, Function.comp_def] using this
theorem map_p' {os us : OS} (h : os.map (fun e => (e.p, e.f)) = us.map (fun e => (e.p, e.f))) : os.map (·.p) = us.map (·.p) := by
  have := congrArg (List.map Prod.fst) h
  simpa [List.map_map, Function.comp_def] using this
section
variable {B : Bs} {S1 S2 : Sv} {H1 H2 : Hp} {os0 os1 cb ca R0 nw : OS}
theorem lent_in (st1 : StOk B S1 H1) (ow1 : OwL B S1 H1 (cb ++ R0)) (hb : cb.map (fun e => (e.p, e.c)) = os0.map (fun e => (e.p, e.c))) (hf : ∀ e ∈ os0, e.f = false) :
    (∀ a ∈ os0.map (·.p), S1.y a = none) ∧ (∀ a ∈ os0.map (·.p), B.kp a = none) ∧ (∀ e ∈ os0, S1.g e.p = none) ∧ OwL (Bs.sub S1.g H1 (os0.map (·.p))) ⟨S1.g, hide H1 (os0.map (·.p))⟩ H1 os0 ∧ ∀ e ∈ R0, e.p ∉ os0.map (·.p) := by
  have hp := map_p hb
  have hy : ∀ a ∈ os0.map (·.p), S1.y a = none := fun a m => by
    rw [← hp] at m
    obtain ⟨e, m1, e1⟩ := List.mem_map.mp m
    rw [← e1]; exact (ow1.left.mem m1).1
  have hk : ∀ a ∈ os0.map (·.p), B.kp a = none := fun a m => by
    rw [← hp] at m
    obtain ⟨e, m1, e1⟩ := List.mem_map.mp m
    rw [← e1]; exact (ow1.left.mem m1).2.2.2
  refine ⟨hy, hk, fun e m => st1.gnone (hy _ (List.mem_map.mpr ⟨e, m, rfl⟩)), ?_, fun e m z => ?_⟩
  · refine OwL.reflag ow1.left hb (fun e m => ⟨fun _ => hide_in (List.mem_map.mpr ⟨e, m, rfl⟩), (fun z => by rw [hf e m] at z; cases z), rfl⟩) (Ex.refl _) fun _ _ _ z => z
  · rw [← hp] at z
    obtain ⟨u, m1, e1⟩ := List.mem_map.mp z
    exact ow1.sep u m1 e m e1.symm
theorem lent_out (st1 : StOk B S1 H1) (ow1 : OwL B S1 H1 (cb ++ R0)) (L : Lent os0 os1 cb ca) (hf : ∀ e ∈ os0, e.f = false) (hn : AllF nw)
    (st2 : StOk (Bs.sub S1.g H1 (os0.map (·.p))) S2 H2) (ow2 : OwL (Bs.sub S1.g H1 (os0.map (·.p))) S2 H2 (nw ++ os1)) :
    StOk B (S1.back S2) H2 ∧ OwL B (S1.back S2) H2 (nw ++ (ca ++ R0)) := by
  obtain ⟨hy, hk, _, _, hR⟩ := lent_in st1 ow1 L.b hf
  have pca : ca.map (·.p) = os0.map (·.p) := (map_p' L.f).trans (map_p L.b)
  have st3 := back_ok st1 st2 hy hk
  have hnn : ∀ e ∈ nw, H1 e.p = none := fun e m => (ow2.left.mem m).2.2.1 (hn e m)
  have owR : OwL B (S1.back S2) H2 R0 := back_ow st1 st2 ow1.right hR
  have owC : OwL B (S1.back S2) H2 ca := OwL.reflag ow2.right L.a.symm (fun e m => by
    have mp : e.p ∈ os0.map (·.p) := by rw [← pca]; exact List.mem_map.mpr ⟨e, m, rfl⟩
    refine ⟨fun z => ?_, fun z => ?_, hk _ mp⟩
    · show (S1.y e.p).or (S2.g e.p) = none
      rw [hy _ mp, Option.none_or]; exact st2.gnone z
    · have : (e.p, e.f) ∈ cb.map (fun e => (e.p, e.f)) := by rw [← L.f]; exact List.mem_map.mpr ⟨e, m, rfl⟩
      obtain ⟨u, m1, e1⟩ := List.mem_map.mp this
      have h1 := (Prod.mk.inj e1).1
      have h2 := (Prod.mk.inj e1).2
      rw [← h1]
      exact (ow1.left.mem m1).2.2.1 (by rw [h2]; exact z)) (Ex.refl _) fun _ _ _ z => z
  have owCR : OwL B (S1.back S2) H2 (ca ++ R0) := owC.app owR fun e m u mu z => by
    have mp : e.p ∈ os0.map (·.p) := by rw [← pca]; exact List.mem_map.mpr ⟨e, m, rfl⟩
    exact hR u mu (by rw [z]; exact mp)
  refine ⟨st3, (back_in st2 ow2.left (fun e m _ z => st1.bnone z) (fun e m => st1.ynone (hnn e m)) fun e m => st1.knone (hnn e m)).app owCR fun e m u mu z => ?_⟩
  rcases List.mem_append.mp mu with mu | mu
  · have : (u.p, u.c) ∈ os1.map (fun e => (e.p, e.c)) := by rw [← L.a]; exact List.mem_map.mpr ⟨u, mu, rfl⟩
    obtain ⟨u', m1, e1⟩ := List.mem_map.mp this
    exact ow2.sep e m u' m1 (by rw [(Prod.mk.inj e1).1]; exact z)
  · obtain ⟨_, ⟨o, h2, _⟩, _⟩ := ow1.right.mem mu
    rw [z, hnn e m] at h2; cases h2
end
/-- a contract read at a call's place -/
theorem callG_read {xr : Er → Value → Option Addr → Hp → Hp → Prop} {Ps : τ → π0 → List VP} {os0 : τ → π0 → OS} {m : τ → R ρ} {Bv : ρ → π → VP} {os1 : ρ → π0 → OS} {nw : ρ → π → OS} {S1 : Sv} {H1 : Hp} {vs : List V} {x : τ} {q0 : π0} {o1 : OS} {cb R0 : OS} {ca : ρ → OS} {Q : VK} {E : XK}
    (st1 : StOk C.B S1 H1) (ow1 : OwL C.B S1 H1 o1) (pm : o1.Perm (cb ++ R0)) (hL : ∀ r, Lent (os0 x q0) (os1 r q0) cb (ca r)) (h0 : cb.map (fun e => (e.p, e.c)) = (os0 x q0).map (fun e => (e.p, e.c))) (hf0 : ∀ e ∈ os0 x q0, e.f = false) (hf : ∀ r q, AllF (nw r q)) (hB : ∀ r q, PGo (Bv r q)) (pv : AV S1 vs (Ps x q0))
    (h : (m x).post (fun r => ∀ q v S' H', S1.le S' → StOk C.B S' H' → OwL C.B S' H' (nw r q ++ (ca r ++ R0)) → (Bv r q).p v S' → Q v H') (fun ε => ∀ cls d S' H', S1.le S' → StOk C.B S' H' → OwL C.B S' H' o1 → xr ε cls d S'.g H' → E cls d H')) :
    spF xr Ps os0 m Bv os1 nw vs H1 Q E := by
  have owp := ow1.perm pm
  obtain ⟨hy, hk, hg, how, hR⟩ := lent_in st1 owp h0 hf0
  refine ⟨x, q0, S1.g, st1.gy.trans st1.yh, hg, pv.mono (lend_le st1 hy), how, R.post_mono h (fun r k q v S2 H2 st2 ow2 p2 => ?_) fun ε k cls d S2 H2 st2 ow2 hxr => ?_⟩
  · obtain ⟨st3, ow3⟩ := lent_out st1 owp (hL r) hf0 (hf r q) st2 ow2
    exact k q v (S1.back S2) H2 (back_le st2) st3 ow3 (hB r q v S2 _ rfl p2)
  · have L0 : Lent (os0 x q0) (os0 x q0) cb cb := ⟨h0, h0, rfl⟩
    obtain ⟨st3, ow3⟩ := lent_out (nw := []) st1 owp L0 hf0 allF_nil st2 ow2
    exact k cls d (S1.back S2) H2 (back_le st2) st3 (ow3.perm pm.symm) hxr
end
end Y

/-! Z: calls with several things lent. -/
namespace Y
open PySem PySem.Spec PyProof.Rows L2
section
variable {ς α β γ δ μ ρ π τ π0 : Type} {X : Cx} {C : Cf} {as : SA} {O : ς → OS} {a b c e elt tg iter : Expr} {es : List Expr} {pos p apos : Pos} {w w1 w2 : Bool} {kn k : Nat}
theorem fm_range {α : Type} : ∀ (os : List α), (List.range os.length).filterMap (os[·]?) = os
  | [] => rfl
  | a :: os => by
    have ih := fm_range os
    rw [List.length_cons, List.range_succ_eq_map, List.filterMap_cons]
    simp only [List.length_cons, Nat.zero_lt_succ, List.getElem?_cons_zero, List.filterMap_map, Function.comp_def, List.getElem?_cons_succ]
    rw [ih]
theorem perm_ix {α : Type} {F : List α} (ks : List Nat) (h : ks.Perm (List.range F.length) := by decide) : F.Perm (ks.filterMap (F[·]?)) := by
  have := h.symm.filterMap (F[·]?)
  rw [fm_range] at this
  exact this
theorem perm_ixT {α : Type} {F G : List α} (ks : List Nat) (h : ks.Perm (List.range F.length) := by decide) : (F ++ G).Perm (ks.filterMap (F[·]?) ++ G) := (perm_ix ks h).append_right G
/-- what a def promises that changes what it is lent -/
def spG {δ : Type} (xr : Er → Value → Option Addr → Hp → Hp → Prop) (Ps : τ → π0 → List VP) (os0 : τ → π0 → OS) (m : τ → R (ρ × δ)) (Bv : ρ → π → VP) (os1 : δ → π0 → OS) (nw : ρ → π → OS) : Sp :=
  spF xr Ps os0 m (fun r => Bv r.1) (fun r q => os1 r.2 q) fun r => nw r.1
theorem hg_fkG {xr : Er → Value → Option Addr → Hp → Hp → Prop} {Ps : τ → π0 → List VP} {os0 : τ → π0 → OS} {m : τ → R (ρ × δ)} {Bv : ρ → π → VP} {os1 : δ → π0 → OS} {nw : ρ → π → OS} {ps : List Str} {x : Str} {ma : SM ς β} {Pa : β → List VP}
    (F : Fk X.prog X.w X.K X.mg X.base k x ps (spG xr Ps os0 m Bv os1 nw)) (o : Ok X C kn) (hkn : k ≤ kn) (q0 : π0) (mk : β → ς → τ) (put : ς → δ → ς) (cb : ς → OS) (R0 : ς → OS) (ca : δ → OS)
    (ha : HA X C (e :: es) as O ma Pa) (pm : ∀ s, (O s).Perm (cb s ++ R0 s)) (pm' : ∀ s d, (ca d ++ R0 s).Perm (O (put s d)))
    (hb0 : ∀ z s, (cb s).map (fun e => (e.p, e.c)) = (os0 (mk z s) q0).map (fun e => (e.p, e.c)) := by intro _ _; rfl) (hL : ∀ z s d, Lent (os0 (mk z s) q0) (os1 d q0) (cb s) (ca d) := by intro _ _ _; exact ⟨rfl, rfl, rfl⟩) (hf0 : ∀ z s, ∀ e ∈ os0 (mk z s) q0, e.f = false := by intro _ _ _ m; simp at m; (first | (subst m; rfl) | (rcases m with m | m <;> subst m <;> rfl) | (rcases m with m | m | m <;> subst m <;> rfl) | (rcases m with m | m | m | m <;> subst m <;> rfl)))
    (hPs : ∀ z s, Ps (mk z s) q0 = Pa z := by intro _ _; rfl)
    (hB : ∀ r q, PGo (Bv r q)) (hf : ∀ r q, AllF (nw r q)) (hg : Gl X x := by rfl)
    (hdb : (x == ("__debug__" : Str)) = false := by decide) (he : starEach (e :: es) X.env = (false, eval e X.env) :: starEach es X.env := by rfl) (hpl : (backTo pos (starEach es X.env)).any (·.1) = false := by rfl) :
    HG X C (.Call (.Name x p) (e :: es) [] pos) as O (fun s => (ma s).bind fun z => (m (mk z.1 z.2)).calm.bind fun r => .ok (r.1, put z.2 r.2)) Bv nw := by
  obtain ⟨fd, h1, h2⟩ := F.ex
  exact ⟨pe_weak (pe_callSD h1 (o.room.mono hkn) hg F.gl F.kp h2 .nil (fun σ => passAt o.tk σ) ha.pa hdb he hpl) fun σ H Q ⟨s, S, st, sl, ow, q⟩ =>
    ⟨s, S, st, sl, ow, R.post_mono (R.post_bind.mp q) (fun z k vs S1 H1 l1 st1 ow1 pv => by
      show spG _ _ _ _ _ _ _ (vs ++ []) H1 Q _
      rw [List.append_nil]
      have k := R.post_bind.mp k
      refine callG_read (q0 := q0) (x := mk z.1 z.2) (ca := fun r => ca r.2) st1 ow1 (pm z.2) (fun r => hL z.1 z.2 r.2) (hb0 z.1 z.2) (hf0 z.1 z.2) (fun r => hf r.1) (fun r => hB r.1) (by rw [hPs]; exact pv) (R.calm_post (R.post_mono k (fun r k2 q v S2 H2 l2 st2 ow2 p2 => ?_) fun _ z => z) _)
      have ow3 := ow2.perm ((List.Perm.refl _).append (pm' z.2 r.2))
      exact k2 q v S2 H2 (l1.trans l2) st2 ow3 p2) fun _ z => xq_le z⟩⟩
end
end Y

/-! Z: calls with an element lent, setdefault, == of what may be None, lent loops with a way out. -/
namespace Y
open PySem PySem.Spec PyProof.Rows L2
section
variable {ς α β γ δ κ μ ρ π τ π0 : Type} {X : Cx} {C : Cf} {as : SA} {O : ς → OS} {a b c e elt tg iter : Expr} {es : List Expr} {pos p px p2 apos : Pos} {w w1 w2 : Bool} {kn k : Nat} {rst body orelse : List Stmt} {N : Sv → μ → L2.St → Hp → Prop} {T : ρ → V → Hp → Prop} {ι : α → Oc μ ρ} {os : OS}
/-! ### == of what may be None and a number -/
def eqOI (x : Option Int) (j : Int) : Bool := decide (x = some j)
def neOI (x : Option Int) (j : Int) : Bool := !decide (x = some j)
theorem ov_eqOI : OV2 (π := Unit) C rEq (VP.at w1 (rOpt rInt)) (VP.at w2 rInt) (fun i j => .ok (eqOI i j)) (fun z _ => VP.at true rBl z) (fun _ _ => []) := fun x y v u S H os Q st ow h1 h2 q => by
  have e2 : u = .int y := h2
  subst e2
  cases x with
  | none =>
    have h1 : v = .non := h1
    subst h1
    exact ⟨rfl, q.imm st ow rfl⟩
  | some i =>
    have h1 : v = .int i := h1.2
    subst h1
    refine ⟨rfl, q.imm st ow ?_⟩
    show V.bl _ = V.bl _
    unfold eqOI
    simp
theorem ov_neOI : OV2 (π := Unit) C rNe (VP.at w1 (rOpt rInt)) (VP.at w2 rInt) (fun i j => .ok (neOI i j)) (fun z _ => VP.at true rBl z) (fun _ _ => []) := fun x y v u S H os Q st ow h1 h2 q => by
  have e2 : u = .int y := h2
  subst e2
  cases x with
  | none =>
    have h1 : v = .non := h1
    subst h1
    exact ⟨rfl, q.imm st ow rfl⟩
  | some i =>
    have h1 : v = .int i := h1.2
    subst h1
    refine ⟨rfl, q.imm st ow ?_⟩
    show V.bl _ = V.bl _
    unfold neOI
    simp
section
variable {m1 : SM ς (Option Int)} {m2 : SM ς Int}
theorem hx_eqOI (ha : HX X C a as O m1 (VP.at w1 (rOpt rInt))) (hb : HX X C b as O m2 (VP.at w2 rInt)) : HX X C (.Compare a [.Eq] [b] pos) as O (SM.map2 eqOI m1 m2) (VP.at true rBl) := hx_cmp op_eq ov_eqOI ha hb (nomark _)
theorem ht_eqOI (ha : HX X C a as O m1 (VP.at w1 (rOpt rInt))) (hb : HX X C b as O m2 (VP.at w2 rInt)) : HT X C (.Compare a [.Eq] [b] pos) as O (SM.map2 eqOI m1 m2) := ht_cmp op_eq ov_eqOI ha hb (nomark _)
theorem hx_neOI (ha : HX X C a as O m1 (VP.at w1 (rOpt rInt))) (hb : HX X C b as O m2 (VP.at w2 rInt)) : HX X C (.Compare a [.NotEq] [b] pos) as O (SM.map2 neOI m1 m2) (VP.at true rBl) := hx_cmp op_ne ov_neOI ha hb (nomark _)
theorem ht_neOI (ha : HX X C a as O m1 (VP.at w1 (rOpt rInt))) (hb : HX X C b as O m2 (VP.at w2 rInt)) : HT X C (.Compare a [.NotEq] [b] pos) as O (SM.map2 neOI m1 m2) := ht_cmp op_ne ov_neOI ha hb (nomark _)
end
/-! ### setdefault of an owned dict -/
theorem set_self : ∀ {os : OS} {j : Nat} {e : OE}, os[j]? = some e → os.set j e = os := fun {os j e} h => by
  obtain ⟨hj, ej⟩ := List.getElem?_eq_some_iff.mp h
  rw [← ej]; exact List.set_getElem_self hj
def setdR [DecidableEq κ] (d : List (κ × β)) (k : κ) (v : β) : R (β × List (κ × β)) := (R.guard (d.length < 16777216)).bind fun _ => match dget d k with
  | some u => .ok (u, d)
  | none => .ok (v, dput d k v)
theorem hx_setd [DecidableEq κ] {kk : KK κ} {r : Rp β} {mk : SM ς κ} {mx : SM ς β} {q0 : Addr} {fl : Bool} {x : Str} (i j : Nat) (sel : ς → List (κ × β)) (put : ς → List (κ × β) → ς) (hb : HX X C b as O mk (VP.at w1 kk.rp)) (hc : HX X C c as O mx (VP.at true r)) (h : as[i]? = some (some (VP.ptr q0)) := by rfl) (hO : ∀ s, (O s)[j]? = some ⟨q0, cDic kk r (sel s), fl⟩ := by intro _; rfl) (hput : ∀ s d, (O s).set j ⟨q0, cDic kk r d, fl⟩ = O (put s d) := by intro _ _; rfl)
    (hN : X.N[i]? = some x := by rfl) (hvis : Vis X.env.scope x := by first | exact Or.inl rfl | exact Or.inr (Or.inl rfl) | exact Or.inr (Or.inr rfl)) (hd : (x == ("__debug__" : Str)) = false := by decide) (hcd : (x == ("__classdict__" : Str)) = false := by decide) (mm : M2 X (.Name x px) "setdefault" apos b c pos := by exact ⟨rfl, rfl, rfl, rfl⟩) :
    HX X C (.Call (.Attribute (.Name x px) "setdefault" apos) [b, c] [] pos) as O (fun s => (mk s).bind fun z => (mx z.2).bind fun y => (setdR (sel y.2) z.1 y.1).bind fun r => .ok (r.1, put y.2 r.2)) (VP.at true r) := ⟨pe_weak (pe_dsetd (hx_ptr (O := O) (C := C) (as := as) i h hN hvis hd hcd).pe hb.pe hc.pe mm) fun σ H Q ⟨s, S, st, sl, ow, q⟩ =>
  ⟨s, S, st, sl, ow, fun _ v S0 H0 l0 st0 ow0 p0 => by
    have p0 : v = .ref q0 := p0
    subst p0
    obtain ⟨_, ⟨o, ho, vs0, eo, _⟩, _⟩ := ow0.get (hO s)
    have eo : o = .dK vs0 := eo
    subst eo
    refine ⟨q0, rfl, .inl ⟨vs0, .inl ho⟩, s, S0, st0, sl.mono l0, ow0, R.post_mono (R.post_bind.mp q) (fun z k _ u S1 H1 l1 st1 ow1 pu => ?_) fun _ z => xq_le z⟩
    refine ⟨z.2, S1, st1, (sl.mono l0).mono l1, ow1, R.post_mono (R.post_bind.mp k) (fun y k2 _ t S2 H2 l2 st2 ow2 pt => ?_) fun _ z => xq_le z⟩
    have pu := kk.law pu
    subst pu
    obtain ⟨_, ⟨o', ho', vs', eo', hA⟩, _⟩ := ow2.get (hO y.2)
    have eo' : o' = .dK vs' := eo'
    subst eo'
    obtain ⟨hz, k2⟩ := R.guard_post.mp (R.post_bind.mp (R.post_bind.mp k2))
    refine ⟨vs', kk.k z.1, ho', rfl, by rw [← hA.length, sizeLine_eq]; exact hz, fun v' hv => ?_, fun hn => ?_⟩
    · have hv0 := hA.val kk.inj z.1
      cases e1 : dget (sel y.2) z.1 with
      | none => rw [e1] at hv0; rw [hv0] at hv; cases hv
      | some x' =>
        rw [e1] at hv0
        obtain ⟨v2, h2, hr⟩ := hv0
        rw [h2] at hv
        cases hv
        rw [e1] at k2
        refine k2 () v' S2 H2 ((l0.trans l1).trans l2) st2 ?_ hr
        show OwL C.B S2 H2 ([] ++ O (put y.2 (sel y.2)))
        rw [← hput, set_self (hO y.2)]
        exact ow2
    · have hv0 := hA.val kk.inj z.1
      cases e1 : dget (sel y.2) z.1 with
      | some x' =>
        rw [e1] at hv0
        obtain ⟨v2, h2, hr⟩ := hv0
        rw [h2] at hn; cases hn
      | none =>
        rw [e1] at k2
        obtain ⟨st3, ow3⟩ := mutD_fin st2 ow2 (hO y.2) (hA.put kk.inj (k := z.1) (show r.rep y.1 t S2.g from pt))
        have ow3 : OwL C.B S2 _ ((O y.2).set j ⟨q0, cDic kk r (dput (sel y.2) z.1 y.1), fl⟩) := ow3
        rw [hput] at ow3
        exact k2 () t S2 _ ((l0.trans l1).trans l2) st3 ow3 pt⟩⟩
/-! ### a statement under which owned things are only read, and a way out of it -/
def Oc.mp {ρ' : Type} (f : ρ → ρ') : Oc μ ρ → Oc μ ρ'
  | .nx l => .nx l
  | .rt r => .rt (f r)
theorem hs_pkR {ρ' : Type} {T : ρ' → V → Hp → Prop} {st : Stmt} {μ' : Type} {m : R (Oc μ' ρ)} {PR : ρ → VP} (kr : ρ → ρ') {as' : SA} {as1 as2 : μ' → SA} (hk : Pks X.K os as as')
    (h : ∀ B, HS X (C.pk B) st as' [] m id (NS (C.pk B) as1 fun _ => []) (TV B PR)) (hb : ∀ l, Bks (as1 l) (as2 l)) (hP : ∀ r, PGo (PR r)) (hT : ∀ r v S H, StOk C.B S H → OwL C.B S H os → (PR r).p v S → T (kr r) v H) :
    HS X C st as os (m.calm.bind fun o => .ok (Oc.mp kr o)) id (NS C as2 fun _ => os) T := by
  have z := hs_pk (T := fun r v H => T (kr r) v H) hk h hb hP hT
  refine ⟨ps_weak z.ps fun D σ H ⟨L, S, lL, st, sl, ow, q⟩ => ⟨L, S, lL, st, sl, ow, ?_⟩⟩
  refine R.post_mono (R.post_bind.mp q) (fun o k => ?_) fun _ z => z
  cases o with
  | nx l => exact k
  | rt r => exact k
/-! ### groups: clearing, displays, elements lent -/
theorem hb_drop {m : R α} {os' : OS} (h : HB X C rst as os' m ι N T) (p : os'.Sublist os) : HB X C rst as os m ι N T := hb_sub p h
theorem sub_drop {l l' : OS} (g : OS) (h : l'.Sublist l) : l'.Sublist (g ++ l) := h.trans (List.sublist_append_right g l)
theorem sub_keep {l l' : OS} (g : OS) (h : l'.Sublist l) : (g ++ l').Sublist (g ++ l) := (List.append_sublist_append_left g).mpr h
theorem allF_grp {ct : δ → Ct} {ps : List Addr} {xs : List δ} : AllF (grp ct ps xs) := fun e m => (grp_mem m).2
theorem allF_nwG {ct : δ → Ct} {q : Addr × List Addr} {xs : List δ} : AllF (nwG ct xs q) := allF_cons allF_grp
theorem allF_app {os us : OS} (h : AllF os) (k : AllF us) : AllF (os ++ us) := fun e m => by
  rcases List.mem_append.mp m with z | z
  · exact h e z
  · exact k e z
/-- two new empty dicts -/
theorem hg_dd {kk : KK κ} {r : Rp δ} {p3 : Pos} : HG (π := Addr × List Addr) X C (.List [.Dict [] [] p, .Dict [] [] p2] p3) as O (SM.ret [[], []]) (fun _ q => VP.ptr q.1) (nwG (cDic kk r)) := ⟨pe_weak (pe_lst (pa_cons pe_dnewK (pa_cons pe_dnewK pa_nil))) fun σ H Q ⟨s, S, st, sl, ow, q⟩ => by
  intro p1 h1 p2 h2
  refine ⟨by show 2 ≤ _; rw [sizeLine_eq]; decide, fun p3 h3 => ?_⟩
  have st1 := st.grow (o := .dK []) h1
  have ow1 := ow.new (c := cDic kk r []) st h1 ⟨[], rfl, trivial⟩
  have st2 := st1.grow (o := .dK []) h2
  have ow2 := ow1.new (c := cDic kk r []) st1 h2 ⟨[], rfl, trivial⟩
  have st3 := st2.grow (o := .lst [.ref p1, .ref p2]) h3
  have ow3 := ow2.new (c := cPs [p1, p2] 2) st2 h3 ⟨rfl, rfl⟩
  refine q (p3, [p1, p2]) (.ref p3) S _ (.refl S) st3 ?_ rfl
  exact ow3.perm (.cons _ (.swap _ _ _))⟩
/-- an element's pointer -/
theorem hx_idxG {ct : δ → Ct} {mi : SM ς Int} {q0 : Addr} {ps : List Addr} {x : Str} (i : Nat) (A B' : ς → OS) (sel : ς → List δ) (hie : HX X C b as O mi (VP.at w rInt)) (h : as[i]? = some (some (VP.ptr q0)) := by rfl) (hO : ∀ s, O s = A s ++ (nwG ct (sel s) (q0, ps) ++ B' s) := by intro _; rfl)
    (hN : X.N[i]? = some x := by rfl) (hvis : Vis X.env.scope x := by first | exact Or.inl rfl | exact Or.inr (Or.inl rfl) | exact Or.inr (Or.inr rfl)) (hd : (x == ("__debug__" : Str)) = false := by decide) (hcd : (x == ("__classdict__" : Str)) = false := by decide) (hpi : PlainIx b := by exact fun _ _ => rfl) :
    HX X C (.Subscript (.Name x px) b p2) as O (fun s => (mi s).bind fun k => (R.ofO (ixN (sel k.2).length k.1)).bind fun j => .ok (j, k.2)) (fun j => VP.ptr (ps.getD j 0)) :=
  ⟨pe_weak (pe_ix ix_list (hx_ptr (O := O) (C := C) (as := as) i h hN hvis hd hcd).pe hie.pe hpi) fun σ H Q ⟨s, S, st, sl, ow, q⟩ =>
    ⟨s, S, st, sl, ow, fun _ v S0 H0 l0 st0 ow0 p0 => ⟨s, S0, st0, sl.mono l0, ow0, R.post_mono (R.post_bind.mp q) (fun k q1 _ u S1 H1 l1 st1 ow1 pu => by
      have p0 : v = .ref q0 := p0
      have pu : u = .int k.1 := pu
      subst p0; subst pu
      obtain ⟨j, hj, q1⟩ := R.ofO_post.mp (R.post_bind.mp q1)
      have owA : OwL C.B S1 H1 (A k.2 ++ (nwG ct (sel k.2) (q0, ps) ++ B' k.2)) := by rw [← hO]; exact ow1
      have owN : OwL C.B S1 H1 ((⟨q0, cPs ps (sel k.2).length, true⟩ : OE) :: grp ct ps (sel k.2)) := owA.right.left
      obtain ⟨_, ⟨ob, h2, h3⟩, _, _, owG⟩ := owN
      have eo : ob = .lst (ps.map V.ref) := h3.1
      subst eo
      have hlen : ps.length = (sel k.2).length := h3.2
      have hjl : j < ps.length := by
        have := (ixN_seq hj).2.1
        omega
      have hpj : ps[j]? = some ps[j] := List.getElem?_eq_getElem hjl
      have hat : atI (ps.map V.ref) k.1 = some (V.ref ps[j]) := by
        unfold L2.atI
        rw [List.length_map, hlen, hj]
        show (ps.map V.ref)[j]? = _
        rw [List.getElem?_map, hpj]; rfl
      refine ⟨q0, _, k.1, .ref ps[j], rfl, rfl, SqL.of h2, hat, ?_⟩
      exact q1 () (.ref ps[j]) S1 H1 (l0.trans l1) st1 ow1 (by
        show V.ref _ = V.ref _
        rw [List.getD_eq_getElem?_getD, hpj]; rfl)) fun _ z => xq_le z⟩⟩⟩
theorem ix_perm : ∀ {G : OS} {j : Nat} {u : OE}, G[j]? = some u → G.Perm (u :: G.eraseIdx j)
  | [], _, _, h => by simp at h
  | a :: G, 0, u, h => by
    have h : a = u := by simpa using h
    subst h; exact .refl _
  | a :: G, j + 1, u, h => by
    have h : G[j]? = some u := by simpa using h
    exact ((ix_perm h).cons a).trans (.swap _ _ _)
theorem hg_fkE {ct : δ → Ct} {xr : Er → Value → Option Addr → Hp → Hp → Prop} {Ps : τ → Addr → List VP} {sel0 : τ → δ} {m : τ → R (ρ × δ)} {Bv : ρ → π → VP} {nw : ρ → π → OS} {ps : List Str} {pp : List Addr} {x : Str} {ma : SM ς β} {Pa : β → List VP}
    (F : Fk X.prog X.w X.K X.mg X.base k x ps (spG xr Ps (fun x q => [⟨q, ct (sel0 x), false⟩]) m Bv (fun d q => [⟨q, ct d, false⟩]) nw)) (o : Ok X C kn) (hkn : k ≤ kn) {q0 : Addr} (A B' : ς → OS) (sel : ς → List δ) (put : ς → List δ → ς) (jx : β → Nat) (mk : β → δ → τ)
    (ha : HA X C (e :: es) as O ma Pa) (hO : ∀ s, O s = A s ++ (nwG ct (sel s) (q0, pp) ++ B' s)) (hput : ∀ s d, d.length = (sel s).length → A s ++ (nwG ct d (q0, pp) ++ B' s) = O (put s d)) (hPs : ∀ z d, Ps (mk z d) (pp.getD (jx z) 0) = Pa z := by intro _ _; rfl) (hs0 : ∀ z d, sel0 (mk z d) = d := by intro _ _; rfl)
    (hB : ∀ r q, PGo (Bv r q)) (hf : ∀ r q, AllF (nw r q)) (hg : Gl X x := by rfl)
    (hdb : (x == ("__debug__" : Str)) = false := by decide) (he : starEach (e :: es) X.env = (false, eval e X.env) :: starEach es X.env := by rfl) (hpl : (backTo pos (starEach es X.env)).any (·.1) = false := by rfl) :
    HG X C (.Call (.Name x p) (e :: es) [] pos) as O (fun s => (ma s).bind fun z => (R.ofO (sel z.2)[jx z.1]?).bind fun d => (m (mk z.1 d)).calm.bind fun r => .ok (r.1, put z.2 ((sel z.2).set (jx z.1) r.2))) Bv nw := by
  obtain ⟨fd, h1, h2⟩ := F.ex
  exact ⟨pe_weak (pe_callSD h1 (o.room.mono hkn) hg F.gl F.kp h2 .nil (fun σ => passAt o.tk σ) ha.pa hdb he hpl) fun σ H Q ⟨s, S, st, sl, ow, q⟩ =>
    ⟨s, S, st, sl, ow, R.post_mono (R.post_bind.mp q) (fun z k vs S1 H1 l1 st1 ow1 pv => by
      show spG _ _ _ _ _ _ _ (vs ++ []) H1 Q _
      rw [List.append_nil]
      obtain ⟨d, hd, k⟩ := R.ofO_post.mp (R.post_bind.mp k)
      have k := R.post_bind.mp k
      have owA : OwL C.B S1 H1 (A z.2 ++ (nwG ct (sel z.2) (q0, pp) ++ B' z.2)) := by rw [← hO]; exact ow1
      have owN : OwL C.B S1 H1 ((⟨q0, cPs pp (sel z.2).length, true⟩ : OE) :: grp ct pp (sel z.2)) := owA.right.left
      have hlen : pp.length = (sel z.2).length := by
        obtain ⟨_, ⟨ob, _, h3⟩, _⟩ := owN
        exact h3.2
      have hj : jx z.1 < (sel z.2).length := (List.getElem?_eq_some_iff.mp hd).1
      have hpj : pp[jx z.1]? = some (pp.getD (jx z.1) 0) := by
        rw [List.getD_eq_getElem?_getD, List.getElem?_eq_getElem (by omega)]; rfl
      have hgj := grp_get (ct := ct) hpj hd
      have hjg := (List.getElem?_eq_some_iff.mp hgj).1
      -- taking the element out
      have split := @ix_perm
      have pm : ∀ d' : List δ, d'.length = (sel z.2).length → ∀ u, d'[jx z.1]? = some u → (A z.2 ++ (nwG ct d' (q0, pp) ++ B' z.2)).Perm ([⟨pp.getD (jx z.1) 0, ct u, true⟩] ++ (A z.2 ++ ((⟨q0, cPs pp d'.length, true⟩ : OE) :: ((grp ct pp d').eraseIdx (jx z.1)) ++ B' z.2))) := fun d' hl u hu => by
        have g := split (grp_get (ct := ct) hpj hu)
        have g1 : (nwG ct d' (q0, pp)).Perm (⟨pp.getD (jx z.1) 0, ct u, true⟩ :: ((⟨q0, cPs pp d'.length, true⟩ : OE) :: ((grp ct pp d').eraseIdx (jx z.1)))) := (g.cons _).trans (.swap _ _ _)
        exact ((g1.append_right _).append_left _).trans List.perm_middle
      have erg : ∀ u, (grp ct pp ((sel z.2).set (jx z.1) u)).eraseIdx (jx z.1) = (grp ct pp (sel z.2)).eraseIdx (jx z.1) := fun u => by
        rw [← grp_set hpj hlen, List.eraseIdx_set_eq]
      refine callG_read (q0 := pp.getD (jx z.1) 0) (x := mk z.1 d) (cb := [⟨pp.getD (jx z.1) 0, ct d, true⟩]) (ca := fun r => [⟨pp.getD (jx z.1) 0, ct r.2, true⟩]) st1 ow1 (by rw [hO]; exact pm _ rfl d hd) (fun r => ⟨by rw [List.map_cons, List.map_cons, hs0], rfl, rfl⟩) (by rw [List.map_cons, List.map_cons, hs0]) (fun e m => by
        have m : e = ⟨pp.getD (jx z.1) 0, ct (sel0 (mk z.1 d)), false⟩ := by simpa using m
        subst m; rfl) (fun r => hf r.1) (fun r => hB r.1) (by rw [hPs]; exact pv) (R.calm_post (R.post_mono k (fun r k2 q v S2 H2 l2 st2 ow2 p2 => ?_) fun _ z => z) _)
      have pm2 := pm ((sel z.2).set (jx z.1) r.2) (List.length_set ..) r.2 (List.getElem?_set_self hj)
      rw [erg, List.length_set, hput _ _ (List.length_set ..)] at pm2
      have ow3 := ow2.perm ((List.Perm.refl _).append pm2.symm)
      exact k2 q v S2 H2 (l1.trans l2) st2 ow3 p2) fun _ z => xq_le z⟩⟩
end
end Y

/-! Z: groups cleared; statements on groups. -/
namespace Y
open PySem PySem.Spec PyProof.Rows L2
section
variable {ς α β γ δ κ μ ρ π τ π0 : Type} {X : Cx} {C : Cf} {as : SA} {O : ς → OS} {a b c e elt tg iter : Expr} {es : List Expr} {pos p px p2 apos : Pos} {w w1 w2 : Bool} {kn k : Nat} {rst body orelse : List Stmt} {N : Sv → μ → L2.St → Hp → Prop} {T : ρ → V → Hp → Prop} {ι : α → Oc μ ρ} {os : OS}
theorem A2.ptrs {H : Hp} : ∀ (ps : List Addr), A2 rPtr H ps (ps.map V.ref)
  | [] => trivial
  | _ :: ps => ⟨rfl, A2.ptrs ps⟩
/-- the outer list alone -/
theorem OwL.outer {B : Bs} {S : Sv} {H : Hp} {ct : δ → Ct} {q0 : Addr} {ps : List Addr} {xs : List δ} {A B' : OS} (h : OwL B S H (A ++ (nwG ct xs (q0, ps) ++ B'))) : OwL B S H (⟨q0, cLst rPtr ps, true⟩ :: (A ++ B')) := by
  have h1 : OwL B S H (⟨q0, cPs ps xs.length, true⟩ :: (A ++ B')) := by
    have p : (A ++ (nwG ct xs (q0, ps) ++ B')).Perm (⟨q0, cPs ps xs.length, true⟩ :: (A ++ (grp ct ps xs ++ B'))) := List.perm_middle
    refine (h.perm p).sub (.cons_cons _ ?_)
    exact sub_keep A (sub_drop _ (List.Sublist.refl _))
  obtain ⟨h1, ⟨o, h2, h3⟩, h4, h5, h6⟩ := h1
  have e : o = .lst (ps.map V.ref) := h3.1
  subst e
  exact ⟨h1, ⟨_, h2, _, rfl, A2.ptrs ps⟩, h4, h5, h6⟩
/-- a group's list is cleared: it is not used again -/
theorem hb_clrG {m : R α} {ct : δ → Ct} {q0 : Addr} {ps : List Addr} {xs : List δ} {x : Str} (i : Nat) (A B' : OS) (hr : HB X C rst (as.set i none) (A ++ B') m ι N T) (h : as[i]? = some (some (VP.ptr q0)) := by rfl) (hO : os = A ++ (nwG ct xs (q0, ps) ++ B') := by rfl)
    (hN : X.N[i]? = some x := by rfl) (hvis : Vis X.env.scope x := by first | exact Or.inl rfl | exact Or.inr (Or.inl rfl) | exact Or.inr (Or.inr rfl)) (hd : (x == ("__debug__" : Str)) = false := by decide) (hcd : (x == ("__classdict__" : Str)) = false := by decide)
    (hbase : attributeBase (.Name x px) "clear" X.env (eval (.Name x px) X.env) = eval (.Name x px) X.env := by rfl) (hline : (apos.endLine == p2.line) = true := by rfl) (hs : swapsWith (.Call (.Attribute (.Name x px) "clear" apos) [] [] p2) none pos.line X.env = pure false := by rfl) :
    HB X C (.Expr (.Call (.Attribute (.Name x px) "clear" apos) [] [] p2) pos :: rst) as os m ι N T := by
  subst hO
  have z := hb_expr (ι := ι) (N := N) (T := T) (as := as) (pos := pos) (k := fun _ => m) (hx_mutL0 (C := C) (O := fun (ps : List Addr) => (⟨q0, cLst rPtr ps, true⟩ :: (A ++ B') : OS)) (as := as) (pos := p2) (apos := apos) (px := px) PySem.F.slot_list_clear PySem.F.type_list_clear mt_clear (ov_clr (rp := rPtr)) i 0 (fun s => s) (fun _ d => d) h (fun _ => rfl) (fun _ _ => rfl) hN hvis hd hcd hbase hline) ps (fun z q => (⟨pss_weak hr.pss fun D σ H ⟨L, S, lL, st, sl, ow, q⟩ => ⟨L, S, lL, st, ⟨by rw [List.length_set]; exact sl.1, fun j P e => by
      by_cases hj : i = j
      · subst hj
        rw [List.getElem?_set] at e
        split at e
        · split at e
          · cases e
          · cases e
        · rename_i n; exact (n rfl).elim
      · rw [List.getElem?_set_ne hj] at e; exact sl.2 j P e⟩, ow.2.2.2.2, q⟩⟩ : HB X C rst as ([] ++ (⟨q0, cLst rPtr z.2, true⟩ :: (A ++ B'))) m ι N T)) hs
  exact ⟨pss_weak z.pss fun D σ H ⟨L, S, lL, st, sl, ow, q⟩ => ⟨L, S, lL, st, sl, ow.outer, q⟩⟩
end
end Y

/-! Z: more of dict.get; groups lent; rearrangements; defaults. -/
namespace Y
open PySem PySem.Spec PyProof.Rows L2
section
variable {ς α β γ δ κ μ ρ π τ π0 : Type} {X : Cx} {C : Cf} {as : SA} {O : ς → OS} {a b c e elt tg iter : Expr} {es : List Expr} {pos p px p2 apos : Pos} {w w1 w2 : Bool} {kn k : Nat} {os : OS}
/-- d.get(k, None) -/
theorem hx_getN [DecidableEq κ] {kk : KK κ} {r : Rp β} {m : SM ς (List (κ × β))} {mk : SM ς κ} {j : Nat} {pc : Pos} (o : Ok X C kn) (n : NN r) (ha : HX X C a as O m (VP.at w (rDic kk r))) (hb : HX X C b as O mk (VP.at w1 kk.rp)) (mm : M2 X a "get" apos b (.Constant .none j pc) pos := by exact ⟨rfl, rfl, rfl, rfl⟩) :
    HX X C (.Call (.Attribute a "get" apos) [b, .Constant .none j pc] [] pos) as O (SM.map2 (fun d k => dget d k) m mk) (VP.at w (rOpt r)) := ⟨pe_weak (pe_dget2 o.hu ha.pe hb.pe (hx_non (O := O) (C := C) (as := as) (X := X)).pe mm) fun σ H Q ⟨s, S, st, sl, ow, q⟩ =>
  ⟨s, S, st, sl, ow, R.post_mono (R.post_bind.mp q) (fun z k _ v S1 H1 l1 st1 ow1 pv => by
    obtain ⟨p, kvs, e1, hp, hA⟩ := pv
    refine ⟨p, e1, .inl ⟨kvs, .inl (st1.atH w _ _ hp)⟩, z.2, S1, st1, sl.mono l1, ow1, R.post_mono (R.post_bind.mp k) (fun y k2 _ u S2 H2 l2 st2 ow2 pu => ?_) fun _ z => xq_le z⟩
    refine ⟨y.2, S2, st2, (sl.mono l1).mono l2, ow2, fun _ t S3 H3 l3 st3 ow3 pt => ?_⟩
    have pt : t = .non := pt
    subst pt
    have l13 := l2.trans l3
    have hA3 : AD kk.k r (S3.at w) z.1 kvs := hA.mono (l13.at w)
    have hp3 : H3 p = some (.dK kvs) := st3.atH w _ _ ((l13.at w) _ _ hp)
    have pu := kk.law pu
    subst pu
    refine ⟨valV kvs (kk.k y.1), .k hp3, ?_⟩
    have hv := hA3.val kk.inj y.1
    cases q4 : dget z.1 y.1 with
    | none =>
      rw [q4] at hv
      rw [hv]
      refine k2 () .non S3 H3 (l1.trans l13) st3 ow3 ?_
      show (rOpt r).rep (dget z.1 y.1) .non _
      rw [q4]; rfl
    | some x =>
      rw [q4] at hv
      obtain ⟨v', hv, hr⟩ := hv
      rw [hv]
      refine k2 () v' S3 H3 (l1.trans l13) st3 ow3 ?_
      show (rOpt r).rep (dget z.1 y.1) v' _
      rw [q4]; exact ⟨n.nn hr, hr⟩) fun _ z => xq_le z⟩⟩
/-- d.get(k) -/
theorem hx_get1 [DecidableEq κ] {kk : KK κ} {r : Rp β} {m : SM ς (List (κ × β))} {mk : SM ς κ} (o : Ok X C kn) (n : NN r) (ha : HX X C a as O m (VP.at w (rDic kk r))) (hb : HX X C b as O mk (VP.at w1 kk.rp)) (mm : M1 X a "get" apos b pos := by exact ⟨rfl, rfl, rfl, rfl⟩) :
    HX X C (.Call (.Attribute a "get" apos) [b] [] pos) as O (SM.map2 (fun d k => dget d k) m mk) (VP.at w (rOpt r)) := ⟨pe_weak (pe_dget1 o.hu ha.pe hb.pe mm) fun σ H Q ⟨s, S, st, sl, ow, q⟩ =>
  ⟨s, S, st, sl, ow, R.post_mono (R.post_bind.mp q) (fun z k _ v S1 H1 l1 st1 ow1 pv => by
    obtain ⟨p, kvs, e1, hp, hA⟩ := pv
    refine ⟨p, e1, .inl ⟨kvs, .inl (st1.atH w _ _ hp)⟩, z.2, S1, st1, sl.mono l1, ow1, R.post_mono (R.post_bind.mp k) (fun y k2 _ u S2 H2 l2 st2 ow2 pu => ?_) fun _ z => xq_le z⟩
    have hA3 : AD kk.k r (S2.at w) z.1 kvs := hA.mono (l2.at w)
    have hp3 : H2 p = some (.dK kvs) := st2.atH w _ _ ((l2.at w) _ _ hp)
    have pu := kk.law pu
    subst pu
    refine ⟨valV kvs (kk.k y.1), .k hp3, ?_⟩
    have hv := hA3.val kk.inj y.1
    cases q4 : dget z.1 y.1 with
    | none =>
      rw [q4] at hv
      rw [hv]
      refine k2 () .non S2 H2 (l1.trans l2) st2 ow2 ?_
      show (rOpt r).rep (dget z.1 y.1) .non _
      rw [q4]; rfl
    | some x =>
      rw [q4] at hv
      obtain ⟨v', hv, hr⟩ := hv
      rw [hv]
      refine k2 () v' S2 H2 (l1.trans l2) st2 ow2 ?_
      show (rOpt r).rep (dget z.1 y.1) v' _
      rw [q4]; exact ⟨n.nn hr, hr⟩) fun _ z => xq_le z⟩⟩
theorem pb_grp {K : PySem.W.Frag} {r : Rp α} {q : Addr} {ps : List Addr} {xss : List (List α)} (A B' : OS) : Pk K (A ++ (nwG (cLst r) xss (q, ps) ++ B')) (some (VP.ptr q)) (some (VP.bo q (VP.at false (rLst K (rLst K r)) xss))) := .mp fun B S H v st ow pv => by
  have pv : v = .ref q := pv
  refine ⟨pv, ?_⟩
  subst pv
  have ow1 := ow.right.left
  have ow1 : OwL B S H ((⟨q, cPs ps xss.length, true⟩ : OE) :: grp (cLst r) ps xss) := ow1
  obtain ⟨_, ⟨o, h2, h3⟩, _, _, owG⟩ := ow1
  have e : o = .lst (ps.map V.ref) := h3.1
  subst e
  obtain ⟨os, g3⟩ := g3_of h3.2 owG
  refine ⟨q, ps.map V.ref, rfl, ?_, ?_⟩
  · show SqL K (hide H []) q _
    rw [hide_nil]; exact SqL.of h2
  · show A2 (rLst K r) (hide H []) xss _
    rw [hide_nil]; exact g3_a2 (st.gy.trans st.yh) g3
theorem perm_gr (G F R0 : OS) : (G ++ (F ++ R0)).Perm (F ++ (G ++ R0)) := by
  rw [← List.append_assoc, ← List.append_assoc]
  exact List.perm_append_comm.append_right _
theorem perm_gr2 (F1 G F2 R0 : OS) : ((F1 ++ (G ++ [])) ++ (F2 ++ R0)).Perm (F1 ++ (F2 ++ (G ++ R0))) := by
  rw [List.append_nil, List.append_assoc]
  exact (perm_gr G F2 R0).append_left _
theorem own_app_nil {B : Bs} {S : Sv} {H : Hp} (h : OwL B S H os) : OwL B S H (os ++ []) := by rw [List.append_nil]; exact h
theorem mkFkD2 {P : Program} {w : World} {K : PySem.W.Frag} {mg : Str → Option Value} {base : Heap} {k : Nat} {x : Str} {st : Stmt} {dvs : List V} {ps : List Str} {sp : Sp} (D : DfdD K mg x st dvs) (hd : dvs ≠ []) (h : ∀ fd, FunD K x x (defArgs st) (defBody st) (defScope st) dvs [] (He.ga K x) fd → FnOk P w K mg base (L2.CX P w) k (He.ga K x) fd ps sp)
    (hb : ∀ (T : Addr) (kV doc pm : Value) (an : Option Addr) (cdv ct : Value) (us its : List Value), us.length = ps.length → its.length = dvs.length →
      ∃ k, bindArgs (PySem.W.fnOf x x (defArgs st) (defBody st) (defScope st) (.ref T) kV doc pm an cdv ct) ⟨us, []⟩ = seqItems? (.ref T) >>= k ∧ k (some its.toArray) = pure (ps.zip (us ++ its.drop dvs.length))) : Fk P w K mg base k x ps sp := by
  obtain ⟨fd, F⟩ := D.fd
  obtain ⟨ds, hv, hbn⟩ := F.binds1 (ps := ps) ps.length dvs.length hd (by omega) hb
  have e : ds = [] := by
    rw [List.drop_length] at hv
    cases hv; rfl
  subst e
  exact ⟨⟨fd, h fd F, hbn⟩, D.gl, F.kp⟩
end
end Y
namespace Y
open PySem PySem.Spec PyProof.Rows L2
theorem ff_nil : ∀ e ∈ ([] : OS), e.f = false := fun _ m => by cases m
theorem ff_cons {q : Addr} {c : Ct} {os : OS} (h : ∀ e ∈ os, e.f = false) : ∀ e ∈ ((⟨q, c, false⟩ : OE) :: os), e.f = false := fun e m => by
  rcases List.mem_cons.mp m with z | z
  · subst z; rfl
  · exact h e z
end Y

/-! Z: comprehensions assigned: over what is lent, of new owned things. -/
namespace Y
open PySem PySem.Spec PyProof.Rows L2
section
variable {ς α β γ δ κ μ ρ π τ π0 : Type} {X : Cx} {C C' : Cf} {as : SA} {O : ς → OS} {a b c e elt tg iter : Expr} {es : List Expr} {pos p px p2 apos : Pos} {w w1 w2 : Bool} {kn k : Nat} {rst body orelse : List Stmt} {N : Sv → μ → L2.St → Hp → Prop} {T : ρ → V → Hp → Prop} {ι : α → Oc μ ρ} {os : OS}
theorem ps_ex {ι : Type} {st : Stmt} {t : ι → TS} (h : ∀ i, PS X st (t i)) : PS X st (fun D σ H => ∃ i, t i D σ H) := ⟨fun pins s σ H D I ⟨i, q⟩ => (h i).run pins s σ H D I q⟩
theorem ps_lcB {ifs : List Expr} {scope : Scope} {own : List (Str × Nat)} {m : SM ς (List γ)} {t : γ → SM ς Bool} {f : γ → SM ς β} {r : Rp β} (i : Nat) {x : Str} {ps2 : Pos} (hc : X.calm = true) (nd : X.N.Nodup) (h : Lcp X C elt tg iter ifs scope own as O m t f r)
    (hi : X.N[i]? = some x) (hyl : X.env.scope.names.lookup x = some .local) (hsw : swapsWith (.ListComp elt [⟨tg, iter, ifs, 0⟩] scope pos) (some (.Name x px)) ps2.line X.env = pure true) (hs : ∀ x, foldedSetIterable iter X.env x = pure x) :
    PS X (.Assign [.Name x px] (.ListComp elt [⟨tg, iter, ifs, 0⟩] scope pos) ps2) (fun D σ H => tG (π := Addr) C as O (SM.lc m t f) (fun _ p => VP.ptr p) (fun a p => [⟨p, cLst r a, true⟩]) σ H (fun v H1 => D.nx (σ.set i (some v)) H1)) := by
  obtain ⟨P, ts, asT, hit, ok, hts, hg, ht, he⟩ := h.x
  exact ps_weak (ps_setLc hc nd hi hyl hsw hit.pi ok (fun s H A cl fp => pg_ex fun (Bx : Bs × γ) => (hg s H cl A fp Bx.1 Bx.2).pg) (fun s H A cl fp => pts_ex fun (Bx : Bs × γ) => (ht s H cl A fp Bx.1 Bx.2).pt) (fun s H A cl fp => pe_ex fun (Bx : Bs × γ) => (he s H cl A fp Bx.1 Bx.2).pe) hs) fun D σ H h => lc_read hts h
theorem ps_lcqB {ifs : List Expr} {scope : Scope} {own : List (Str × Nat)} {m : SM ς (List γ)} {t : γ → SM ς Bool} {f : γ → SM ς β} {ct : β → Ct} (i : Nat) {x : Str} {ps2 : Pos} (hc : X.calm = true) (nd : X.N.Nodup) (h : Lcq X C elt tg iter ifs scope own as O m t f ct)
    (hi : X.N[i]? = some x) (hyl : X.env.scope.names.lookup x = some .local) (hsw : swapsWith (.ListComp elt [⟨tg, iter, ifs, 0⟩] scope pos) (some (.Name x px)) ps2.line X.env = pure true) (hs : ∀ x, foldedSetIterable iter X.env x = pure x) :
    PS X (.Assign [.Name x px] (.ListComp elt [⟨tg, iter, ifs, 0⟩] scope pos) ps2) (fun D σ H => tG (π := Addr × List Addr) C as O (SM.lc m t f) (fun _ q => VP.ptr q.1) (nwG ct) σ H (fun v H1 => D.nx (σ.set i (some v)) H1)) := by
  obtain ⟨P, ts, asT, hit, ok, hts, hg, ht, he⟩ := h.x
  exact ps_weak (ps_setLc hc nd hi hyl hsw hit.pi ok (fun s H A cl fp => pg_ex fun (Bx : Bs × γ) => (hg s H cl A fp Bx.1 Bx.2).pg) (fun s H A cl fp => pts_ex fun (Bx : Bs × γ) => (ht s H cl A fp Bx.1 Bx.2).pt) (fun s H A cl fp => pe_ex fun (Bx : Bs × γ) => (he s H cl A fp Bx.1 Bx.2).pe) hs) fun D σ H h => lcq_read hts h
/-- x = [..] of new owned things -/
theorem hb_lcQ {ifs : List Expr} {scope : Scope} {own : List (Str × Nat)} {m : SM ς (List γ)} {t : γ → SM ς Bool} {f : γ → SM ς β} {ct : β → Ct} {kk : List β × ς → R α} (i : Nat) {x : Str} {ps2 : Pos} (o : Ok X C kn) (h : Lcq X C elt tg iter ifs scope own as O m t f ct) (s : ς) (hr : ∀ (z : List β × ς) (q : Addr × List Addr), HB X C rst (as.set i (some (VP.ptr q.1))) (nwG ct z.1 q ++ O z.2) (kk z) ι N T)
    (hi : X.N[i]? = some x := by rfl) (hyl : X.env.scope.names.lookup x = some .local := by rfl) (hsw : swapsWith (.ListComp elt [⟨tg, iter, ifs, 0⟩] scope pos) (some (.Name x px)) ps2.line X.env = pure true := by exact sw_true rfl rfl rfl (by decide +kernel)) (hs : ∀ x, foldedSetIterable iter X.env x = pure x := by intro _; rfl) :
    HB X C (.Assign [.Name x px] (.ListComp elt [⟨tg, iter, ifs, 0⟩] scope pos) ps2 :: rst) as (O s) ((SM.lc m t f s).bind kk) ι N T :=
  ⟨pss_weak (pss_cons (ps_lcqB i o.calm o.nd h hi hyl hsw hs) (pss_ex fun (zq : (List β × ς) × (Addr × List Addr)) => (hr zq.1 zq.2).pss)) fun D σ H ⟨L, S, lL, st, sl, ow, q⟩ =>
    ⟨s, S, st, sl, ow, R.post_mono (R.post_bind.mp q) (fun z k' q v S' H' l' st' ow' pv => ⟨(z, q), L, S', lL.trans l', st', (sl.mono l').set pv, ow', k'⟩) fun _ z => xq_le z⟩⟩
/-- x = [..] over what is lent; it stays as it is -/
theorem hb_lcP {ifs : List Expr} {scope : Scope} {own : List (Str × Nat)} {m : SM Unit (List γ)} {t : γ → SM Unit Bool} {f : γ → SM Unit β} {r : Rp β} {kk : List β × Unit → R α} (i : Nat) {x : Str} {ps2 : Pos} (o : Ok X C kn) (as' : SA) (hk : Pks X.K os as as') (h : ∀ B, Lcp X (C.pk B) elt tg iter ifs scope own as' (fun _ : Unit => []) m t f r) (hr : ∀ (z : List β × Unit), HB X C rst (as.set i (some (VP.at true (rLst X.K r) z.1))) os (kk z) ι N T)
    (hi : X.N[i]? = some x := by rfl) (hyl : X.env.scope.names.lookup x = some .local := by rfl) (hsw : swapsWith (.ListComp elt [⟨tg, iter, ifs, 0⟩] scope pos) (some (.Name x px)) ps2.line X.env = pure true := by exact sw_true rfl rfl rfl (by decide +kernel)) (hs : ∀ x, foldedSetIterable iter X.env x = pure x := by intro _; rfl) :
    HB X C (.Assign [.Name x px] (.ListComp elt [⟨tg, iter, ifs, 0⟩] scope pos) ps2 :: rst) as os ((SM.lc m t f ()).calm.bind kk) ι N T :=
  ⟨pss_weak (pss_cons (ps_ex fun (B : Bs) => ps_lcB (C := C.pk B) i o.calm o.nd (h B) hi hyl hsw hs) (pss_ex fun (z : List β × Unit) => (hr z).pss)) fun D σ H ⟨L, S, lL, st, sl, ow, q⟩ => by
    refine ⟨Bs.sub S.g H [], (), S.lend H [], lend_ok st (fun _ m => by cases m), pks_sl st ow hk sl, trivial, R.calm_post (R.post_mono (R.post_bind.mp q) (fun z k p v S1 H1 l1 st1 ow1 pv => ?_) fun _ z => z) _⟩
    have pv : v = .ref p := pv
    subst pv
    have ow1 : OwL (Bs.sub S.g H []) S1 H1 [⟨p, cLst r z.1, true⟩] := ow1
    obtain ⟨h1, ⟨ob, h2, vs, eo, hA⟩, h4, _, _⟩ := ow1
    have eo : ob = .lst vs := eo
    subst eo
    have hpH : H p = none := h4.1 rfl
    have bo := back_ok st st1 (fun _ m => by cases m) (fun _ m => by cases m)
    have bw := back_ow st st1 ow (fun _ _ m => by cases m)
    have hy : (S.back S1).y p = none := by
      show (S.y p).or (S1.g p) = none
      rw [st.ynone hpH, Option.none_or]
      exact st1.gnone h1
    have l2 : (S.back S1).le ((S.back S1).add p (.lst vs)) := Sv.le_add hy (bo.gnone hy)
    refine ⟨z, L, (S.back S1).add p (.lst vs), (lL.trans (back_le st1)).trans l2, bo.frz hy (st.bnone hpH) (st.knone hpH) h2, ((sl.mono (back_le st1)).mono l2).set ⟨p, vs, rfl, SqL.of upd_same, hA.mono l2.g⟩, bw.add hy (bo.gnone hy) (fun e m z => by
      obtain ⟨_, ⟨o, h2, _⟩, _⟩ := ow.mem m
      rw [z, hpH] at h2; cases h2), k⟩⟩
end
end Y
namespace Y
open PySem PySem.Spec PyProof.Rows L2
section
variable {ς α β γ δ κ μ ρ π τ π0 : Type} {X : Cx} {C C' : Cf} {as : SA} {O : ς → OS} {a b c e elt tg iter : Expr} {es : List Expr} {pos p px p2 apos : Pos} {w w1 w2 : Bool} {kn k : Nat}
theorem A2.flat {r : Rp α} (F : FF r) {H H' : Hp} : ∀ {xs : List α} {vs : List V}, A2 r H xs vs → A2 r H' xs vs
  | [], [], _ => trivial
  | _ :: _, _ :: _, h => ⟨F.any h.1, A2.flat F h.2⟩
  | [], _ :: _, h => h.elim
  | _ :: _, [], h => h.elim
theorem hn_listF {r : Rp α} {m : SM ς (List α)} (F : FF r) (hm : X.mg "list" = none) (ha : HX X C e as O m (VP.at w (rLst X.K r))) (hg : Gl X "list" := by rfl)
    (he : starEach [e] X.env = (false, eval e X.env) :: starEach [] X.env := by rfl) (hpl : (backTo pos (starEach [] X.env)).any (·.1) = false := by rfl) : HN X C (.Call (.Name "list" p) [e] [] pos) as O (SM.map1 id m) (cLst r) :=
  hg_callT (f := fun z => .ok (id z)) call_list_of (fun x vs S H os Q st ow h q => by
    obtain ⟨v, e1, pv⟩ := av1 h
    subst e1
    obtain ⟨p, vs, e2, hl, h3⟩ := pv
    subst e2
    exact ⟨p, vs, rfl, .inl ((st.atH w).seq hl), fun l hl => q.newO st ow hl ⟨vs, rfl, h3.flat F⟩⟩) hm (by decide +kernel) (ha_one ha he) hg (by decide) (by decide) he hpl
end
end Y
namespace Y
open PySem PySem.Spec PyProof.Rows L2
theorem HG.nilR {ς α π : Type} {X : Cx} {C : Cf} {e : Expr} {as : SA} {O : ς → OS} {m : SM ς α} {P : α → π → VP} {nw : α → π → OS} (h : HG X C e as O m P (fun a q => nw a q ++ [])) : HG X C e as O m P nw := by
  have e : (fun a q => nw a q ++ []) = nw := by
    funext a q
    exact List.append_nil _
  rw [e] at h
  exact h
end Y

namespace K57
open PySem PySem.Spec PyProof.Rows L2 Y
def places_of_b10 (l4 : (List (Str × Int))) (a5 : (Int × Str)) : R (List (Str × Int)) :=
  ((SM.ret a5.1) (l4)).bind fun z7 => ((SM.ret a5.2) z7.2).bind fun y8 => (dputR ((fun (s : (List (Str × Int))) => s) y8.2) y8.1 z7.1).bind fun l9 => (fun (s6 : (List (Str × Int))) =>
  R.ok (s6)) (l9)
def places_of (x : (List Str)) : R (List (Str × Int)) :=
  ((SM.ret ([] : (List (Str × Int)))) ()).bind fun z1 =>
  ((SM.map1 enumL (SM.ret x)) ()).bind fun z3 => (foldR places_of_b10 (z1.1) z3.1).bind fun l4 =>
  ((SM.ret ()) ()).bind fun z => R.ok l4
def cross (x : ((Str × Str) × (Str × Str) × (List (Str × Int)) × (List (Str × Int)))) : R Bool :=
  ((SM.map2 (· - ·) (SM.bnd2 (fun d k => R.ofO (dget d k)) (SM.ret x.2.2.1) (SM.map1 (fun (x : (Str × Str)) => x.1) (SM.ret x.1))) (SM.bnd2 (fun d k => R.ofO (dget d k)) (SM.ret x.2.2.1) (SM.map1 (fun (x : (Str × Str)) => x.1) (SM.ret x.2.1)))) ()).bind fun z1 =>
  ((SM.map2 (· - ·) (SM.bnd2 (fun d k => R.ofO (dget d k)) (SM.ret x.2.2.2) (SM.map1 (fun (x : (Str × Str)) => x.2) (SM.ret x.1))) (SM.bnd2 (fun d k => R.ofO (dget d k)) (SM.ret x.2.2.2) (SM.map1 (fun (x : (Str × Str)) => x.2) (SM.ret x.2.1)))) ()).bind fun z3 =>
  ((SM.or (SM.and (SM.map2 ltB (SM.ret z1.1) (SM.ret (0 : Int))) (SM.map2 gtB (SM.ret z3.1) (SM.ret (0 : Int)))) (SM.and (SM.map2 gtB (SM.ret z1.1) (SM.ret (0 : Int))) (SM.map2 ltB (SM.ret z3.1) (SM.ret (0 : Int))))) ()).bind fun z => R.ok z.1
def crossings_b16 (z1 : (List (Str × Int)) × Unit) (z3 : (List (Str × Int)) × Unit) (a9 : (Int × (Str × Str))) (l11 : Int) (a12 : (Str × Str)) : R Int :=
  ((SM.bnd1 (fun z => (cross z).calm) (SM.map2 Prod.mk (SM.ret a9.2) (SM.map2 Prod.mk (SM.ret a12) (SM.map2 Prod.mk (SM.ret z1.1) (SM.ret z3.1))))) ()).bind fun z => (if z.1 = true then
  ((SM.map1 (fun b => l11 + b) (SM.ret (1 : Int))) ()).bind fun z15 =>
  R.ok (z15.1) else
  R.ok (l11)).bind fun l14 =>
  R.ok (l14)
def crossings_b17 (x : ((List Str) × (List Str) × (List (Str × Str)))) (z1 : (List (Str × Int)) × Unit) (z3 : (List (Str × Int)) × Unit) (l8 : Int) (a9 : (Int × (Str × Str))) : R Int :=
  ((SM.map3 cutL (SM.ret x.2.2) (SM.ret none) (SM.map1 some (SM.ret a9.1))) ()).bind fun z10 => (foldR (crossings_b16 z1 z3 a9) (l8) z10.1).bind fun l11 =>
  R.ok (l11)
def crossings (x : ((List Str) × (List Str) × (List (Str × Str)))) : R Int :=
  ((SM.bnd1 (fun z => (places_of z).calm) (SM.ret x.1)) ()).bind fun z1 =>
  ((SM.bnd1 (fun z => (places_of z).calm) (SM.ret x.2.1)) ()).bind fun z3 =>
  ((SM.ret (0 : Int)) ()).bind fun z5 =>
  ((SM.map1 enumL (SM.ret x.2.2)) ()).bind fun z7 => (foldR (crossings_b17 x z1 z3) (z5.1) z7.1).bind fun l8 =>
  ((SM.ret l8) ()).bind fun z => R.ok z.1
def ends_of (x : ((List Str) × (List Str) × (List (Str × Str)))) : R (List (List Int)) :=
  ((SM.bnd1 (fun z => (places_of z).calm) (SM.ret x.1)) ()).bind fun z1 =>
  ((SM.lc (SM.ret x.2.1) (fun (a3 : Str) => (SM.ret true)) (fun a3 => (SM.lc (SM.ret x.2.2) (fun (a4 : (Str × Str)) => (SM.map2 eqS (SM.ret a4.2) (SM.ret a3))) (fun a4 => (SM.bnd2 (fun d k => R.ofO (dget d k)) (SM.ret z1.1) (SM.ret a4.1)))))) ()).bind fun z => R.ok z.1
def cost (x : ((List (List Int)) × Int × Int)) : R Int :=
  ((SM.map1 List.sum (SM.lc (SM.bnd2 getI (SM.ret x.1) (SM.ret x.2.1)) (fun (a1 : Int) => (SM.ret true)) (fun a1 => (SM.map1 (fun xs => (xs.length : Int)) (SM.lc (SM.bnd2 getI (SM.ret x.1) (SM.ret x.2.2)) (fun (a2 : Int) => (SM.map2 ltB (SM.ret a2) (SM.ret a1))) (fun a2 => (SM.ret a2))))))) ()).bind fun z => R.ok z.1
def members (x : (Int × Int)) : R (List Int) :=
  ((SM.lc (SM.bnd1 rng1 (SM.ret x.2)) (fun (a1 : Int) => (SM.map2 eqB (SM.map2 Builtin.bitAnd (SM.bnd2 shrR (SM.ret x.1) (SM.ret a1)) (SM.ret (1 : Int))) (SM.ret (1 : Int)))) (fun a1 => (SM.ret a1))) ()).bind fun z => R.ok z.1
def entry (x : ((List (Int × Int)) × (List (List Int)) × Int × Int)) : R Int :=
  ((SM.bnd1 (fun z => (members z).calm) (SM.map2 Prod.mk (SM.map2 (· - ·) (SM.ret x.2.2.1) (SM.bnd2 shlR (SM.ret (1 : Int)) (SM.ret x.2.2.2))) (SM.map1 (fun xs => (xs.length : Int)) (SM.ret x.2.1)))) ()).bind fun z1 =>
  ((SM.map2 (· + ·) (SM.bnd2 (fun d k => R.ofO (dget d k)) (SM.ret x.1) (SM.map2 (· - ·) (SM.ret x.2.2.1) (SM.bnd2 shlR (SM.ret (1 : Int)) (SM.ret x.2.2.2)))) (SM.map1 List.sum (SM.lc (SM.ret z1.1) (fun (a3 : Int) => (SM.ret true)) (fun a3 => (SM.bnd1 (fun z => (cost z).calm) (SM.map2 Prod.mk (SM.ret x.2.1) (SM.map2 Prod.mk (SM.ret a3) (SM.ret x.2.2.2)))))))) ()).bind fun z => R.ok z.1
def least_order_b16 (z1 : Int × Unit) (z3 : (List (List Int)) × Unit) (l8 : (List (Int × Int))) (a9 : Int) : R (List (Int × Int)) :=
  ((SM.pk fun t10 => (SM.bnd1 minL (SM.lc (SM.bnd1 (fun z => (members z).calm) (SM.map2 Prod.mk (SM.ret a9) (SM.ret z1.1))) (fun (a11 : Int) => (SM.ret true)) (fun a11 => (SM.bnd1 (fun z => (entry z).calm) (SM.map2 Prod.mk (SM.ret t10) (SM.map2 Prod.mk (SM.ret z3.1) (SM.map2 Prod.mk (SM.ret a9) (SM.ret a11))))))))) (l8)).bind fun z13 => ((SM.ret a9) z13.2).bind fun y14 => (dputR ((fun (s : (List (Int × Int))) => s) y14.2) y14.1 z13.1).bind fun l15 => (fun (s12 : (List (Int × Int))) =>
  R.ok (s12)) (l15)
def least_order_w33 (x : ((List Str) × (List Str) × (List (Str × Str)))) (z1 : Int × Unit) (z3 : (List (List Int)) × Unit) (l8 : (List (Int × Int))) (l24 : (Int × (List Str))) : R (Int × (List Str)) :=
  ((SM.pk fun t26 => (SM.bnd2 getI (SM.lc (SM.bnd1 (fun z => (members z).calm) (SM.map2 Prod.mk (SM.ret l24.1) (SM.ret z1.1))) (fun (a27 : Int) => (SM.map2 eqB (SM.bnd1 (fun z => (entry z).calm) (SM.map2 Prod.mk (SM.ret l8) (SM.map2 Prod.mk (SM.ret z3.1) (SM.map2 Prod.mk (SM.ret l24.1) (SM.ret a27))))) (SM.bnd2 (fun d k => R.ofO (dget d k)) (SM.ret l8) (SM.ret l24.1)))) (fun a27 => (SM.ret a27))) (SM.ret (0 : Int)))) ()).bind fun z25 =>
  ((fun s => ((SM.map2 Prod.mk (SM.ret (0 : Int)) (SM.bnd2 getI (SM.ret x.2.1) (SM.ret z25.1))) s).bind fun z => (insR ((fun (s : (List Str)) => s) z.2) z.1).bind fun r => R.ok (r.1, (fun (s : (List Str)) (d : (List Str)) => (d)) z.2 r.2)) (l24.2)).bind fun z29 =>
  ((SM.map2 (· - ·) (SM.ret l24.1) (SM.bnd2 shlR (SM.ret (1 : Int)) (SM.ret z25.1))) ()).bind fun z31 =>
  R.ok (z31.1, z29.2)
def least_order_c34 (l24 : (Int × (List Str))) : SM Unit Bool :=
  (SM.map2 gtB (SM.ret l24.1) (SM.ret (0 : Int)))
def least_order (x : ((List Str) × (List Str) × (List (Str × Str)))) : R (Int × (List Str) × (List (Int × Int))) :=
  ((SM.map1 (fun xs => (xs.length : Int)) (SM.ret x.2.1)) ()).bind fun z1 =>
  ((SM.map2 gtB (SM.ret z1.1) (SM.ret (8 : Int))) ()).bind fun z => if z.1 = true then
  R.ex ⟨1, .no⟩ else
  ((SM.bnd1 (fun z => (ends_of z).calm) (SM.map2 Prod.mk (SM.ret x.1) (SM.map2 Prod.mk (SM.ret x.2.1) (SM.ret x.2.2)))) ()).bind fun z3 =>
  ((fun s => (SM.map2 (fun k v => [(k, v)]) (SM.ret (0 : Int)) (SM.ret (0 : Int)) s).calm) ()).bind fun z5 =>
  ((SM.bnd2 rng2 (SM.ret (1 : Int)) (SM.bnd2 shlR (SM.ret (1 : Int)) (SM.ret z1.1))) ()).bind fun z7 => (foldR (least_order_b16 z1 z3) (z5.1) z7.1).bind fun l8 =>
  ((SM.ret ([] : (List Str))) ()).bind fun z17 =>
  ((SM.map2 (· - ·) (SM.bnd2 shlR (SM.ret (1 : Int)) (SM.ret z1.1)) (SM.ret (1 : Int))) ()).bind fun z19 =>
  ((SM.pk fun t22 => (SM.bnd2 (fun d k => R.ofO (dget d k)) (SM.ret l8) (SM.ret z19.1))) ()).bind fun z21 =>
  (whileR0 least_order_c34 (least_order_w33 x z1 z3 l8) ((z19.1).toNat + 1) (z19.1, z17.1)).bind fun (l24 : (Int × (List Str))) =>
  ((SM.map2 Prod.mk (SM.ret z21.1) (SM.map2 Prod.mk (SM.ret ()) (SM.ret ()))) ()).bind fun z => R.ok ((z.1.1, l24.2, l8))
end K57

namespace K56
open PySem PySem.Spec PyProof.Rows L2 Y K57
def top (i : Nat) : Stmt := PySem.Challenge.pw_layerdraw_k56_whole_orders_by_turns.main.body.getD i (.Pass ⟨0, 0, 0, 0⟩)
def xrTM (K : PySem.W.Frag) : Er → Value → Option Addr → Hp → Hp → Prop := fun ε cls d _ _ => ε = ⟨1, .no⟩ ∧ cls = .ref (He.ga K "TooMany") ∧ d = none
section
variable {P : Program} {w : World} {K : PySem.W.Frag} {mg : Str → Option Value} {base : Heap}
abbrev s_places_of : Stmt := top 1
theorem sc_places_of : FnScope ["row", "found", "place", "mark"] ["row"] (defScope s_places_of) := ⟨rfl, rfl, rfl, by decide +kernel, rfl, by decide +kernel, by decide +kernel⟩
abbrev places_of_sp (K : PySem.W.Frag) : Sp := (spF (π0 := Unit) (π := Addr) noX (fun (x : (List Str)) _ => [VP.at false (rLst K rStr) (x)]) (fun _ _ => []) places_of (fun (r : (List (Str × Int))) q => VP.ptr q) (fun _ _ => []) fun r q => ([⟨q, cDic kStr rInt (r), true⟩] : OS))
theorem fk_places_of (bi : Bi mg) (D : Dfd K mg "places_of" s_places_of) : Fk P w K mg base 1 "places_of" ["row"] (places_of_sp K) :=
  mkFk D (fun fd F => fd_ok F sc_places_of 3 (fun _ _ => rfl) rfl fun cdv A outer s H E B x q0 o =>
  hb_asg (ς := Unit) (O := (fun (_ : Unit) => ([] : OS))) 1 o.nd (hn_dnil (kk := kStr) (r := rInt)) () (fun z1 q2 =>
  hb_for (ς := Unit) (O := (fun (_ : Unit) => ([⟨q2, cDic kStr rInt (z1.1), true⟩] : OS))) (P := VP.at false (rTup K (RT.cons rInt (RT.one rStr)))) (l0 := (fun (s : Unit) => (z1.1))) (asL := (fun l4 => [some (VP.at false (rLst K rStr) (x)), some (VP.ptr q2), none, none])) (osL := (fun l4 => ([⟨q2, cDic kStr rInt (l4), true⟩] : OS))) (f := places_of_b10) o (hi_enum bi.enumerate (hx_var (w := false) (r := (rLst K rStr)) 0)) () (by exact fun _ => ⟨.inr rfl, ⟨.inr rfl, ⟨.inl rfl, ⟨.inl rfl, trivial⟩⟩⟩⟩) (fun _ => rfl) (fun l4 a5 => (htg_tup (t := (RT.cons rInt (RT.one rStr))) (by exact o.calm) (htgs_cons (htg_name 2 (by exact o.nd)) (htgs_cons (htg_name 3 (by exact o.nd)) htgs_nil)))) (fun l4 a5 =>
  hb_putD (kk := kStr) (r := rInt) (ς := (List (Str × Int))) (O := (fun (s : (List (Str × Int))) => ([⟨q2, cDic kStr rInt (s), true⟩] : OS))) (kf := fun (s6 : (List (Str × Int))) => _) o 1 0 (fun (s : (List (Str × Int))) => s) (fun (s : (List (Str × Int))) (d : (List (Str × Int))) => (d)) (hx_fl ffInt (hx_var (w := false) (r := rInt) 2)) (hx_fl ffStr (hx_var (w := false) (r := rStr) 3)) (l4) (fun s6 =>
  hb_end (as' := (fun l4 => [some (VP.at false (rLst K rStr) (x)), some (VP.ptr q2), none, none])) (os' := (fun l4 => ([⟨q2, cDic kStr rInt (l4), true⟩] : OS))) (l := (s6)) (by exact ⟨.inr rfl, ⟨.inr rfl, ⟨.inl rfl, ⟨.inl rfl, trivial⟩⟩⟩⟩))) (fun l4 =>
  hb_ret (ς := Unit) (O := (fun (_ : Unit) => ([⟨q2, cDic kStr rInt (l4), true⟩] : OS))) (hx_ptr 1) () (fun _ => rfl) (fun z q v S H st ow pv => ⟨q2, S, st, ow, pv⟩)))) (fun _ _ _ _ _ _ us hl => match us, hl with | [_], _ => rfl)
abbrev s_cross : Stmt := top 2
theorem sc_cross : FnScope ["one", "other", "tops", "lows", "up", "down"] ["one", "other", "tops", "lows"] (defScope s_cross) := ⟨rfl, rfl, rfl, by decide +kernel, rfl, by decide +kernel, by decide +kernel⟩
abbrev cross_sp (K : PySem.W.Frag) : Sp := (spF (π0 := Unit) (π := Unit) noX (fun (x : ((Str × Str) × (Str × Str) × (List (Str × Int)) × (List (Str × Int)))) _ => [VP.at true (rTup K (RT.cons rStr (RT.one rStr))) (x.1), VP.at true (rTup K (RT.cons rStr (RT.one rStr))) (x.2.1), VP.at false (rDic kStr rInt) (x.2.2.1), VP.at false (rDic kStr rInt) (x.2.2.2)]) (fun _ _ => []) cross (fun (r : Bool) q => VP.at true rBl r) (fun _ _ => []) fun r q => ([] : OS))
theorem fk_cross (bi : Bi mg) (D : Dfd K mg "cross" s_cross) : Fk P w K mg base 1 "cross" ["one", "other", "tops", "lows"] (cross_sp K) :=
  mkFk D (fun fd F => fd_ok F sc_cross 2 (fun _ _ => rfl) rfl fun cdv A outer s H E B x q0 o =>
  hb_asg (ς := Unit) (O := (fun (_ : Unit) => ([] : OS))) 4 o.nd (hx_sub (hx_fl ffInt (hx_dget o (hx_var (w := false) (r := (rDic kStr rInt)) 2) (hx_tix (t := (RT.cons rStr (RT.one rStr))) (k := 0) (f := (fun (x : (Str × Str)) => x.1)) tg_0 (hx_var (w := true) (r := (rTup K (RT.cons rStr (RT.one rStr)))) 0)))) (hx_fl ffInt (hx_dget o (hx_var (w := false) (r := (rDic kStr rInt)) 2) (hx_tix (t := (RT.cons rStr (RT.one rStr))) (k := 0) (f := (fun (x : (Str × Str)) => x.1)) tg_0 (hx_var (w := true) (r := (rTup K (RT.cons rStr (RT.one rStr)))) 1))))) () (fun z1 q2 =>
  hb_asg (ς := Unit) (O := (fun (_ : Unit) => ([] : OS))) 5 o.nd (hx_sub (hx_fl ffInt (hx_dget o (hx_var (w := false) (r := (rDic kStr rInt)) 3) (hx_tix (t := (RT.cons rStr (RT.one rStr))) (k := 1) (f := (fun (x : (Str × Str)) => x.2)) (tg_s tg_one) (hx_var (w := true) (r := (rTup K (RT.cons rStr (RT.one rStr)))) 0)))) (hx_fl ffInt (hx_dget o (hx_var (w := false) (r := (rDic kStr rInt)) 3) (hx_tix (t := (RT.cons rStr (RT.one rStr))) (k := 1) (f := (fun (x : (Str × Str)) => x.2)) (tg_s tg_one) (hx_var (w := true) (r := (rTup K (RT.cons rStr (RT.one rStr)))) 1))))) () (fun z3 q4 =>
  hb_ret (ς := Unit) (O := (fun (_ : Unit) => ([] : OS))) (hx_orV (hx_andV (hx_lt (hx_var (w := true) (r := rInt) 4) hx_int) (hx_one (hx_gt (hx_var (w := true) (r := rInt) 5) hx_int))) (hx_one (hx_andV (hx_gt (hx_var (w := true) (r := rInt) 4) hx_int) (hx_one (hx_lt (hx_var (w := true) (r := rInt) 5) hx_int))))) () (fun _ => rfl) (fun z q v S H st ow pv => ⟨(), S, st, trivial, pv⟩)))) (fun _ _ _ _ _ _ us hl => match us, hl with | [_, _, _, _], _ => rfl)
abbrev s_crossings : Stmt := top 3
theorem sc_crossings : FnScope ["upper", "lower", "lines", "tops", "lows", "found", "k", "line", "other"] ["upper", "lower", "lines"] (defScope s_crossings) := ⟨rfl, rfl, rfl, by decide +kernel, rfl, by decide +kernel, by decide +kernel⟩
abbrev crossings_sp (K : PySem.W.Frag) : Sp := (spF (π0 := Unit) (π := Unit) noX (fun (x : ((List Str) × (List Str) × (List (Str × Str)))) _ => [VP.at false (rLst K rStr) (x.1), VP.at false (rLst K rStr) (x.2.1), VP.at true (rLst K (rTup K (RT.cons rStr (RT.one rStr)))) (x.2.2)]) (fun _ _ => []) crossings (fun (r : Int) q => VP.at true rInt r) (fun _ _ => []) fun r q => ([] : OS))
theorem fk_crossings (bi : Bi mg) (D : Dfd K mg "crossings" s_crossings) (fk_places_of_h : Fk P w K mg base 1 "places_of" ["row"] (places_of_sp K)) (fk_cross_h : Fk P w K mg base 1 "cross" ["one", "other", "tops", "lows"] (cross_sp K)) : Fk P w K mg base 2 "crossings" ["upper", "lower", "lines"] (crossings_sp K) :=
  mkFk D (fun fd F => fd_ok F sc_crossings 6 (fun _ _ => rfl) rfl fun cdv A outer s H E B x q0 o =>
  hb_asg (ς := Unit) (O := (fun (_ : Unit) => ([] : OS))) 3 o.nd (HG.frzD (f := id) (hg_fk fk_places_of_h o (by decide) (ha_one (P := VP.at false (rLst K rStr)) (hx_var (w := false) (r := (rLst K rStr)) 0)) (by exact fun _ _ => pg_ptr) (by exact fun _ _ => allF_cons allF_nil))) () (fun z1 q2 =>
  hb_asg (ς := Unit) (O := (fun (_ : Unit) => ([] : OS))) 4 o.nd (HG.frzD (f := id) (hg_fk fk_places_of_h o (by decide) (ha_one (P := VP.at false (rLst K rStr)) (hx_var (w := false) (r := (rLst K rStr)) 1)) (by exact fun _ _ => pg_ptr) (by exact fun _ _ => allF_cons allF_nil))) () (fun z3 q4 =>
  hb_asg (ς := Unit) (O := (fun (_ : Unit) => ([] : OS))) 5 o.nd hx_int () (fun z5 q6 =>
  hb_for (ς := Unit) (O := (fun (_ : Unit) => ([] : OS))) (P := VP.at true (rTup K (RT.cons rInt (RT.one (rTup K (RT.cons rStr (RT.one rStr))))))) (l0 := (fun (s : Unit) => (z5.1))) (asL := (fun l8 => [some (VP.at false (rLst K rStr) (x.1)), some (VP.at false (rLst K rStr) (x.2.1)), some (VP.at true (rLst K (rTup K (RT.cons rStr (RT.one rStr)))) (x.2.2)), some (VP.at true (rDic kStr rInt) (z1.1)), some (VP.at true (rDic kStr rInt) (z3.1)), some (VP.at true rInt (l8)), none, none, none])) (osL := (fun l8 => ([] : OS))) (f := (crossings_b17 x z1 z3)) o (hi_enum bi.enumerate (hx_var (w := true) (r := (rLst K (rTup K (RT.cons rStr (RT.one rStr))))) 2)) () (by exact fun _ => ⟨.inr rfl, ⟨.inr rfl, ⟨.inr rfl, ⟨.inr rfl, ⟨.inr rfl, ⟨.inr rfl, ⟨.inl rfl, ⟨.inl rfl, ⟨.inl rfl, trivial⟩⟩⟩⟩⟩⟩⟩⟩⟩) (fun _ => rfl) (fun l8 a9 => (htg_tup (t := (RT.cons rInt (RT.one (rTup K (RT.cons rStr (RT.one rStr)))))) (by exact o.calm) (htgs_cons (htg_name 6 (by exact o.nd)) (htgs_cons (htg_name 7 (by exact o.nd)) htgs_nil)))) (fun l8 a9 =>
  hb_for (ς := Unit) (O := (fun (_ : Unit) => ([] : OS))) (P := VP.at true (rTup K (RT.cons rStr (RT.one rStr)))) (l0 := (fun (s : Unit) => (l8))) (asL := (fun l11 => [some (VP.at false (rLst K rStr) (x.1)), some (VP.at false (rLst K rStr) (x.2.1)), some (VP.at true (rLst K (rTup K (RT.cons rStr (RT.one rStr)))) (x.2.2)), some (VP.at true (rDic kStr rInt) (z1.1)), some (VP.at true (rDic kStr rInt) (z3.1)), some (VP.at true rInt (l11)), some (VP.at true rInt (a9.1)), some (VP.at true (rTup K (RT.cons rStr (RT.one rStr))) (a9.2)), none])) (osL := (fun l11 => ([] : OS))) (f := (crossings_b16 z1 z3 a9)) o (hi_list (HG.frzL (f := id) (hn_cut (hx_var (w := true) (r := (rLst K (rTup K (RT.cons rStr (RT.one rStr))))) 2) ho_none (ho_some (hx_var (w := true) (r := rInt) 6))))) () (by exact fun _ => ⟨.inr rfl, ⟨.inr rfl, ⟨.inr rfl, ⟨.inr rfl, ⟨.inr rfl, ⟨.inr rfl, ⟨.inr rfl, ⟨.inr rfl, ⟨.inl rfl, trivial⟩⟩⟩⟩⟩⟩⟩⟩⟩) (fun _ => rfl) (fun l11 a12 => (htg_name 8 (by exact o.nd))) (fun l11 a12 =>
  hb_if0 (as1 := (fun l14 => [some (VP.at false (rLst K rStr) (x.1)), some (VP.at false (rLst K rStr) (x.2.1)), some (VP.at true (rLst K (rTup K (RT.cons rStr (RT.one rStr)))) (x.2.2)), some (VP.at true (rDic kStr rInt) (z1.1)), some (VP.at true (rDic kStr rInt) (z3.1)), some (VP.at true rInt (l14)), some (VP.at true rInt (a9.1)), some (VP.at true (rTup K (RT.cons rStr (RT.one rStr))) (a9.2)), some (VP.at true (rTup K (RT.cons rStr (RT.one rStr))) (a12))])) (os1 := (fun l14 => ([] : OS))) (ht_val (hg_fk fk_cross_h o (by decide) (ha_cons (P := VP.at true (rTup K (RT.cons rStr (RT.one rStr)))) (hx_var (w := true) (r := (rTup K (RT.cons rStr (RT.one rStr)))) 7) (ha_cons (P := VP.at true (rTup K (RT.cons rStr (RT.one rStr)))) (hx_var (w := true) (r := (rTup K (RT.cons rStr (RT.one rStr)))) 8) (ha_cons (P := VP.at false (rDic kStr rInt)) (hx_bor (hx_var (w := true) (r := (rDic kStr rInt)) 3)) (ha_one (P := VP.at false (rDic kStr rInt)) (hx_bor (hx_var (w := true) (r := (rDic kStr rInt)) 4)))))) (by exact fun _ _ => pg_at) (by exact fun _ _ => allF_nil))) (
  hb_augI (ς := Unit) (O := (fun (_ : Unit) => ([] : OS))) 5 o.nd rfl hx_int () (fun z15 =>
  hb_end (as' := (fun l14 => [some (VP.at false (rLst K rStr) (x.1)), some (VP.at false (rLst K rStr) (x.2.1)), some (VP.at true (rLst K (rTup K (RT.cons rStr (RT.one rStr)))) (x.2.2)), some (VP.at true (rDic kStr rInt) (z1.1)), some (VP.at true (rDic kStr rInt) (z3.1)), some (VP.at true rInt (l14)), some (VP.at true rInt (a9.1)), some (VP.at true (rTup K (RT.cons rStr (RT.one rStr))) (a9.2)), some (VP.at true (rTup K (RT.cons rStr (RT.one rStr))) (a12))])) (os' := (fun l14 => ([] : OS))) (l := (z15.1)) (by exact ⟨.inr rfl, ⟨.inr rfl, ⟨.inr rfl, ⟨.inr rfl, ⟨.inr rfl, ⟨.inr rfl, ⟨.inr rfl, ⟨.inr rfl, ⟨.inr rfl, trivial⟩⟩⟩⟩⟩⟩⟩⟩⟩))) (
  hb_end (as' := (fun l14 => [some (VP.at false (rLst K rStr) (x.1)), some (VP.at false (rLst K rStr) (x.2.1)), some (VP.at true (rLst K (rTup K (RT.cons rStr (RT.one rStr)))) (x.2.2)), some (VP.at true (rDic kStr rInt) (z1.1)), some (VP.at true (rDic kStr rInt) (z3.1)), some (VP.at true rInt (l14)), some (VP.at true rInt (a9.1)), some (VP.at true (rTup K (RT.cons rStr (RT.one rStr))) (a9.2)), some (VP.at true (rTup K (RT.cons rStr (RT.one rStr))) (a12))])) (os' := (fun l14 => ([] : OS))) (l := (l11)) (by exact ⟨.inr rfl, ⟨.inr rfl, ⟨.inr rfl, ⟨.inr rfl, ⟨.inr rfl, ⟨.inr rfl, ⟨.inr rfl, ⟨.inr rfl, ⟨.inr rfl, trivial⟩⟩⟩⟩⟩⟩⟩⟩⟩)) (fun l14 =>
  hb_end (as' := (fun l11 => [some (VP.at false (rLst K rStr) (x.1)), some (VP.at false (rLst K rStr) (x.2.1)), some (VP.at true (rLst K (rTup K (RT.cons rStr (RT.one rStr)))) (x.2.2)), some (VP.at true (rDic kStr rInt) (z1.1)), some (VP.at true (rDic kStr rInt) (z3.1)), some (VP.at true rInt (l11)), some (VP.at true rInt (a9.1)), some (VP.at true (rTup K (RT.cons rStr (RT.one rStr))) (a9.2)), none])) (os' := (fun l11 => ([] : OS))) (l := (l14)) (by exact ⟨.inr rfl, ⟨.inr rfl, ⟨.inr rfl, ⟨.inr rfl, ⟨.inr rfl, ⟨.inr rfl, ⟨.inr rfl, ⟨.inr rfl, ⟨.inl rfl, trivial⟩⟩⟩⟩⟩⟩⟩⟩⟩))) (fun l11 =>
  hb_end (as' := (fun l8 => [some (VP.at false (rLst K rStr) (x.1)), some (VP.at false (rLst K rStr) (x.2.1)), some (VP.at true (rLst K (rTup K (RT.cons rStr (RT.one rStr)))) (x.2.2)), some (VP.at true (rDic kStr rInt) (z1.1)), some (VP.at true (rDic kStr rInt) (z3.1)), some (VP.at true rInt (l8)), none, none, none])) (os' := (fun l8 => ([] : OS))) (l := (l11)) (by exact ⟨.inr rfl, ⟨.inr rfl, ⟨.inr rfl, ⟨.inr rfl, ⟨.inr rfl, ⟨.inr rfl, ⟨.inl rfl, ⟨.inl rfl, ⟨.inl rfl, trivial⟩⟩⟩⟩⟩⟩⟩⟩⟩))) (fun l8 =>
  hb_ret (ς := Unit) (O := (fun (_ : Unit) => ([] : OS))) (hx_var (w := true) (r := rInt) 5) () (fun _ => rfl) (fun z q v S H st ow pv => ⟨(), S, st, trivial, pv⟩)))))) (fun _ _ _ _ _ _ us hl => match us, hl with | [_, _, _], _ => rfl)
abbrev s_ends_of : Stmt := top 21
theorem sc_ends_of : FnScope ["fixed", "free", "lines", "places", "mark", "one", "other"] ["fixed", "free", "lines"] (defScope s_ends_of) := ⟨rfl, rfl, rfl, by decide +kernel, rfl, by decide +kernel, by decide +kernel⟩
abbrev ends_of_sp (K : PySem.W.Frag) : Sp := (spF (π0 := Unit) (π := Unit) noX (fun (x : ((List Str) × (List Str) × (List (Str × Str)))) _ => [VP.at false (rLst K rStr) (x.1), VP.at false (rLst K rStr) (x.2.1), VP.at true (rLst K (rTup K (RT.cons rStr (RT.one rStr)))) (x.2.2)]) (fun _ _ => []) ends_of (fun (r : (List (List Int))) q => VP.at true (rLst K (rLst K rInt)) r) (fun _ _ => []) fun r q => ([] : OS))
theorem fk_ends_of (bi : Bi mg) (D : Dfd K mg "ends_of" s_ends_of) (fk_places_of_h : Fk P w K mg base 1 "places_of" ["row"] (places_of_sp K)) : Fk P w K mg base 2 "ends_of" ["fixed", "free", "lines"] (ends_of_sp K) :=
  mkFk D (fun fd F => fd_ok F sc_ends_of 4 (fun _ _ => rfl) rfl fun cdv A outer s H E B x q0 o =>
  hb_asg (ς := Unit) (O := (fun (_ : Unit) => ([] : OS))) 3 o.nd (HG.frzD (f := id) (hg_fk fk_places_of_h o (by decide) (ha_one (P := VP.at false (rLst K rStr)) (hx_var (w := false) (r := (rLst K rStr)) 0)) (by exact fun _ _ => pg_ptr) (by exact fun _ _ => allF_cons allF_nil))) () (fun z1 q2 =>
  hb_ret (ς := Unit) (O := (fun (_ : Unit) => ([] : OS))) (HG.frzL (f := id) (hn_lc (r := (rLst K rInt)) o (Lcp.mk ⟨VP.at false rStr, [4], _, (hi_list (hx_var (w := false) (r := (rLst K rStr)) 1)), blkOk_by (own := [("mark", 4)]) (by rfl), (by decide), fun _ _ _ _ _ _ a3 => (htg_name 4 (by exact o.nd)), fun _ _ _ _ _ _ a3 => hts_nil, fun _ _ _ _ _ _ a3 => (HG.frzL (f := id) (hn_lc (r := rInt) (Ok.blk o) (Lcp.mk ⟨VP.at true (rTup K (RT.cons rStr (RT.one rStr))), [5, 6], _, (hi_list (hx_var (w := true) (r := (rLst K (rTup K (RT.cons rStr (RT.one rStr))))) 2)), blkOk_by (own := [("one", 5), ("other", 6)]) (by rfl), (by decide), fun _ _ _ _ _ _ a4 => (htg_tup (t := (RT.cons rStr (RT.one rStr))) (by exact o.calm) (htgs_cons (htg_name 5 (by exact o.nd)) (htgs_cons (htg_name 6 (by exact o.nd)) htgs_nil))), fun _ _ _ _ _ _ a4 => (hts_one (ht_eqS (hx_var (w := true) (r := rStr) 6) (hx_fl ffStr (hx_var (w := false) (r := rStr) 4)))), fun _ _ _ _ _ _ a4 => (hx_dget (Ok.blk (Ok.blk o)) (hx_var (w := true) (r := (rDic kStr rInt)) 3) (hx_var (w := true) (r := rStr) 5))⟩)))⟩))) () (fun _ => rfl) (fun z q v S H st ow pv => ⟨(), S, st, trivial, pv⟩))) (fun _ _ _ _ _ _ us hl => match us, hl with | [_, _, _], _ => rfl)
abbrev s_cost : Stmt := top 22
theorem sc_cost : FnScope ["ends", "ahead", "behind", "a", "b"] ["ends", "ahead", "behind"] (defScope s_cost) := ⟨rfl, rfl, rfl, by decide +kernel, rfl, by decide +kernel, by decide +kernel⟩
abbrev cost_sp (K : PySem.W.Frag) : Sp := (spF (π0 := Unit) (π := Unit) noX (fun (x : ((List (List Int)) × Int × Int)) _ => [VP.at true (rLst K (rLst K rInt)) (x.1), VP.at true rInt (x.2.1), VP.at true rInt (x.2.2)]) (fun _ _ => []) cost (fun (r : Int) q => VP.at true rInt r) (fun _ _ => []) fun r q => ([] : OS))
theorem fk_cost (bi : Bi mg) (D : Dfd K mg "cost" s_cost) : Fk P w K mg base 1 "cost" ["ends", "ahead", "behind"] (cost_sp K) :=
  mkFk D (fun fd F => fd_ok F sc_cost 2 (fun _ _ => rfl) rfl fun cdv A outer s H E B x q0 o =>
  hb_ret (ς := Unit) (O := (fun (_ : Unit) => ([] : OS))) (hx_sum (by exact o.calm) bi.sum (HG.frzL (f := id) (hn_lc (r := rInt) o (Lcp.mk ⟨VP.at true rInt, [3], _, (hi_list (hx_idx (hx_var (w := true) (r := (rLst K (rLst K rInt))) 0) (hx_var (w := true) (r := rInt) 1))), blkOk_by (own := [("a", 3)]) (by rfl), (by decide), fun _ _ _ _ _ _ a1 => (htg_name 3 (by exact o.nd)), fun _ _ _ _ _ _ a1 => hts_nil, fun _ _ _ _ _ _ a1 => (hx_lenL bi.len (HG.frzL (f := id) (hn_lc (r := rInt) (Ok.blk o) (Lcp.mk ⟨VP.at true rInt, [4], _, (hi_list (hx_idx (hx_var (w := true) (r := (rLst K (rLst K rInt))) 0) (hx_var (w := true) (r := rInt) 2))), blkOk_by (own := [("b", 4)]) (by rfl), (by decide), fun _ _ _ _ _ _ a2 => (htg_name 4 (by exact o.nd)), fun _ _ _ _ _ _ a2 => (hts_one (ht_lt (hx_var (w := true) (r := rInt) 4) (hx_var (w := true) (r := rInt) 3))), fun _ _ _ _ _ _ a2 => (hx_var (w := true) (r := rInt) 4)⟩))))⟩)))) () (fun _ => rfl) (fun z q v S H st ow pv => ⟨(), S, st, trivial, pv⟩)) (fun _ _ _ _ _ _ us hl => match us, hl with | [_, _, _], _ => rfl)
abbrev s_members : Stmt := top 23
theorem sc_members : FnScope ["some", "many", "h"] ["some", "many"] (defScope s_members) := ⟨rfl, rfl, rfl, by decide +kernel, rfl, by decide +kernel, by decide +kernel⟩
abbrev members_sp (K : PySem.W.Frag) : Sp := (spF (π0 := Unit) (π := Unit) noX (fun (x : (Int × Int)) _ => [VP.at true rInt (x.1), VP.at true rInt (x.2)]) (fun _ _ => []) members (fun (r : (List Int)) q => VP.at true (rLst K rInt) r) (fun _ _ => []) fun r q => ([] : OS))
theorem fk_members (bi : Bi mg) (D : Dfd K mg "members" s_members) : Fk P w K mg base 1 "members" ["some", "many"] (members_sp K) :=
  mkFk D (fun fd F => fd_ok F sc_members 1 (fun _ _ => rfl) rfl fun cdv A outer s H E B x q0 o =>
  hb_ret (ς := Unit) (O := (fun (_ : Unit) => ([] : OS))) (HG.frzL (f := id) (hn_lc (r := rInt) o (Lcp.mk ⟨VP.at true rInt, [2], _, (hi_range1 bi.range (hx_var (w := true) (r := rInt) 1)), blkOk_by (own := [("h", 2)]) (by rfl), (by decide), fun _ _ _ _ _ _ a1 => (htg_name 2 (by exact o.nd)), fun _ _ _ _ _ _ a1 => (hts_one (ht_eq (hx_and (hx_shr (hx_var (w := true) (r := rInt) 0) (hx_var (w := true) (r := rInt) 2)) hx_int) hx_int)), fun _ _ _ _ _ _ a1 => (hx_var (w := true) (r := rInt) 2)⟩))) () (fun _ => rfl) (fun z q v S H st ow pv => ⟨(), S, st, trivial, pv⟩)) (fun _ _ _ _ _ _ us hl => match us, hl with | [_, _], _ => rfl)
abbrev s_entry : Stmt := top 24
theorem sc_entry : FnScope ["table", "ends", "some", "last", "rest", "g"] ["table", "ends", "some", "last"] (defScope s_entry) := ⟨rfl, rfl, rfl, by decide +kernel, rfl, by decide +kernel, by decide +kernel⟩
abbrev entry_sp (K : PySem.W.Frag) : Sp := (spF (π0 := Unit) (π := Unit) noX (fun (x : ((List (Int × Int)) × (List (List Int)) × Int × Int)) _ => [VP.at false (rDic kInt rInt) (x.1), VP.at true (rLst K (rLst K rInt)) (x.2.1), VP.at true rInt (x.2.2.1), VP.at true rInt (x.2.2.2)]) (fun _ _ => []) entry (fun (r : Int) q => VP.at true rInt r) (fun _ _ => []) fun r q => ([] : OS))
theorem fk_entry (bi : Bi mg) (D : Dfd K mg "entry" s_entry) (fk_members_h : Fk P w K mg base 1 "members" ["some", "many"] (members_sp K)) (fk_cost_h : Fk P w K mg base 1 "cost" ["ends", "ahead", "behind"] (cost_sp K)) : Fk P w K mg base 2 "entry" ["table", "ends", "some", "last"] (entry_sp K) :=
  mkFk D (fun fd F => fd_ok F sc_entry 2 (fun _ _ => rfl) rfl fun cdv A outer s H E B x q0 o =>
  hb_asg (ς := Unit) (O := (fun (_ : Unit) => ([] : OS))) 4 o.nd (hg_fk fk_members_h o (by decide) (ha_cons (P := VP.at true rInt) (hx_sub (hx_var (w := true) (r := rInt) 2) (hx_shl hx_int (hx_var (w := true) (r := rInt) 3))) (ha_one (P := VP.at true rInt) (hx_lenL bi.len (hx_var (w := true) (r := (rLst K (rLst K rInt))) 1)))) (by exact fun _ _ => pg_at) (by exact fun _ _ => allF_nil)) () (fun z1 q2 =>
  hb_ret (ς := Unit) (O := (fun (_ : Unit) => ([] : OS))) (hx_add (hx_fl ffInt (hx_dget o (hx_var (w := false) (r := (rDic kInt rInt)) 0) (hx_sub (hx_var (w := true) (r := rInt) 2) (hx_shl hx_int (hx_var (w := true) (r := rInt) 3))))) (hx_sum (by exact o.calm) bi.sum (HG.frzL (f := id) (hn_lc (r := rInt) o (Lcp.mk ⟨VP.at true rInt, [5], _, (hi_list (hx_var (w := true) (r := (rLst K rInt)) 4)), blkOk_by (own := [("g", 5)]) (by rfl), (by decide), fun _ _ _ _ _ _ a3 => (htg_name 5 (by exact o.nd)), fun _ _ _ _ _ _ a3 => hts_nil, fun _ _ _ _ _ _ a3 => (hg_fk fk_cost_h (Ok.blk o) (by decide) (ha_cons (P := VP.at true (rLst K (rLst K rInt))) (hx_var (w := true) (r := (rLst K (rLst K rInt))) 1) (ha_cons (P := VP.at true rInt) (hx_var (w := true) (r := rInt) 5) (ha_one (P := VP.at true rInt) (hx_var (w := true) (r := rInt) 3)))) (by exact fun _ _ => pg_at) (by exact fun _ _ => allF_nil))⟩))))) () (fun _ => rfl) (fun z q v S H st ow pv => ⟨(), S, st, trivial, pv⟩))) (fun _ _ _ _ _ _ us hl => match us, hl with | [_, _, _, _], _ => rfl)
abbrev s_least_order : Stmt := top 25
theorem sc_least_order : FnScope ["fixed", "free", "lines", "many", "ends", "table", "some", "last", "order", "left", "number", "h"] ["fixed", "free", "lines"] (defScope s_least_order) := ⟨rfl, rfl, rfl, by decide +kernel, rfl, by decide +kernel, by decide +kernel⟩
abbrev least_order_sp (K : PySem.W.Frag) : Sp := (spF (π0 := Unit) (π := (Addr × Addr)) (xrTM K) (fun (x : ((List Str) × (List Str) × (List (Str × Str)))) _ => [VP.at true (rLst K rStr) (x.1), VP.at true (rLst K rStr) (x.2.1), VP.at true (rLst K (rTup K (RT.cons rStr (RT.one rStr)))) (x.2.2)]) (fun _ _ => []) least_order (fun (r : (Int × (List Str) × (List (Int × Int)))) q => VP.tup K [VP.at true rInt (r.1), VP.ptr q.1, VP.ptr q.2]) (fun _ _ => []) fun r q => ([⟨q.1, cLst rStr (r.2.1), true⟩, ⟨q.2, cDic kInt rInt (r.2.2), true⟩] : OS))
theorem fk_least_order (bi : Bi mg) (D : Dfd K mg "least_order" s_least_order) (gc_MOST : ∃ t, mg "MOST" = some (.int 8 t)) (xd_TooMany : Xd K mg "TooMany") (fk_ends_of_h : Fk P w K mg base 2 "ends_of" ["fixed", "free", "lines"] (ends_of_sp K)) (fk_members_h : Fk P w K mg base 1 "members" ["some", "many"] (members_sp K)) (fk_entry_h : Fk P w K mg base 2 "entry" ["table", "ends", "some", "last"] (entry_sp K)) : Fk P w K mg base 3 "least_order" ["fixed", "free", "lines"] (least_order_sp K) :=
  mkFk D (fun fd F => fd_ok F sc_least_order 9 (fun _ _ => rfl) rfl fun cdv A outer s H E B x q0 o =>
  hb_asg (ς := Unit) (O := (fun (_ : Unit) => ([] : OS))) 3 o.nd (hx_lenL bi.len (hx_var (w := true) (r := (rLst K rStr)) 1)) () (fun z1 q2 =>
  hb_ifR0 (ht_gt (hx_var (w := true) (r := rInt) 3) (hx_glob (i := 8) gc_MOST)) (
  hb_raiseN o xd_TooMany trivial (fun _ _ _ => trivial) (by intro _ _; exact ⟨rfl, rfl, rfl⟩)) (
  hb_asg (ς := Unit) (O := (fun (_ : Unit) => ([] : OS))) 4 o.nd (hg_fk fk_ends_of_h o (by decide) (ha_cons (P := VP.at false (rLst K rStr)) (hx_bor (hx_var (w := true) (r := (rLst K rStr)) 0)) (ha_cons (P := VP.at false (rLst K rStr)) (hx_bor (hx_var (w := true) (r := (rLst K rStr)) 1)) (ha_one (P := VP.at true (rLst K (rTup K (RT.cons rStr (RT.one rStr))))) (hx_var (w := true) (r := (rLst K (rTup K (RT.cons rStr (RT.one rStr))))) 2)))) (by exact fun _ _ => pg_at) (by exact fun _ _ => allF_nil)) () (fun z3 q4 =>
  hb_asg (ς := Unit) (O := (fun (_ : Unit) => ([] : OS))) 5 o.nd (hn_done (kk := kInt) (fun _ => hx_int) (fun _ => hx_int)) () (fun z5 q6 =>
  hb_for (ς := Unit) (O := (fun (_ : Unit) => ([⟨q6, cDic kInt rInt (z5.1), true⟩] : OS))) (P := VP.at true rInt) (l0 := (fun (s : Unit) => (z5.1))) (asL := (fun l8 => [some (VP.at true (rLst K rStr) (x.1)), some (VP.at true (rLst K rStr) (x.2.1)), some (VP.at true (rLst K (rTup K (RT.cons rStr (RT.one rStr)))) (x.2.2)), some (VP.at true rInt (z1.1)), some (VP.at true (rLst K (rLst K rInt)) (z3.1)), some (VP.ptr q6), none, none, none, none, none, none])) (osL := (fun l8 => ([⟨q6, cDic kInt rInt (l8), true⟩] : OS))) (f := (least_order_b16 z1 z3)) o (hi_range2 bi.range hx_int (hx_shl hx_int (hx_var (w := true) (r := rInt) 3))) () (by exact fun _ => ⟨.inr rfl, ⟨.inr rfl, ⟨.inr rfl, ⟨.inr rfl, ⟨.inr rfl, ⟨.inr rfl, ⟨.inl rfl, ⟨.inl rfl, ⟨.inl rfl, ⟨.inl rfl, ⟨.inl rfl, ⟨.inl rfl, trivial⟩⟩⟩⟩⟩⟩⟩⟩⟩⟩⟩⟩) (fun _ => rfl) (fun l8 a9 => (htg_name 6 (by exact o.nd))) (fun l8 a9 =>
  hb_putD (kk := kInt) (r := rInt) (ς := (List (Int × Int))) (O := (fun (s : (List (Int × Int))) => ([⟨q6, cDic kInt rInt (s), true⟩] : OS))) (kf := fun (s12 : (List (Int × Int))) => _) o 5 0 (fun (s : (List (Int × Int))) => s) (fun (s : (List (Int × Int))) (d : (List (Int × Int))) => (d)) (hx_pk (fun (t10 : (List (Int × Int))) => [none, none, none, some (VP.at true rInt (z1.1)), some (VP.at true (rLst K (rLst K rInt)) (z3.1)), some (VP.at false (rDic kInt rInt) (t10)), some (VP.at true rInt (a9)), none, none, none, none, none]) _ (by exact fun _ => ⟨.no, ⟨.no, ⟨.no, ⟨.same, ⟨.same, ⟨pk_dic 0, ⟨.same, ⟨.no, ⟨.no, ⟨.no, ⟨.no, ⟨.no, trivial⟩⟩⟩⟩⟩⟩⟩⟩⟩⟩⟩⟩) fun _ _ => (hx_minL (by exact o.calm) bi.min (HG.frzL (f := id) (hn_lc (r := rInt) (Ok.pk o _) (Lcp.mk ⟨VP.at true rInt, [7], _, (hi_list (hg_fk fk_members_h (Ok.pk o _) (by decide) (ha_cons (P := VP.at true rInt) (hx_var (w := true) (r := rInt) 6) (ha_one (P := VP.at true rInt) (hx_var (w := true) (r := rInt) 3))) (by exact fun _ _ => pg_at) (by exact fun _ _ => allF_nil))), blkOk_by (own := [("last", 7)]) (by rfl), (by decide), fun _ _ _ _ _ _ a11 => (htg_name 7 (by exact o.nd)), fun _ _ _ _ _ _ a11 => hts_nil, fun _ _ _ _ _ _ a11 => (hg_fk fk_entry_h (Ok.blk (Ok.pk o _)) (by decide) (ha_cons (P := VP.at false (rDic kInt rInt)) (hx_var (w := false) (r := (rDic kInt rInt)) 5) (ha_cons (P := VP.at true (rLst K (rLst K rInt))) (hx_var (w := true) (r := (rLst K (rLst K rInt))) 4) (ha_cons (P := VP.at true rInt) (hx_var (w := true) (r := rInt) 6) (ha_one (P := VP.at true rInt) (hx_var (w := true) (r := rInt) 7))))) (by exact fun _ _ => pg_at) (by exact fun _ _ => allF_nil))⟩))))) (hx_var (w := true) (r := rInt) 6) (l8) (fun s12 =>
  hb_end (as' := (fun l8 => [some (VP.at true (rLst K rStr) (x.1)), some (VP.at true (rLst K rStr) (x.2.1)), some (VP.at true (rLst K (rTup K (RT.cons rStr (RT.one rStr)))) (x.2.2)), some (VP.at true rInt (z1.1)), some (VP.at true (rLst K (rLst K rInt)) (z3.1)), some (VP.ptr q6), none, none, none, none, none, none])) (os' := (fun l8 => ([⟨q6, cDic kInt rInt (l8), true⟩] : OS))) (l := (s12)) (by exact ⟨.inr rfl, ⟨.inr rfl, ⟨.inr rfl, ⟨.inr rfl, ⟨.inr rfl, ⟨.inr rfl, ⟨.inl rfl, ⟨.inl rfl, ⟨.inl rfl, ⟨.inl rfl, ⟨.inl rfl, ⟨.inl rfl, trivial⟩⟩⟩⟩⟩⟩⟩⟩⟩⟩⟩⟩))) (fun l8 =>
  hb_asg (ς := Unit) (O := (fun (_ : Unit) => ([⟨q6, cDic kInt rInt (l8), true⟩] : OS))) 8 o.nd (hn_nil (r := rStr)) () (fun z17 q18 =>
  hb_asg (ς := Unit) (O := (fun (_ : Unit) => ([⟨q18, cLst rStr (z17.1), true⟩, ⟨q6, cDic kInt rInt (l8), true⟩] : OS))) 9 o.nd (hx_sub (hx_shl hx_int (hx_var (w := true) (r := rInt) 3)) hx_int) () (fun z19 q20 =>
  hb_asg (ς := Unit) (O := (fun (_ : Unit) => ([⟨q18, cLst rStr (z17.1), true⟩, ⟨q6, cDic kInt rInt (l8), true⟩] : OS))) 10 o.nd (hx_pk (fun (t22 : Unit) => [none, none, none, none, none, some (VP.at false (rDic kInt rInt) (l8)), none, none, none, some (VP.at true rInt (z19.1)), none, none]) _ (by exact fun _ => ⟨.no, ⟨.no, ⟨.no, ⟨.no, ⟨.no, ⟨pk_dic 1, ⟨.no, ⟨.no, ⟨.no, ⟨.same, ⟨.no, ⟨.no, trivial⟩⟩⟩⟩⟩⟩⟩⟩⟩⟩⟩⟩) fun _ _ => (hx_fl ffInt (hx_dget (Ok.pk o _) (hx_var (w := false) (r := (rDic kInt rInt)) 5) (hx_var (w := true) (r := rInt) 9)))) () (fun z21 q23 =>
  hb_while0 (mc := least_order_c34) (f := (least_order_w33 x z1 z3 l8)) (n := (z19.1).toNat + 1) (l0 := (z19.1, z17.1)) (asL := (fun l24 => [some (VP.at true (rLst K rStr) (x.1)), some (VP.at true (rLst K rStr) (x.2.1)), some (VP.at true (rLst K (rTup K (RT.cons rStr (RT.one rStr)))) (x.2.2)), some (VP.at true rInt (z1.1)), some (VP.at true (rLst K (rLst K rInt)) (z3.1)), some (VP.ptr q6), none, none, some (VP.ptr q18), some (VP.at true rInt (l24.1)), some (VP.at true rInt (z21.1)), none])) (osL := (fun l24 => ([⟨q18, cLst rStr (l24.2), true⟩, ⟨q6, cDic kInt rInt (l8), true⟩] : OS))) o (by exact ⟨.inr rfl, ⟨.inr rfl, ⟨.inr rfl, ⟨.inr rfl, ⟨.inr rfl, ⟨.inr rfl, ⟨.inl rfl, ⟨.inl rfl, ⟨.inr rfl, ⟨.inr rfl, ⟨.inr rfl, ⟨.inl rfl, trivial⟩⟩⟩⟩⟩⟩⟩⟩⟩⟩⟩⟩) rfl (fun l24 => (ht_gt (hx_var (w := true) (r := rInt) 9) hx_int)) (fun l24 =>
  hb_asg (ς := Unit) (O := (fun (_ : Unit) => ([⟨q18, cLst rStr (l24.2), true⟩, ⟨q6, cDic kInt rInt (l8), true⟩] : OS))) 7 o.nd (hx_pk (fun (t26 : Unit) => [none, none, none, some (VP.at true rInt (z1.1)), some (VP.at true (rLst K (rLst K rInt)) (z3.1)), some (VP.at false (rDic kInt rInt) (l8)), none, none, none, some (VP.at true rInt (l24.1)), none, none]) _ (by exact fun _ => ⟨.no, ⟨.no, ⟨.no, ⟨.same, ⟨.same, ⟨pk_dic 1, ⟨.no, ⟨.no, ⟨.no, ⟨.same, ⟨.no, ⟨.no, trivial⟩⟩⟩⟩⟩⟩⟩⟩⟩⟩⟩⟩) fun _ _ => (hx_idx (HG.frzL (f := id) (hn_lc (r := rInt) (Ok.pk o _) (Lcp.mk ⟨VP.at true rInt, [11], _, (hi_list (hg_fk fk_members_h (Ok.pk o _) (by decide) (ha_cons (P := VP.at true rInt) (hx_var (w := true) (r := rInt) 9) (ha_one (P := VP.at true rInt) (hx_var (w := true) (r := rInt) 3))) (by exact fun _ _ => pg_at) (by exact fun _ _ => allF_nil))), blkOk_by (own := [("h", 11)]) (by rfl), (by decide), fun _ _ _ _ _ _ a27 => (htg_name 11 (by exact o.nd)), fun _ _ _ _ _ _ a27 => (hts_one (ht_eq (hg_fk fk_entry_h (Ok.blk (Ok.pk o _)) (by decide) (ha_cons (P := VP.at false (rDic kInt rInt)) (hx_var (w := false) (r := (rDic kInt rInt)) 5) (ha_cons (P := VP.at true (rLst K (rLst K rInt))) (hx_var (w := true) (r := (rLst K (rLst K rInt))) 4) (ha_cons (P := VP.at true rInt) (hx_var (w := true) (r := rInt) 9) (ha_one (P := VP.at true rInt) (hx_var (w := true) (r := rInt) 11))))) (by exact fun _ _ => pg_at) (by exact fun _ _ => allF_nil)) (hx_fl ffInt (hx_dget (Ok.blk (Ok.pk o _)) (hx_var (w := false) (r := (rDic kInt rInt)) 5) (hx_var (w := true) (r := rInt) 9))))), fun _ _ _ _ _ _ a27 => (hx_var (w := true) (r := rInt) 11)⟩))) hx_int)) () (fun z25 q28 =>
  hb_expr (ς := (List Str)) (O := (fun (s : (List Str)) => ([⟨q18, cLst rStr (s), true⟩, ⟨q6, cDic kInt rInt (l8), true⟩] : OS))) (hx_mutL PySem.F.slot_list_insert PySem.F.type_list_insert mt_insert (ov_ins (rp := rStr)) 8 0 (fun (s : (List Str)) => s) (fun (s : (List Str)) (d : (List Str)) => (d)) (ha_cons (P := VP.at true rInt) hx_int (ha_one (P := VP.at true rStr) (hx_idx (hx_var (w := true) (r := (rLst K rStr)) 1) (hx_var (w := true) (r := rInt) 7))))) (l24.2) (fun z29 q30 =>
  hb_asg (ς := Unit) (O := (fun (_ : Unit) => ([⟨q18, cLst rStr (z29.2), true⟩, ⟨q6, cDic kInt rInt (l8), true⟩] : OS))) 9 o.nd (hx_sub (hx_var (w := true) (r := rInt) 9) (hx_shl hx_int (hx_var (w := true) (r := rInt) 7))) () (fun z31 q32 =>
  hb_end (as' := (fun l24 => [some (VP.at true (rLst K rStr) (x.1)), some (VP.at true (rLst K rStr) (x.2.1)), some (VP.at true (rLst K (rTup K (RT.cons rStr (RT.one rStr)))) (x.2.2)), some (VP.at true rInt (z1.1)), some (VP.at true (rLst K (rLst K rInt)) (z3.1)), some (VP.ptr q6), none, none, some (VP.ptr q18), some (VP.at true rInt (l24.1)), some (VP.at true rInt (z21.1)), none])) (os' := (fun l24 => ([⟨q18, cLst rStr (l24.2), true⟩, ⟨q6, cDic kInt rInt (l8), true⟩] : OS))) (l := (z31.1, z29.2)) (by exact ⟨.inr rfl, ⟨.inr rfl, ⟨.inr rfl, ⟨.inr rfl, ⟨.inr rfl, ⟨.inr rfl, ⟨.inl rfl, ⟨.inl rfl, ⟨.inr rfl, ⟨.inr rfl, ⟨.inr rfl, ⟨.inl rfl, trivial⟩⟩⟩⟩⟩⟩⟩⟩⟩⟩⟩⟩))))) (fun l24 =>
  hb_ret (ς := Unit) (O := (fun (_ : Unit) => ([⟨q18, cLst rStr (l24.2), true⟩, ⟨q6, cDic kInt rInt (l8), true⟩] : OS))) (hx_tupV (hn := fun _ => Nat.le_of_ble_eq_true rfl) (ha_cons (P := VP.at true rInt) (hx_var (w := true) (r := rInt) 10) (ha_cons (hx_ptr 8) (ha_one (hx_ptr 5))))) () (fun _ => rfl) (fun z q v S H st ow pv => ⟨(q18, q6), S, st, ow, pv⟩))))))))))) (fun _ _ _ _ _ _ us hl => match us, hl with | [_, _, _], _ => rfl)
abbrev s_between : Stmt := top 4
theorem sc_between : FnScope ["rows", "k", "lines", "line"] ["rows", "k", "lines"] (defScope s_between) := ⟨rfl, rfl, rfl, by decide +kernel, rfl, by decide +kernel, by decide +kernel⟩
def between (x : ((List (List Str)) × Int × (List (Str × Str)))) : R (List (Str × Str)) :=
  ((SM.lc (SM.ret x.2.2) (fun (a1 : (Str × Str)) => (SM.and (SM.map2 inL (SM.map1 (fun (x : (Str × Str)) => x.1) (SM.ret a1)) (SM.bnd2 getI (SM.ret x.1) (SM.ret x.2.1))) (SM.map2 inL (SM.map1 (fun (x : (Str × Str)) => x.2) (SM.ret a1)) (SM.bnd2 getI (SM.ret x.1) (SM.map2 (· + ·) (SM.ret x.2.1) (SM.ret (1 : Int))))))) (fun a1 => (SM.ret a1))) ()).bind fun z => R.ok z.1
abbrev between_sp (K : PySem.W.Frag) : Sp := (spF (π0 := Unit) (π := Unit) noX (fun (x : ((List (List Str)) × Int × (List (Str × Str)))) _ => [VP.at false (rLst K (rLst K rStr)) (x.1), VP.at true rInt (x.2.1), VP.at true (rLst K (rTup K (RT.cons rStr (RT.one rStr)))) (x.2.2)]) (fun _ _ => []) between (fun (r : (List (Str × Str))) q => VP.at true (rLst K (rTup K (RT.cons rStr (RT.one rStr)))) r) (fun _ _ => []) fun r q => ([] : OS))
theorem fk_between (bi : Bi mg) (D : Dfd K mg "between" s_between) : Fk P w K mg base 1 "between" ["rows", "k", "lines"] (between_sp K) :=
  mkFk D (fun fd F => fd_ok F sc_between 1 (fun _ _ => rfl) rfl fun cdv A outer s H E B x q0 o =>
  hb_ret (ς := Unit) (O := (fun (_ : Unit) => ([] : OS))) (HG.frzL (f := id) (hn_lc (r := (rTup K (RT.cons rStr (RT.one rStr)))) o (Lcp.mk ⟨VP.at true (rTup K (RT.cons rStr (RT.one rStr))), [3], _, (hi_list (hx_var (w := true) (r := (rLst K (rTup K (RT.cons rStr (RT.one rStr))))) 2)), blkOk_by (own := [("line", 3)]) (by rfl), (by decide), fun _ _ _ _ _ _ a1 => (htg_name 3 (by exact o.nd)), fun _ _ _ _ _ _ a1 => (hts_one (HW.t (hw_and (ht_inL frStr (hx_tix (t := (RT.cons rStr (RT.one rStr))) (k := 0) (f := (fun (x : (Str × Str)) => x.1)) tg_0 (hx_var (w := true) (r := (rTup K (RT.cons rStr (RT.one rStr)))) 3)) (hx_idx (hx_var (w := false) (r := (rLst K (rLst K rStr))) 0) (hx_var (w := true) (r := rInt) 1))) (hw_and1 (ht_inL frStr (hx_tix (t := (RT.cons rStr (RT.one rStr))) (k := 1) (f := (fun (x : (Str × Str)) => x.2)) (tg_s tg_one) (hx_var (w := true) (r := (rTup K (RT.cons rStr (RT.one rStr)))) 3)) (hx_idx (hx_var (w := false) (r := (rLst K (rLst K rStr))) 0) (hx_add (hx_var (w := true) (r := rInt) 1) hx_int))))))), fun _ _ _ _ _ _ a1 => (hx_var (w := true) (r := (rTup K (RT.cons rStr (RT.one rStr)))) 3)⟩))) () (fun _ => rfl) (fun z q v S H st ow pv => ⟨(), S, st, trivial, pv⟩)) (fun _ _ _ _ _ _ us hl => match us, hl with | [_, _, _], _ => rfl)
abbrev s_all_crossings : Stmt := top 5
theorem sc_all_crossings : FnScope ["rows", "lines", "k"] ["rows", "lines"] (defScope s_all_crossings) := ⟨rfl, rfl, rfl, by decide +kernel, rfl, by decide +kernel, by decide +kernel⟩
def all_crossings (x : ((List (List Str)) × (List (Str × Str)))) : R Int :=
  ((SM.map1 List.sum (SM.lc (SM.bnd1 rng1 (SM.map2 (· - ·) (SM.map1 (fun xs => (xs.length : Int)) (SM.ret x.1)) (SM.ret (1 : Int)))) (fun (a1 : Int) => (SM.ret true)) (fun a1 => (SM.bnd1 (fun z => (crossings z).calm) (SM.map2 Prod.mk (SM.bnd2 getI (SM.ret x.1) (SM.ret a1)) (SM.map2 Prod.mk (SM.bnd2 getI (SM.ret x.1) (SM.map2 (· + ·) (SM.ret a1) (SM.ret (1 : Int)))) (SM.bnd1 (fun z => (between z).calm) (SM.map2 Prod.mk (SM.ret x.1) (SM.map2 Prod.mk (SM.ret a1) (SM.ret x.2)))))))))) ()).bind fun z => R.ok z.1
abbrev all_crossings_sp (K : PySem.W.Frag) : Sp := (spF (π0 := Unit) (π := Unit) noX (fun (x : ((List (List Str)) × (List (Str × Str)))) _ => [VP.at false (rLst K (rLst K rStr)) (x.1), VP.at true (rLst K (rTup K (RT.cons rStr (RT.one rStr)))) (x.2)]) (fun _ _ => []) all_crossings (fun (r : Int) q => VP.at true rInt r) (fun _ _ => []) fun r q => ([] : OS))
theorem fk_all_crossings (bi : Bi mg) (D : Dfd K mg "all_crossings" s_all_crossings) (fk_crossings_h : Fk P w K mg base 2 "crossings" ["upper", "lower", "lines"] (crossings_sp K)) (fk_between_h : Fk P w K mg base 1 "between" ["rows", "k", "lines"] (between_sp K)) : Fk P w K mg base 3 "all_crossings" ["rows", "lines"] (all_crossings_sp K) :=
  mkFk D (fun fd F => fd_ok F sc_all_crossings 1 (fun _ _ => rfl) rfl fun cdv A outer s H E B x q0 o =>
  hb_ret (ς := Unit) (O := (fun (_ : Unit) => ([] : OS))) (hx_sum (by exact o.calm) bi.sum (HG.frzL (f := id) (hn_lc (r := rInt) o (Lcp.mk ⟨VP.at true rInt, [2], _, (hi_range1 bi.range (hx_sub (hx_lenL bi.len (hx_var (w := false) (r := (rLst K (rLst K rStr))) 0)) hx_int)), blkOk_by (own := [("k", 2)]) (by rfl), (by decide), fun _ _ _ _ _ _ a1 => (htg_name 2 (by exact o.nd)), fun _ _ _ _ _ _ a1 => hts_nil, fun _ _ _ _ _ _ a1 => (hg_fk fk_crossings_h (Ok.blk o) (by decide) (ha_cons (P := VP.at false (rLst K rStr)) (hx_idx (hx_var (w := false) (r := (rLst K (rLst K rStr))) 0) (hx_var (w := true) (r := rInt) 2)) (ha_cons (P := VP.at false (rLst K rStr)) (hx_idx (hx_var (w := false) (r := (rLst K (rLst K rStr))) 0) (hx_add (hx_var (w := true) (r := rInt) 2) hx_int)) (ha_one (P := VP.at true (rLst K (rTup K (RT.cons rStr (RT.one rStr))))) (hg_fk fk_between_h (Ok.blk o) (by decide) (ha_cons (P := VP.at false (rLst K (rLst K rStr))) (hx_var (w := false) (r := (rLst K (rLst K rStr))) 0) (ha_cons (P := VP.at true rInt) (hx_var (w := true) (r := rInt) 2) (ha_one (P := VP.at true (rLst K (rTup K (RT.cons rStr (RT.one rStr))))) (hx_var (w := true) (r := (rLst K (rTup K (RT.cons rStr (RT.one rStr))))) 1)))) (by exact fun _ _ => pg_at) (by exact fun _ _ => allF_nil))))) (by exact fun _ _ => pg_at) (by exact fun _ _ => allF_nil))⟩)))) () (fun _ => rfl) (fun z q v S H st ow pv => ⟨(), S, st, trivial, pv⟩)) (fun _ _ _ _ _ _ us hl => match us, hl with | [_, _], _ => rfl)
abbrev s_middle_of : Stmt := top 6
theorem sc_middle_of : FnScope ["mark", "own", "others"] ["mark", "own", "others"] (defScope s_middle_of) := ⟨rfl, rfl, rfl, by decide +kernel, rfl, by decide +kernel, by decide +kernel⟩
def middle_of (x : (Str × Int × (List Int))) : R (Int × Int) :=
  ((SM.bnd2 (eqD ((dqLst dqInt) : DQ K0 (rLst K0 rInt)).can) (SM.ret x.2.2) (SM.ret ([] : (List Int)))) ()).bind fun z => if z.1 = true then
  ((SM.map2 Prod.mk (SM.ret x.2.1) (SM.ret (1 : Int))) ()).bind fun z => R.ok z.1 else
  ((SM.map2 Prod.mk (SM.map1 List.sum (SM.ret x.2.2)) (SM.map1 (fun xs => (xs.length : Int)) (SM.ret x.2.2))) ()).bind fun z => R.ok z.1
abbrev middle_of_sp (K : PySem.W.Frag) : Sp := (spF (π0 := Unit) (π := Unit) noX (fun (x : (Str × Int × (List Int))) _ => [VP.at true rStr (x.1), VP.at true rInt (x.2.1), VP.at true (rLst K rInt) (x.2.2)]) (fun _ _ => []) middle_of (fun (r : (Int × Int)) q => VP.at true (rTup K (RT.cons rInt (RT.one rInt))) r) (fun _ _ => []) fun r q => ([] : OS))
theorem fk_middle_of (bi : Bi mg) (D : Dfd K mg "middle_of" s_middle_of) : Fk P w K mg base 1 "middle_of" ["mark", "own", "others"] (middle_of_sp K) :=
  mkFk D (fun fd F => fd_ok F sc_middle_of 0 (fun _ _ => rfl) rfl fun cdv A outer s H E B x q0 o =>
  hb_ifR0 (ht_eqD (hn := Nat.le_of_ble_eq_true rfl) o (dqLst dqInt) (hx_var (w := true) (r := (rLst K rInt)) 2) (HG.frzL (f := id) (hn_nil (r := rInt)))) (
  hb_ret (ς := Unit) (O := (fun (_ : Unit) => ([] : OS))) (hx_tup (t := (RT.cons rInt (RT.one rInt))) (w := true) (hn := Nat.le_of_ble_eq_true rfl) (ha_cons (P := VP.at true rInt) (hx_var (w := true) (r := rInt) 1) (ha_one (P := VP.at true rInt) hx_int))) () (fun _ => rfl) (fun z q v S H st ow pv => ⟨(), S, st, trivial, pv⟩)) (
  hb_ret (ς := Unit) (O := (fun (_ : Unit) => ([] : OS))) (hx_tup (t := (RT.cons rInt (RT.one rInt))) (w := true) (hn := Nat.le_of_ble_eq_true rfl) (ha_cons (P := VP.at true rInt) (hx_sum (by exact o.calm) bi.sum (hx_var (w := true) (r := (rLst K rInt)) 2)) (ha_one (P := VP.at true rInt) (hx_lenL bi.len (hx_var (w := true) (r := (rLst K rInt)) 2))))) () (fun _ => rfl) (fun z q v S H st ow pv => ⟨(), S, st, trivial, pv⟩))) (fun _ _ _ _ _ _ us hl => match us, hl with | [_, _, _], _ => rfl)
abbrev s_sorted_row : Stmt := top 7
theorem sc_sorted_row : FnScope ["row", "beside", "pairs", "places", "found", "own", "mark", "middle", "at", "one", "other"] ["row", "beside", "pairs"] (defScope s_sorted_row) := ⟨rfl, rfl, rfl, by decide +kernel, rfl, by decide +kernel, by decide +kernel⟩
def sorted_row_w16 (l13 : Int) : R Int :=
  ((SM.map1 (fun b => l13 + b) (SM.ret (1 : Int))) ()).bind fun z15 =>
  R.ok (z15.1)
def sorted_row_c17 (x : ((List Str) × (List Str) × (List (Str × Str)))) (l6 : (List (Str × (Int × Int)))) (z8 : (Int × Int) × Unit) (l13 : Int) : SM Unit Bool :=
  (SM.pk fun t14 => (SM.and (SM.map2 ltB (SM.ret l13) (SM.map1 (fun xs => (xs.length : Int)) (SM.ret l6))) (SM.map2 leB (SM.bnd2 mulR (SM.map1 (fun (x : (Int × Int)) => x.1) (SM.map1 (fun (x : (Str × (Int × Int))) => x.2) (SM.bnd2 getI (SM.ret l6) (SM.ret l13)))) (SM.map1 (fun (x : (Int × Int)) => x.2) (SM.ret z8.1))) (SM.bnd2 mulR (SM.map1 (fun (x : (Int × Int)) => x.1) (SM.ret z8.1)) (SM.map1 (fun (x : (Int × Int)) => x.2) (SM.map1 (fun (x : (Str × (Int × Int))) => x.2) (SM.bnd2 getI (SM.ret l6) (SM.ret l13))))))))
def sorted_row_b20 (x : ((List Str) × (List Str) × (List (Str × Str)))) (z1 : (List (Str × Int)) × Unit) (l6 : (List (Str × (Int × Int)))) (a7 : (Int × Str)) : R (List (Str × (Int × Int))) :=
  ((SM.bnd1 (fun z => (middle_of z).calm) (SM.map2 Prod.mk (SM.ret a7.2) (SM.map2 Prod.mk (SM.ret a7.1) (SM.lc (SM.ret x.2.2) (fun (a9 : (Str × Str)) => (SM.map2 eqS (SM.ret a9.1) (SM.ret a7.2))) (fun a9 => (SM.bnd2 (fun d k => R.ofO (dget d k)) (SM.ret z1.1) (SM.ret a9.2))))))) ()).bind fun z8 =>
  ((SM.ret (0 : Int)) ()).bind fun z11 =>
  (whileR0 (sorted_row_c17 x l6 z8) sorted_row_w16 ((l6).length + 1) (z11.1)).bind fun (l13 : Int) =>
  ((fun s => ((SM.map2 Prod.mk (SM.ret l13) (SM.map2 Prod.mk (SM.ret a7.2) (SM.ret z8.1))) s).bind fun z => (insR ((fun (s : (List (Str × (Int × Int)))) => s) z.2) z.1).bind fun r => R.ok (r.1, (fun (s : (List (Str × (Int × Int)))) (d : (List (Str × (Int × Int)))) => (d)) z.2 r.2)) (l6)).bind fun z18 =>
  R.ok (z18.2)
def sorted_row (x : ((List Str) × (List Str) × (List (Str × Str)))) : R (List Str) :=
  ((SM.bnd1 (fun z => (places_of z).calm) (SM.ret x.2.1)) ()).bind fun z1 =>
  ((SM.ret ([] : (List (Str × (Int × Int))))) ()).bind fun z3 =>
  ((SM.map1 enumL (SM.ret x.1)) ()).bind fun z5 => (foldR (sorted_row_b20 x z1) (z3.1) z5.1).bind fun l6 =>
  ((SM.pk fun t21 => (SM.lc (SM.ret l6) (fun (a22 : (Str × (Int × Int))) => (SM.ret true)) (fun a22 => (SM.ret a22.1)))) ()).bind fun z => R.ok z.1
abbrev sorted_row_sp (K : PySem.W.Frag) : Sp := (spF (π0 := Unit) (π := Unit) noX (fun (x : ((List Str) × (List Str) × (List (Str × Str)))) _ => [VP.at false (rLst K rStr) (x.1), VP.at false (rLst K rStr) (x.2.1), VP.at true (rLst K (rTup K (RT.cons rStr (RT.one rStr)))) (x.2.2)]) (fun _ _ => []) sorted_row (fun (r : (List Str)) q => VP.at true (rLst K rStr) r) (fun _ _ => []) fun r q => ([] : OS))
theorem fk_sorted_row (bi : Bi mg) (D : Dfd K mg "sorted_row" s_sorted_row) (fk_places_of_h : Fk P w K mg base 1 "places_of" ["row"] (places_of_sp K)) (fk_middle_of_h : Fk P w K mg base 1 "middle_of" ["mark", "own", "others"] (middle_of_sp K)) : Fk P w K mg base 2 "sorted_row" ["row", "beside", "pairs"] (sorted_row_sp K) :=
  mkFk D (fun fd F => fd_ok F sc_sorted_row 8 (fun _ _ => rfl) rfl fun cdv A outer s H E B x q0 o =>
  hb_asg (ς := Unit) (O := (fun (_ : Unit) => ([] : OS))) 3 o.nd (HG.frzD (f := id) (hg_fk fk_places_of_h o (by decide) (ha_one (P := VP.at false (rLst K rStr)) (hx_var (w := false) (r := (rLst K rStr)) 1)) (by exact fun _ _ => pg_ptr) (by exact fun _ _ => allF_cons allF_nil))) () (fun z1 q2 =>
  hb_asg (ς := Unit) (O := (fun (_ : Unit) => ([] : OS))) 4 o.nd (hn_nil (r := (rTup K (RT.cons rStr (RT.one (rTup K (RT.cons rInt (RT.one rInt)))))))) () (fun z3 q4 =>
  hb_for (ς := Unit) (O := (fun (_ : Unit) => ([⟨q4, cLst (rTup K (RT.cons rStr (RT.one (rTup K (RT.cons rInt (RT.one rInt)))))) (z3.1), true⟩] : OS))) (P := VP.at false (rTup K (RT.cons rInt (RT.one rStr)))) (l0 := (fun (s : Unit) => (z3.1))) (asL := (fun l6 => [some (VP.at false (rLst K rStr) (x.1)), some (VP.at false (rLst K rStr) (x.2.1)), some (VP.at true (rLst K (rTup K (RT.cons rStr (RT.one rStr)))) (x.2.2)), some (VP.at true (rDic kStr rInt) (z1.1)), some (VP.ptr q4), none, none, none, none, none, none])) (osL := (fun l6 => ([⟨q4, cLst (rTup K (RT.cons rStr (RT.one (rTup K (RT.cons rInt (RT.one rInt)))))) (l6), true⟩] : OS))) (f := (sorted_row_b20 x z1)) o (hi_enum bi.enumerate (hx_var (w := false) (r := (rLst K rStr)) 0)) () (by exact fun _ => ⟨.inr rfl, ⟨.inr rfl, ⟨.inr rfl, ⟨.inr rfl, ⟨.inr rfl, ⟨.inl rfl, ⟨.inl rfl, ⟨.inl rfl, ⟨.inl rfl, ⟨.inl rfl, ⟨.inl rfl, trivial⟩⟩⟩⟩⟩⟩⟩⟩⟩⟩⟩) (fun _ => rfl) (fun l6 a7 => (htg_tup (t := (RT.cons rInt (RT.one rStr))) (by exact o.calm) (htgs_cons (htg_name 5 (by exact o.nd)) (htgs_cons (htg_name 6 (by exact o.nd)) htgs_nil)))) (fun l6 a7 =>
  hb_asg (ς := Unit) (O := (fun (_ : Unit) => ([⟨q4, cLst (rTup K (RT.cons rStr (RT.one (rTup K (RT.cons rInt (RT.one rInt)))))) (l6), true⟩] : OS))) 7 o.nd (hg_fk fk_middle_of_h o (by decide) (ha_cons (P := VP.at true rStr) (hx_fl ffStr (hx_var (w := false) (r := rStr) 6)) (ha_cons (P := VP.at true rInt) (hx_fl ffInt (hx_var (w := false) (r := rInt) 5)) (ha_one (P := VP.at true (rLst K rInt)) (HG.frzL (f := id) (hn_lc (r := rInt) o (Lcp.mk ⟨VP.at true (rTup K (RT.cons rStr (RT.one rStr))), [9, 10], _, (hi_list (hx_var (w := true) (r := (rLst K (rTup K (RT.cons rStr (RT.one rStr))))) 2)), blkOk_by (own := [("one", 9), ("other", 10)]) (by rfl), (by decide), fun _ _ _ _ _ _ a9 => (htg_tup (t := (RT.cons rStr (RT.one rStr))) (by exact o.calm) (htgs_cons (htg_name 9 (by exact o.nd)) (htgs_cons (htg_name 10 (by exact o.nd)) htgs_nil))), fun _ _ _ _ _ _ a9 => (hts_one (ht_eqS (hx_var (w := true) (r := rStr) 9) (hx_fl ffStr (hx_var (w := false) (r := rStr) 6)))), fun _ _ _ _ _ _ a9 => (hx_dget (Ok.blk o) (hx_var (w := true) (r := (rDic kStr rInt)) 3) (hx_var (w := true) (r := rStr) 10))⟩)))))) (by exact fun _ _ => pg_at) (by exact fun _ _ => allF_nil)) () (fun z8 q10 =>
  hb_asg (ς := Unit) (O := (fun (_ : Unit) => ([⟨q4, cLst (rTup K (RT.cons rStr (RT.one (rTup K (RT.cons rInt (RT.one rInt)))))) (l6), true⟩] : OS))) 8 o.nd hx_int () (fun z11 q12 =>
  hb_while0 (mc := (sorted_row_c17 x l6 z8)) (f := sorted_row_w16) (n := (l6).length + 1) (l0 := (z11.1)) (asL := (fun l13 => [some (VP.at false (rLst K rStr) (x.1)), some (VP.at false (rLst K rStr) (x.2.1)), some (VP.at true (rLst K (rTup K (RT.cons rStr (RT.one rStr)))) (x.2.2)), some (VP.at true (rDic kStr rInt) (z1.1)), some (VP.ptr q4), some (VP.at false rInt (a7.1)), some (VP.at false rStr (a7.2)), some (VP.at true (rTup K (RT.cons rInt (RT.one rInt))) (z8.1)), some (VP.at true rInt (l13)), none, none])) (osL := (fun l13 => ([⟨q4, cLst (rTup K (RT.cons rStr (RT.one (rTup K (RT.cons rInt (RT.one rInt)))))) (l6), true⟩] : OS))) o (by exact ⟨.inr rfl, ⟨.inr rfl, ⟨.inr rfl, ⟨.inr rfl, ⟨.inr rfl, ⟨.inr rfl, ⟨.inr rfl, ⟨.inr rfl, ⟨.inr rfl, ⟨.inl rfl, ⟨.inl rfl, trivial⟩⟩⟩⟩⟩⟩⟩⟩⟩⟩⟩) rfl (fun l13 => (ht_pk (fun (t14 : Unit) => [none, none, none, none, some (VP.at false (rLst K (rTup K (RT.cons rStr (RT.one (rTup K (RT.cons rInt (RT.one rInt))))))) (l6)), none, none, some (VP.at true (rTup K (RT.cons rInt (RT.one rInt))) (z8.1)), some (VP.at true rInt (l13)), none, none]) (by exact fun _ => ⟨.no, ⟨.no, ⟨.no, ⟨.no, ⟨pk_lst 0, ⟨.no, ⟨.no, ⟨.same, ⟨.same, ⟨.no, ⟨.no, trivial⟩⟩⟩⟩⟩⟩⟩⟩⟩⟩⟩) fun _ _ => (HW.t (hw_and (ht_lt (hx_var (w := true) (r := rInt) 8) (hx_lenL bi.len (hx_var (w := false) (r := (rLst K (rTup K (RT.cons rStr (RT.one (rTup K (RT.cons rInt (RT.one rInt)))))))) 4))) (hw_and1 (ht_le (hx_mul (hx_fl ffInt (hx_tix (t := (RT.cons rInt (RT.one rInt))) (k := 0) (f := (fun (x : (Int × Int)) => x.1)) tg_0 (hx_tix (t := (RT.cons rStr (RT.one (rTup K (RT.cons rInt (RT.one rInt)))))) (k := 1) (f := (fun (x : (Str × (Int × Int))) => x.2)) (tg_s tg_one) (hx_idx (hx_var (w := false) (r := (rLst K (rTup K (RT.cons rStr (RT.one (rTup K (RT.cons rInt (RT.one rInt)))))))) 4) (hx_var (w := true) (r := rInt) 8))))) (hx_tix (t := (RT.cons rInt (RT.one rInt))) (k := 1) (f := (fun (x : (Int × Int)) => x.2)) (tg_s tg_one) (hx_var (w := true) (r := (rTup K (RT.cons rInt (RT.one rInt)))) 7))) (hx_mul (hx_tix (t := (RT.cons rInt (RT.one rInt))) (k := 0) (f := (fun (x : (Int × Int)) => x.1)) tg_0 (hx_var (w := true) (r := (rTup K (RT.cons rInt (RT.one rInt)))) 7)) (hx_fl ffInt (hx_tix (t := (RT.cons rInt (RT.one rInt))) (k := 1) (f := (fun (x : (Int × Int)) => x.2)) (tg_s tg_one) (hx_tix (t := (RT.cons rStr (RT.one (rTup K (RT.cons rInt (RT.one rInt)))))) (k := 1) (f := (fun (x : (Str × (Int × Int))) => x.2)) (tg_s tg_one) (hx_idx (hx_var (w := false) (r := (rLst K (rTup K (RT.cons rStr (RT.one (rTup K (RT.cons rInt (RT.one rInt)))))))) 4) (hx_var (w := true) (r := rInt) 8)))))))))))) (fun l13 =>
  hb_augI (ς := Unit) (O := (fun (_ : Unit) => ([⟨q4, cLst (rTup K (RT.cons rStr (RT.one (rTup K (RT.cons rInt (RT.one rInt)))))) (l6), true⟩] : OS))) 8 o.nd rfl hx_int () (fun z15 =>
  hb_end (as' := (fun l13 => [some (VP.at false (rLst K rStr) (x.1)), some (VP.at false (rLst K rStr) (x.2.1)), some (VP.at true (rLst K (rTup K (RT.cons rStr (RT.one rStr)))) (x.2.2)), some (VP.at true (rDic kStr rInt) (z1.1)), some (VP.ptr q4), some (VP.at false rInt (a7.1)), some (VP.at false rStr (a7.2)), some (VP.at true (rTup K (RT.cons rInt (RT.one rInt))) (z8.1)), some (VP.at true rInt (l13)), none, none])) (os' := (fun l13 => ([⟨q4, cLst (rTup K (RT.cons rStr (RT.one (rTup K (RT.cons rInt (RT.one rInt)))))) (l6), true⟩] : OS))) (l := (z15.1)) (by exact ⟨.inr rfl, ⟨.inr rfl, ⟨.inr rfl, ⟨.inr rfl, ⟨.inr rfl, ⟨.inr rfl, ⟨.inr rfl, ⟨.inr rfl, ⟨.inr rfl, ⟨.inl rfl, ⟨.inl rfl, trivial⟩⟩⟩⟩⟩⟩⟩⟩⟩⟩⟩))) (fun l13 =>
  hb_expr (ς := (List (Str × (Int × Int)))) (O := (fun (s : (List (Str × (Int × Int)))) => ([⟨q4, cLst (rTup K (RT.cons rStr (RT.one (rTup K (RT.cons rInt (RT.one rInt)))))) (s), true⟩] : OS))) (hx_mutL PySem.F.slot_list_insert PySem.F.type_list_insert mt_insert (ov_ins (rp := (rTup K (RT.cons rStr (RT.one (rTup K (RT.cons rInt (RT.one rInt)))))))) 4 0 (fun (s : (List (Str × (Int × Int)))) => s) (fun (s : (List (Str × (Int × Int)))) (d : (List (Str × (Int × Int)))) => (d)) (ha_cons (P := VP.at true rInt) (hx_var (w := true) (r := rInt) 8) (ha_one (P := VP.at true (rTup K (RT.cons rStr (RT.one (rTup K (RT.cons rInt (RT.one rInt))))))) (hx_tup (t := (RT.cons rStr (RT.one (rTup K (RT.cons rInt (RT.one rInt)))))) (w := true) (hn := Nat.le_of_ble_eq_true rfl) (ha_cons (P := VP.at true rStr) (hx_fl ffStr (hx_var (w := false) (r := rStr) 6)) (ha_one (P := VP.at true (rTup K (RT.cons rInt (RT.one rInt)))) (hx_var (w := true) (r := (rTup K (RT.cons rInt (RT.one rInt)))) 7))))))) (l6) (fun z18 q19 =>
  hb_end (as' := (fun l6 => [some (VP.at false (rLst K rStr) (x.1)), some (VP.at false (rLst K rStr) (x.2.1)), some (VP.at true (rLst K (rTup K (RT.cons rStr (RT.one rStr)))) (x.2.2)), some (VP.at true (rDic kStr rInt) (z1.1)), some (VP.ptr q4), none, none, none, none, none, none])) (os' := (fun l6 => ([⟨q4, cLst (rTup K (RT.cons rStr (RT.one (rTup K (RT.cons rInt (RT.one rInt)))))) (l6), true⟩] : OS))) (l := (z18.2)) (by exact ⟨.inr rfl, ⟨.inr rfl, ⟨.inr rfl, ⟨.inr rfl, ⟨.inr rfl, ⟨.inl rfl, ⟨.inl rfl, ⟨.inl rfl, ⟨.inl rfl, ⟨.inl rfl, ⟨.inl rfl, trivial⟩⟩⟩⟩⟩⟩⟩⟩⟩⟩⟩)))))) (fun l6 =>
  hb_ret (ς := Unit) (O := (fun (_ : Unit) => ([⟨q4, cLst (rTup K (RT.cons rStr (RT.one (rTup K (RT.cons rInt (RT.one rInt)))))) (l6), true⟩] : OS))) (HG.frzL (f := id) (hn_pk (fun (t21 : Unit) => [none, none, none, none, some (VP.at false (rLst K (rTup K (RT.cons rStr (RT.one (rTup K (RT.cons rInt (RT.one rInt))))))) (l6)), none, none, none, none, none, none]) _ (by exact fun _ => ⟨.no, ⟨.no, ⟨.no, ⟨.no, ⟨pk_lst 0, ⟨.no, ⟨.no, ⟨.no, ⟨.no, ⟨.no, ⟨.no, trivial⟩⟩⟩⟩⟩⟩⟩⟩⟩⟩⟩) fun _ _ => (hn_lc (r := rStr) (Ok.pk o _) (Lcp.mk ⟨VP.at false (rTup K (RT.cons rStr (RT.one (rTup K (RT.cons rInt (RT.one rInt)))))), [6, 7], _, (hi_list (hx_var (w := false) (r := (rLst K (rTup K (RT.cons rStr (RT.one (rTup K (RT.cons rInt (RT.one rInt)))))))) 4)), blkOk_by (own := [("mark", 6), ("middle", 7)]) (by rfl), (by decide), fun _ _ _ _ _ _ a22 => (htg_tup (t := (RT.cons rStr (RT.one (rTup K (RT.cons rInt (RT.one rInt)))))) (by exact o.calm) (htgs_cons (htg_name 6 (by exact o.nd)) (htgs_cons (htg_name 7 (by exact o.nd)) htgs_nil))), fun _ _ _ _ _ _ a22 => hts_nil, fun _ _ _ _ _ _ a22 => (hx_fl ffStr (hx_var (w := false) (r := rStr) 6))⟩)))) () (fun _ => rfl) (fun z q v S H st ow pv => ⟨(), S, st, trivial, pv⟩))))) (fun _ _ _ _ _ _ us hl => match us, hl with | [_, _, _], _ => rfl)
abbrev s_swept_down : Stmt := top 8
theorem sc_swept_down : FnScope ["rows", "lines", "found", "row", "k", "pairs", "upper", "lower"] ["rows", "lines"] (defScope s_swept_down) := ⟨rfl, rfl, rfl, by decide +kernel, rfl, by decide +kernel, by decide +kernel⟩
def swept_down_b15 (x : ((List (List Str)) × (List (Str × Str)))) (l5 : (List (List Str))) (a6 : Int) : R (List (List Str)) :=
  ((SM.lc (SM.bnd1 (fun z => (between z).calm) (SM.map2 Prod.mk (SM.ret l5) (SM.map2 Prod.mk (SM.map2 (· - ·) (SM.ret a6) (SM.ret (1 : Int))) (SM.ret x.2)))) (fun (a9 : (Str × Str)) => (SM.ret true)) (fun a9 => (SM.map2 Prod.mk (SM.ret a9.2) (SM.ret a9.1)))) ()).calm.bind fun z7 =>
  ((SM.pk fun t10 => (SM.bnd1 (fun z => (sorted_row z).calm) (SM.map2 Prod.mk (SM.bnd2 getI (SM.ret t10) (SM.ret a6)) (SM.map2 Prod.mk (SM.bnd2 getI (SM.ret t10) (SM.map2 (· - ·) (SM.ret a6) (SM.ret (1 : Int)))) (SM.ret z7.1))))) (l5)).bind fun z12 => ((SM.ret a6) z12.2).bind fun y13 => (setR ((fun (s : (List (List Str))) => s) y13.2) y13.1 z12.1).bind fun l14 => (fun (s11 : (List (List Str))) =>
  R.ok (s11)) (l14)
def swept_down (x : ((List (List Str)) × (List (Str × Str)))) : R (List (List Str)) :=
  ((SM.lc (SM.ret x.1) (fun (a2 : (List Str)) => (SM.ret true)) (fun a2 => (SM.map1 id (SM.ret a2)))) ()).bind fun z1 =>
  ((SM.bnd2 rng2 (SM.ret (1 : Int)) (SM.map1 (fun xs => (xs.length : Int)) (SM.ret x.1))) ()).bind fun z4 => (foldR (swept_down_b15 x) (z1.1) z4.1).bind fun l5 =>
  ((SM.ret l5) ()).bind fun z => R.ok z.1
abbrev swept_down_sp (K : PySem.W.Frag) : Sp := (spF (π0 := Unit) (π := Unit) noX (fun (x : ((List (List Str)) × (List (Str × Str)))) _ => [VP.at false (rLst K (rLst K rStr)) (x.1), VP.at true (rLst K (rTup K (RT.cons rStr (RT.one rStr)))) (x.2)]) (fun _ _ => []) swept_down (fun (r : (List (List Str))) q => VP.at true (rLst K (rLst K rStr)) r) (fun _ _ => []) fun r q => ([] : OS))
theorem fk_swept_down (bi : Bi mg) (D : Dfd K mg "swept_down" s_swept_down) (fk_between_h : Fk P w K mg base 1 "between" ["rows", "k", "lines"] (between_sp K)) (fk_sorted_row_h : Fk P w K mg base 2 "sorted_row" ["row", "beside", "pairs"] (sorted_row_sp K)) : Fk P w K mg base 3 "swept_down" ["rows", "lines"] (swept_down_sp K) :=
  mkFk D (fun fd F => fd_ok F sc_swept_down 6 (fun _ _ => rfl) rfl fun cdv A outer s H E B x q0 o =>
  hb_lcT (r := (rLst K rStr)) (ς := Unit) (O := (fun (_ : Unit) => ([] : OS))) 2 o (Lcp.mk ⟨VP.at false (rLst K rStr), [3], _, (hi_list (hx_var (w := false) (r := (rLst K (rLst K rStr))) 0)), blkOk_by (own := [("row", 3)]) (by rfl), (by decide), fun _ _ _ _ _ _ a2 => (htg_name 3 (by exact o.nd)), fun _ _ _ _ _ _ a2 => hts_nil, fun _ _ _ _ _ _ a2 => (HG.frzL (f := id) (hn_listF ffStr bi.list (hx_var (w := false) (r := (rLst K rStr)) 3)))⟩) () (fun z1 q3 =>
  hb_for (ς := Unit) (O := (fun (_ : Unit) => ([⟨q3, cLst (rLst K rStr) (z1.1), true⟩] : OS))) (P := VP.at true rInt) (l0 := (fun (s : Unit) => (z1.1))) (asL := (fun l5 => [some (VP.at false (rLst K (rLst K rStr)) (x.1)), some (VP.at true (rLst K (rTup K (RT.cons rStr (RT.one rStr)))) (x.2)), some (VP.ptr q3), none, none, none, none, none])) (osL := (fun l5 => ([⟨q3, cLst (rLst K rStr) (l5), true⟩] : OS))) (f := (swept_down_b15 x)) o (hi_range2 bi.range hx_int (hx_lenL bi.len (hx_var (w := false) (r := (rLst K (rLst K rStr))) 0))) () (by exact fun _ => ⟨.inr rfl, ⟨.inr rfl, ⟨.inr rfl, ⟨.inl rfl, ⟨.inl rfl, ⟨.inl rfl, ⟨.inl rfl, ⟨.inl rfl, trivial⟩⟩⟩⟩⟩⟩⟩⟩) (fun _ => rfl) (fun l5 a6 => (htg_name 4 (by exact o.nd))) (fun l5 a6 =>
  hb_lcP (r := (rTup K (RT.cons rStr (RT.one rStr)))) 5 o [none, some (VP.at true (rLst K (rTup K (RT.cons rStr (RT.one rStr)))) (x.2)), some (VP.at false (rLst K (rLst K rStr)) (l5)), none, some (VP.at true rInt (a6)), none, none, none] (by exact ⟨.no, ⟨.same, ⟨pk_lst 0, ⟨.no, ⟨.same, ⟨.no, ⟨.no, ⟨.no, trivial⟩⟩⟩⟩⟩⟩⟩⟩) (fun _ => (Lcp.mk ⟨VP.at true (rTup K (RT.cons rStr (RT.one rStr))), [6, 7], _, (hi_list (hg_fk fk_between_h (Ok.pk o _) (by decide) (ha_cons (P := VP.at false (rLst K (rLst K rStr))) (hx_var (w := false) (r := (rLst K (rLst K rStr))) 2) (ha_cons (P := VP.at true rInt) (hx_sub (hx_var (w := true) (r := rInt) 4) hx_int) (ha_one (P := VP.at true (rLst K (rTup K (RT.cons rStr (RT.one rStr))))) (hx_var (w := true) (r := (rLst K (rTup K (RT.cons rStr (RT.one rStr))))) 1)))) (by exact fun _ _ => pg_at) (by exact fun _ _ => allF_nil))), blkOk_by (own := [("upper", 6), ("lower", 7)]) (by rfl), (by decide), fun _ _ _ _ _ _ a9 => (htg_tup (t := (RT.cons rStr (RT.one rStr))) (by exact o.calm) (htgs_cons (htg_name 6 (by exact o.nd)) (htgs_cons (htg_name 7 (by exact o.nd)) htgs_nil))), fun _ _ _ _ _ _ a9 => hts_nil, fun _ _ _ _ _ _ a9 => (hx_tup (t := (RT.cons rStr (RT.one rStr))) (w := true) (hn := Nat.le_of_ble_eq_true rfl) (ha_cons (P := VP.at true rStr) (hx_var (w := true) (r := rStr) 7) (ha_one (P := VP.at true rStr) (hx_var (w := true) (r := rStr) 6))))⟩)) (fun z7 =>
  hb_setL (rp := (rLst K rStr)) (ς := (List (List Str))) (O := (fun (s : (List (List Str))) => ([⟨q3, cLst (rLst K rStr) (s), true⟩] : OS))) (kk := fun (s11 : (List (List Str))) => _) 2 0 (fun (s : (List (List Str))) => s) (fun (s : (List (List Str))) (d : (List (List Str))) => (d)) (hx_pk (fun (t10 : (List (List Str))) => [none, none, some (VP.at false (rLst K (rLst K rStr)) (t10)), none, some (VP.at true rInt (a6)), some (VP.at true (rLst K (rTup K (RT.cons rStr (RT.one rStr)))) (z7.1)), none, none]) _ (by exact fun _ => ⟨.no, ⟨.no, ⟨pk_lst 0, ⟨.no, ⟨.same, ⟨.same, ⟨.no, ⟨.no, trivial⟩⟩⟩⟩⟩⟩⟩⟩) fun _ _ => (hg_fk fk_sorted_row_h (Ok.pk o _) (by decide) (ha_cons (P := VP.at false (rLst K rStr)) (hx_idx (hx_var (w := false) (r := (rLst K (rLst K rStr))) 2) (hx_var (w := true) (r := rInt) 4)) (ha_cons (P := VP.at false (rLst K rStr)) (hx_idx (hx_var (w := false) (r := (rLst K (rLst K rStr))) 2) (hx_sub (hx_var (w := true) (r := rInt) 4) hx_int)) (ha_one (P := VP.at true (rLst K (rTup K (RT.cons rStr (RT.one rStr))))) (hx_var (w := true) (r := (rLst K (rTup K (RT.cons rStr (RT.one rStr))))) 5)))) (by exact fun _ _ => pg_at) (by exact fun _ _ => allF_nil))) (hx_var (w := true) (r := rInt) 4) (l5) (fun s11 =>
  hb_end (as' := (fun l5 => [some (VP.at false (rLst K (rLst K rStr)) (x.1)), some (VP.at true (rLst K (rTup K (RT.cons rStr (RT.one rStr)))) (x.2)), some (VP.ptr q3), none, none, none, none, none])) (os' := (fun l5 => ([⟨q3, cLst (rLst K rStr) (l5), true⟩] : OS))) (l := (s11)) (by exact ⟨.inr rfl, ⟨.inr rfl, ⟨.inr rfl, ⟨.inl rfl, ⟨.inl rfl, ⟨.inl rfl, ⟨.inl rfl, ⟨.inl rfl, trivial⟩⟩⟩⟩⟩⟩⟩⟩)))) (fun l5 =>
  hb_frzL (r := (rLst K rStr)) (xs := l5) (q0 := q3) 2 0 (hb_ret (ς := Unit) (O := (fun (_ : Unit) => ([] : OS))) (hx_var (w := true) (r := (rLst K (rLst K rStr))) 2) () (fun _ => rfl) (fun z q v S H st ow pv => ⟨(), S, st, trivial, pv⟩))))) (fun _ _ _ _ _ _ us hl => match us, hl with | [_, _], _ => rfl)
abbrev s_swept_up : Stmt := top 9
theorem sc_swept_up : FnScope ["rows", "lines", "found", "row", "k"] ["rows", "lines"] (defScope s_swept_up) := ⟨rfl, rfl, rfl, by decide +kernel, rfl, by decide +kernel, by decide +kernel⟩
def swept_up_b12 (x : ((List (List Str)) × (List (Str × Str)))) (l5 : (List (List Str))) (a6 : Int) : R (List (List Str)) :=
  ((SM.pk fun t7 => (SM.bnd1 (fun z => (sorted_row z).calm) (SM.map2 Prod.mk (SM.bnd2 getI (SM.ret t7) (SM.ret a6)) (SM.map2 Prod.mk (SM.bnd2 getI (SM.ret t7) (SM.map2 (· + ·) (SM.ret a6) (SM.ret (1 : Int)))) (SM.bnd1 (fun z => (between z).calm) (SM.map2 Prod.mk (SM.ret t7) (SM.map2 Prod.mk (SM.ret a6) (SM.ret x.2)))))))) (l5)).bind fun z9 => ((SM.ret a6) z9.2).bind fun y10 => (setR ((fun (s : (List (List Str))) => s) y10.2) y10.1 z9.1).bind fun l11 => (fun (s8 : (List (List Str))) =>
  R.ok (s8)) (l11)
def swept_up (x : ((List (List Str)) × (List (Str × Str)))) : R (List (List Str)) :=
  ((SM.lc (SM.ret x.1) (fun (a2 : (List Str)) => (SM.ret true)) (fun a2 => (SM.map1 id (SM.ret a2)))) ()).bind fun z1 =>
  ((SM.bnd1 rngD (SM.map2 Prod.mk (SM.map2 (· - ·) (SM.map1 (fun xs => (xs.length : Int)) (SM.ret x.1)) (SM.ret (2 : Int))) (SM.map2 Prod.mk (SM.map1 (fun i => -i) (SM.ret (1 : Int))) (SM.map1 (fun i => -i) (SM.ret (1 : Int)))))) ()).bind fun z4 => (foldR (swept_up_b12 x) (z1.1) z4.1).bind fun l5 =>
  ((SM.ret l5) ()).bind fun z => R.ok z.1
abbrev swept_up_sp (K : PySem.W.Frag) : Sp := (spF (π0 := Unit) (π := Unit) noX (fun (x : ((List (List Str)) × (List (Str × Str)))) _ => [VP.at false (rLst K (rLst K rStr)) (x.1), VP.at true (rLst K (rTup K (RT.cons rStr (RT.one rStr)))) (x.2)]) (fun _ _ => []) swept_up (fun (r : (List (List Str))) q => VP.at true (rLst K (rLst K rStr)) r) (fun _ _ => []) fun r q => ([] : OS))
theorem fk_swept_up (bi : Bi mg) (D : Dfd K mg "swept_up" s_swept_up) (fk_sorted_row_h : Fk P w K mg base 2 "sorted_row" ["row", "beside", "pairs"] (sorted_row_sp K)) (fk_between_h : Fk P w K mg base 1 "between" ["rows", "k", "lines"] (between_sp K)) : Fk P w K mg base 3 "swept_up" ["rows", "lines"] (swept_up_sp K) :=
  mkFk D (fun fd F => fd_ok F sc_swept_up 3 (fun _ _ => rfl) rfl fun cdv A outer s H E B x q0 o =>
  hb_lcT (r := (rLst K rStr)) (ς := Unit) (O := (fun (_ : Unit) => ([] : OS))) 2 o (Lcp.mk ⟨VP.at false (rLst K rStr), [3], _, (hi_list (hx_var (w := false) (r := (rLst K (rLst K rStr))) 0)), blkOk_by (own := [("row", 3)]) (by rfl), (by decide), fun _ _ _ _ _ _ a2 => (htg_name 3 (by exact o.nd)), fun _ _ _ _ _ _ a2 => hts_nil, fun _ _ _ _ _ _ a2 => (HG.frzL (f := id) (hn_listF ffStr bi.list (hx_var (w := false) (r := (rLst K rStr)) 3)))⟩) () (fun z1 q3 =>
  hb_for (ς := Unit) (O := (fun (_ : Unit) => ([⟨q3, cLst (rLst K rStr) (z1.1), true⟩] : OS))) (P := VP.at true rInt) (l0 := (fun (s : Unit) => (z1.1))) (asL := (fun l5 => [some (VP.at false (rLst K (rLst K rStr)) (x.1)), some (VP.at true (rLst K (rTup K (RT.cons rStr (RT.one rStr)))) (x.2)), some (VP.ptr q3), none, none])) (osL := (fun l5 => ([⟨q3, cLst (rLst K rStr) (l5), true⟩] : OS))) (f := (swept_up_b12 x)) o (hi_down bi.range (ha_cons (P := VP.at true rInt) (hx_sub (hx_lenL bi.len (hx_var (w := false) (r := (rLst K (rLst K rStr))) 0)) hx_int) (ha_cons (P := VP.at true rInt) (hx_neg hx_int) (ha_one (P := VP.at true rInt) (hx_neg hx_int))))) () (by exact fun _ => ⟨.inr rfl, ⟨.inr rfl, ⟨.inr rfl, ⟨.inl rfl, ⟨.inl rfl, trivial⟩⟩⟩⟩⟩) (fun _ => rfl) (fun l5 a6 => (htg_name 4 (by exact o.nd))) (fun l5 a6 =>
  hb_setL (rp := (rLst K rStr)) (ς := (List (List Str))) (O := (fun (s : (List (List Str))) => ([⟨q3, cLst (rLst K rStr) (s), true⟩] : OS))) (kk := fun (s8 : (List (List Str))) => _) 2 0 (fun (s : (List (List Str))) => s) (fun (s : (List (List Str))) (d : (List (List Str))) => (d)) (hx_pk (fun (t7 : (List (List Str))) => [none, some (VP.at true (rLst K (rTup K (RT.cons rStr (RT.one rStr)))) (x.2)), some (VP.at false (rLst K (rLst K rStr)) (t7)), none, some (VP.at true rInt (a6))]) _ (by exact fun _ => ⟨.no, ⟨.same, ⟨pk_lst 0, ⟨.no, ⟨.same, trivial⟩⟩⟩⟩⟩) fun _ _ => (hg_fk fk_sorted_row_h (Ok.pk o _) (by decide) (ha_cons (P := VP.at false (rLst K rStr)) (hx_idx (hx_var (w := false) (r := (rLst K (rLst K rStr))) 2) (hx_var (w := true) (r := rInt) 4)) (ha_cons (P := VP.at false (rLst K rStr)) (hx_idx (hx_var (w := false) (r := (rLst K (rLst K rStr))) 2) (hx_add (hx_var (w := true) (r := rInt) 4) hx_int)) (ha_one (P := VP.at true (rLst K (rTup K (RT.cons rStr (RT.one rStr))))) (hg_fk fk_between_h (Ok.pk o _) (by decide) (ha_cons (P := VP.at false (rLst K (rLst K rStr))) (hx_var (w := false) (r := (rLst K (rLst K rStr))) 2) (ha_cons (P := VP.at true rInt) (hx_var (w := true) (r := rInt) 4) (ha_one (P := VP.at true (rLst K (rTup K (RT.cons rStr (RT.one rStr))))) (hx_var (w := true) (r := (rLst K (rTup K (RT.cons rStr (RT.one rStr))))) 1)))) (by exact fun _ _ => pg_at) (by exact fun _ _ => allF_nil))))) (by exact fun _ _ => pg_at) (by exact fun _ _ => allF_nil))) (hx_var (w := true) (r := rInt) 4) (l5) (fun s8 =>
  hb_end (as' := (fun l5 => [some (VP.at false (rLst K (rLst K rStr)) (x.1)), some (VP.at true (rLst K (rTup K (RT.cons rStr (RT.one rStr)))) (x.2)), some (VP.ptr q3), none, none])) (os' := (fun l5 => ([⟨q3, cLst (rLst K rStr) (l5), true⟩] : OS))) (l := (s8)) (by exact ⟨.inr rfl, ⟨.inr rfl, ⟨.inr rfl, ⟨.inl rfl, ⟨.inl rfl, trivial⟩⟩⟩⟩⟩))) (fun l5 =>
  hb_frzL (r := (rLst K rStr)) (xs := l5) (q0 := q3) 2 0 (hb_ret (ς := Unit) (O := (fun (_ : Unit) => ([] : OS))) (hx_var (w := true) (r := (rLst K (rLst K rStr))) 2) () (fun _ => rfl) (fun z q v S H st ow pv => ⟨(), S, st, trivial, pv⟩))))) (fun _ _ _ _ _ _ us hl => match us, hl with | [_, _], _ => rfl)
abbrev s_swept : Stmt := top 10
theorem sc_swept : FnScope ["rows", "lines", "often", "now", "row", "best", "least", "k", "many"] ["rows", "lines", "often"] (defScope s_swept) := ⟨rfl, rfl, rfl, by decide +kernel, rfl, by decide +kernel, by decide +kernel⟩
def swept_b30 (x : ((List (List Str)) × (List (Str × Str)) × Int)) (l8 : ((List (List Str)) × (List (List Str)) × Int)) (a9 : Int) : R ((List (List Str)) × (List (List Str)) × Int) :=
  ((SM.map2 eqB (SM.bnd2 modR (SM.ret a9) (SM.ret (2 : Int))) (SM.ret (0 : Int))) ()).bind fun z => (if z.1 = true then
  ((SM.bnd1 (fun z => (swept_down z).calm) (SM.map2 Prod.mk (SM.ret l8.1) (SM.ret x.2.1))) ()).bind fun z15 =>
  R.ok (z15.1) else
  ((SM.bnd1 (fun z => (swept_up z).calm) (SM.map2 Prod.mk (SM.ret l8.1) (SM.ret x.2.1))) ()).bind fun z17 =>
  R.ok (z17.1)).bind fun l14 =>
  ((SM.bnd1 (fun z => (all_crossings z).calm) (SM.map2 Prod.mk (SM.ret l14) (SM.ret x.2.1))) ()).bind fun z19 =>
  ((SM.map2 ltB (SM.ret z19.1) (SM.ret l8.2.2)) ()).bind fun z => (if z.1 = true then
  ((SM.ret l14) ()).bind fun z26 =>
  ((SM.ret z19.1) ()).bind fun z28 =>
  R.ok (z26.1, z28.1) else
  R.ok (l8.2.1, l8.2.2)).bind fun l25 =>
  R.ok (l14, l25.1, l25.2)
def swept (x : ((List (List Str)) × (List (Str × Str)) × Int)) : R (List (List Str)) :=
  ((SM.lc (SM.ret x.1) (fun (a2 : (List Str)) => (SM.ret true)) (fun a2 => (SM.map1 id (SM.ret a2)))) ()).bind fun z1 =>
  ((SM.ret z1.1) ()).bind fun z3 =>
  ((SM.bnd1 (fun z => (all_crossings z).calm) (SM.map2 Prod.mk (SM.ret z1.1) (SM.ret x.2.1))) ()).bind fun z5 =>
  ((SM.bnd1 rng1 (SM.ret x.2.2)) ()).bind fun z7 => (foldR (swept_b30 x) (z1.1, z3.1, z5.1) z7.1).bind fun l8 =>
  ((SM.lc (SM.ret l8.2.1) (fun (a31 : (List Str)) => (SM.ret true)) (fun a31 => (SM.map1 id (SM.ret a31)))) ()).bind fun z => R.ok z.1
abbrev swept_sp (K : PySem.W.Frag) : Sp := (spF (π0 := Unit) (π := (Addr × List Addr)) noX (fun (x : ((List (List Str)) × (List (Str × Str)) × Int)) _ => [VP.at false (rLst K (rLst K rStr)) (x.1), VP.at true (rLst K (rTup K (RT.cons rStr (RT.one rStr)))) (x.2.1), VP.at true rInt (x.2.2)]) (fun _ _ => []) swept (fun (r : (List (List Str))) q => VP.ptr q.1) (fun _ _ => []) fun r q => ((nwG (cLst rStr) (r) q ++ ([] : OS)) : OS))
theorem fk_swept (bi : Bi mg) (D : DfdD K mg "swept" s_swept [V.int 4]) (fk_all_crossings_h : Fk P w K mg base 3 "all_crossings" ["rows", "lines"] (all_crossings_sp K)) (fk_swept_down_h : Fk P w K mg base 3 "swept_down" ["rows", "lines"] (swept_down_sp K)) (fk_swept_up_h : Fk P w K mg base 3 "swept_up" ["rows", "lines"] (swept_up_sp K)) : Fk P w K mg base 4 "swept" ["rows", "lines", "often"] (swept_sp K) :=
  mkFkD2 D (by simp) (fun fd F => fd_ok F sc_swept 6 (fun _ _ => rfl) rfl fun cdv A outer s H E B x q0 o =>
  hb_lcF (r := (rLst K rStr)) (ς := Unit) (O := (fun (_ : Unit) => ([] : OS))) 3 o (Lcp.mk ⟨VP.at false (rLst K rStr), [4], _, (hi_list (hx_var (w := false) (r := (rLst K (rLst K rStr))) 0)), blkOk_by (own := [("row", 4)]) (by rfl), (by decide), fun _ _ _ _ _ _ a2 => (htg_name 4 (by exact o.nd)), fun _ _ _ _ _ _ a2 => hts_nil, fun _ _ _ _ _ _ a2 => (HG.frzL (f := id) (hn_listF ffStr bi.list (hx_var (w := false) (r := (rLst K rStr)) 4)))⟩) () (fun z1 =>
  hb_asg (ς := Unit) (O := (fun (_ : Unit) => ([] : OS))) 5 o.nd (hx_var (w := true) (r := (rLst K (rLst K rStr))) 3) () (fun z3 q4 =>
  hb_asg (ς := Unit) (O := (fun (_ : Unit) => ([] : OS))) 6 o.nd (hg_fk fk_all_crossings_h o (by decide) (ha_cons (P := VP.at false (rLst K (rLst K rStr))) (hx_bor (hx_var (w := true) (r := (rLst K (rLst K rStr))) 3)) (ha_one (P := VP.at true (rLst K (rTup K (RT.cons rStr (RT.one rStr))))) (hx_var (w := true) (r := (rLst K (rTup K (RT.cons rStr (RT.one rStr))))) 1))) (by exact fun _ _ => pg_at) (by exact fun _ _ => allF_nil)) () (fun z5 q6 =>
  hb_for (ς := Unit) (O := (fun (_ : Unit) => ([] : OS))) (P := VP.at true rInt) (l0 := (fun (s : Unit) => (z1.1, z3.1, z5.1))) (asL := (fun l8 => [some (VP.at false (rLst K (rLst K rStr)) (x.1)), some (VP.at true (rLst K (rTup K (RT.cons rStr (RT.one rStr)))) (x.2.1)), some (VP.at true rInt (x.2.2)), some (VP.at true (rLst K (rLst K rStr)) (l8.1)), none, some (VP.at true (rLst K (rLst K rStr)) (l8.2.1)), some (VP.at true rInt (l8.2.2)), none, none])) (osL := (fun l8 => ([] : OS))) (f := (swept_b30 x)) o (hi_range1 bi.range (hx_var (w := true) (r := rInt) 2)) () (by exact fun _ => ⟨.inr rfl, ⟨.inr rfl, ⟨.inr rfl, ⟨.inr rfl, ⟨.inl rfl, ⟨.inr rfl, ⟨.inr rfl, ⟨.inl rfl, ⟨.inl rfl, trivial⟩⟩⟩⟩⟩⟩⟩⟩⟩) (fun _ => rfl) (fun l8 a9 => (htg_name 7 (by exact o.nd))) (fun l8 a9 =>
  hb_if0 (as1 := (fun l14 => [some (VP.at false (rLst K (rLst K rStr)) (x.1)), some (VP.at true (rLst K (rTup K (RT.cons rStr (RT.one rStr)))) (x.2.1)), some (VP.at true rInt (x.2.2)), some (VP.at true (rLst K (rLst K rStr)) (l14)), none, some (VP.at true (rLst K (rLst K rStr)) (l8.2.1)), some (VP.at true rInt (l8.2.2)), some (VP.at true rInt (a9)), none])) (os1 := (fun l14 => ([] : OS))) (ht_eq (hx_mod (hx_var (w := true) (r := rInt) 7) hx_int) hx_int) (
  hb_asg (ς := Unit) (O := (fun (_ : Unit) => ([] : OS))) 3 o.nd (hg_fk fk_swept_down_h o (by decide) (ha_cons (P := VP.at false (rLst K (rLst K rStr))) (hx_bor (hx_var (w := true) (r := (rLst K (rLst K rStr))) 3)) (ha_one (P := VP.at true (rLst K (rTup K (RT.cons rStr (RT.one rStr))))) (hx_var (w := true) (r := (rLst K (rTup K (RT.cons rStr (RT.one rStr))))) 1))) (by exact fun _ _ => pg_at) (by exact fun _ _ => allF_nil)) () (fun z15 q16 =>
  hb_end (as' := (fun l14 => [some (VP.at false (rLst K (rLst K rStr)) (x.1)), some (VP.at true (rLst K (rTup K (RT.cons rStr (RT.one rStr)))) (x.2.1)), some (VP.at true rInt (x.2.2)), some (VP.at true (rLst K (rLst K rStr)) (l14)), none, some (VP.at true (rLst K (rLst K rStr)) (l8.2.1)), some (VP.at true rInt (l8.2.2)), some (VP.at true rInt (a9)), none])) (os' := (fun l14 => ([] : OS))) (l := (z15.1)) (by exact ⟨.inr rfl, ⟨.inr rfl, ⟨.inr rfl, ⟨.inr rfl, ⟨.inl rfl, ⟨.inr rfl, ⟨.inr rfl, ⟨.inr rfl, ⟨.inl rfl, trivial⟩⟩⟩⟩⟩⟩⟩⟩⟩))) (
  hb_asg (ς := Unit) (O := (fun (_ : Unit) => ([] : OS))) 3 o.nd (hg_fk fk_swept_up_h o (by decide) (ha_cons (P := VP.at false (rLst K (rLst K rStr))) (hx_bor (hx_var (w := true) (r := (rLst K (rLst K rStr))) 3)) (ha_one (P := VP.at true (rLst K (rTup K (RT.cons rStr (RT.one rStr))))) (hx_var (w := true) (r := (rLst K (rTup K (RT.cons rStr (RT.one rStr))))) 1))) (by exact fun _ _ => pg_at) (by exact fun _ _ => allF_nil)) () (fun z17 q18 =>
  hb_end (as' := (fun l14 => [some (VP.at false (rLst K (rLst K rStr)) (x.1)), some (VP.at true (rLst K (rTup K (RT.cons rStr (RT.one rStr)))) (x.2.1)), some (VP.at true rInt (x.2.2)), some (VP.at true (rLst K (rLst K rStr)) (l14)), none, some (VP.at true (rLst K (rLst K rStr)) (l8.2.1)), some (VP.at true rInt (l8.2.2)), some (VP.at true rInt (a9)), none])) (os' := (fun l14 => ([] : OS))) (l := (z17.1)) (by exact ⟨.inr rfl, ⟨.inr rfl, ⟨.inr rfl, ⟨.inr rfl, ⟨.inl rfl, ⟨.inr rfl, ⟨.inr rfl, ⟨.inr rfl, ⟨.inl rfl, trivial⟩⟩⟩⟩⟩⟩⟩⟩⟩))) (fun l14 =>
  hb_asg (ς := Unit) (O := (fun (_ : Unit) => ([] : OS))) 8 o.nd (hg_fk fk_all_crossings_h o (by decide) (ha_cons (P := VP.at false (rLst K (rLst K rStr))) (hx_bor (hx_var (w := true) (r := (rLst K (rLst K rStr))) 3)) (ha_one (P := VP.at true (rLst K (rTup K (RT.cons rStr (RT.one rStr))))) (hx_var (w := true) (r := (rLst K (rTup K (RT.cons rStr (RT.one rStr))))) 1))) (by exact fun _ _ => pg_at) (by exact fun _ _ => allF_nil)) () (fun z19 q20 =>
  hb_if0 (as1 := (fun l25 => [some (VP.at false (rLst K (rLst K rStr)) (x.1)), some (VP.at true (rLst K (rTup K (RT.cons rStr (RT.one rStr)))) (x.2.1)), some (VP.at true rInt (x.2.2)), some (VP.at true (rLst K (rLst K rStr)) (l14)), none, some (VP.at true (rLst K (rLst K rStr)) (l25.1)), some (VP.at true rInt (l25.2)), some (VP.at true rInt (a9)), some (VP.at true rInt (z19.1))])) (os1 := (fun l25 => ([] : OS))) (ht_lt (hx_var (w := true) (r := rInt) 8) (hx_var (w := true) (r := rInt) 6)) (
  hb_asg (ς := Unit) (O := (fun (_ : Unit) => ([] : OS))) 5 o.nd (hx_var (w := true) (r := (rLst K (rLst K rStr))) 3) () (fun z26 q27 =>
  hb_asg (ς := Unit) (O := (fun (_ : Unit) => ([] : OS))) 6 o.nd (hx_var (w := true) (r := rInt) 8) () (fun z28 q29 =>
  hb_end (as' := (fun l25 => [some (VP.at false (rLst K (rLst K rStr)) (x.1)), some (VP.at true (rLst K (rTup K (RT.cons rStr (RT.one rStr)))) (x.2.1)), some (VP.at true rInt (x.2.2)), some (VP.at true (rLst K (rLst K rStr)) (l14)), none, some (VP.at true (rLst K (rLst K rStr)) (l25.1)), some (VP.at true rInt (l25.2)), some (VP.at true rInt (a9)), some (VP.at true rInt (z19.1))])) (os' := (fun l25 => ([] : OS))) (l := (z26.1, z28.1)) (by exact ⟨.inr rfl, ⟨.inr rfl, ⟨.inr rfl, ⟨.inr rfl, ⟨.inl rfl, ⟨.inr rfl, ⟨.inr rfl, ⟨.inr rfl, ⟨.inr rfl, trivial⟩⟩⟩⟩⟩⟩⟩⟩⟩)))) (
  hb_end (as' := (fun l25 => [some (VP.at false (rLst K (rLst K rStr)) (x.1)), some (VP.at true (rLst K (rTup K (RT.cons rStr (RT.one rStr)))) (x.2.1)), some (VP.at true rInt (x.2.2)), some (VP.at true (rLst K (rLst K rStr)) (l14)), none, some (VP.at true (rLst K (rLst K rStr)) (l25.1)), some (VP.at true rInt (l25.2)), some (VP.at true rInt (a9)), some (VP.at true rInt (z19.1))])) (os' := (fun l25 => ([] : OS))) (l := (l8.2.1, l8.2.2)) (by exact ⟨.inr rfl, ⟨.inr rfl, ⟨.inr rfl, ⟨.inr rfl, ⟨.inl rfl, ⟨.inr rfl, ⟨.inr rfl, ⟨.inr rfl, ⟨.inr rfl, trivial⟩⟩⟩⟩⟩⟩⟩⟩⟩)) (fun l25 =>
  hb_end (as' := (fun l8 => [some (VP.at false (rLst K (rLst K rStr)) (x.1)), some (VP.at true (rLst K (rTup K (RT.cons rStr (RT.one rStr)))) (x.2.1)), some (VP.at true rInt (x.2.2)), some (VP.at true (rLst K (rLst K rStr)) (l8.1)), none, some (VP.at true (rLst K (rLst K rStr)) (l8.2.1)), some (VP.at true rInt (l8.2.2)), none, none])) (os' := (fun l8 => ([] : OS))) (l := (l14, l25.1, l25.2)) (by exact ⟨.inr rfl, ⟨.inr rfl, ⟨.inr rfl, ⟨.inr rfl, ⟨.inl rfl, ⟨.inr rfl, ⟨.inr rfl, ⟨.inl rfl, ⟨.inl rfl, trivial⟩⟩⟩⟩⟩⟩⟩⟩⟩))))) (fun l8 =>
  hb_ret (ς := Unit) (O := (fun (_ : Unit) => ([] : OS))) (hg_lcq (ct := cLst rStr) o (Lcq.mk ⟨VP.at true (rLst K rStr), [4], _, (hi_list (hx_var (w := true) (r := (rLst K (rLst K rStr))) 5)), blkOk_by (own := [("row", 4)]) (by rfl), (by decide), fun _ _ _ _ _ _ a31 => (htg_name 4 (by exact o.nd)), fun _ _ _ _ _ _ a31 => hts_nil, fun _ _ _ _ _ _ a31 => (hn_list bi.list (hx_var (w := true) (r := (rLst K rStr)) 4))⟩)) () (fun _ => rfl) (fun z q v S H st ow pv => ⟨q, S, st, (own_app_nil (own_app_nil ow.left)), pv⟩)))))) (fun _ _ _ _ _ _ _ us its hl hi => match us, hl, its, hi with | [_, _, _], _, [_], _ => ⟨_, rfl, rfl⟩)
abbrev s_other_ends : Stmt := top 11
theorem sc_other_ends : FnScope ["rows", "k", "lines", "mark", "above", "upper", "lower", "below"] ["rows", "k", "lines", "mark"] (defScope s_other_ends) := ⟨rfl, rfl, rfl, by decide +kernel, rfl, by decide +kernel, by decide +kernel⟩
def other_ends (x : ((List (List Str)) × Int × (List (Str × Str)) × Str)) : R ((List Int) × (List Int)) :=
  ((SM.lc (SM.ret x.2.2.1) (fun (a2 : (Str × Str)) => (SM.map2 eqS (SM.ret a2.2) (SM.ret x.2.2.2))) (fun a2 => (SM.bnd2 idxR (SM.bnd2 getI (SM.ret x.1) (SM.map2 (· - ·) (SM.ret x.2.1) (SM.ret (1 : Int)))) (SM.ret a2.1)))) ()).bind fun z1 =>
  ((SM.lc (SM.ret x.2.2.1) (fun (a4 : (Str × Str)) => (SM.map2 eqS (SM.ret a4.1) (SM.ret x.2.2.2))) (fun a4 => (SM.bnd2 idxR (SM.bnd2 getI (SM.ret x.1) (SM.map2 (· + ·) (SM.ret x.2.1) (SM.ret (1 : Int)))) (SM.ret a4.2)))) ()).bind fun z3 =>
  ((SM.map2 Prod.mk (SM.ret z1.1) (SM.ret z3.1)) ()).bind fun z => R.ok z.1
abbrev other_ends_sp (K : PySem.W.Frag) : Sp := (spF (π0 := Unit) (π := Unit) noX (fun (x : ((List (List Str)) × Int × (List (Str × Str)) × Str)) _ => [VP.at false (rLst K (rLst K rStr)) (x.1), VP.at true rInt (x.2.1), VP.at true (rLst K (rTup K (RT.cons rStr (RT.one rStr)))) (x.2.2.1), VP.at true rStr (x.2.2.2)]) (fun _ _ => []) other_ends (fun (r : ((List Int) × (List Int))) q => VP.at true (rTup K (RT.cons (rLst K rInt) (RT.one (rLst K rInt)))) r) (fun _ _ => []) fun r q => ([] : OS))
theorem fk_other_ends (bi : Bi mg) (D : Dfd K mg "other_ends" s_other_ends) : Fk P w K mg base 1 "other_ends" ["rows", "k", "lines", "mark"] (other_ends_sp K) :=
  mkFk D (fun fd F => fd_ok F sc_other_ends 4 (fun _ _ => rfl) rfl fun cdv A outer s H E B x q0 o =>
  hb_lcF (r := rInt) (ς := Unit) (O := (fun (_ : Unit) => ([] : OS))) 4 o (Lcp.mk ⟨VP.at true (rTup K (RT.cons rStr (RT.one rStr))), [5, 6], _, (hi_list (hx_var (w := true) (r := (rLst K (rTup K (RT.cons rStr (RT.one rStr))))) 2)), blkOk_by (own := [("upper", 5), ("lower", 6)]) (by rfl), (by decide), fun _ _ _ _ _ _ a2 => (htg_tup (t := (RT.cons rStr (RT.one rStr))) (by exact o.calm) (htgs_cons (htg_name 5 (by exact o.nd)) (htgs_cons (htg_name 6 (by exact o.nd)) htgs_nil))), fun _ _ _ _ _ _ a2 => (hts_one (ht_eqS (hx_var (w := true) (r := rStr) 6) (hx_var (w := true) (r := rStr) 3))), fun _ _ _ _ _ _ a2 => (hx_index frStr (hx_idx (hx_var (w := false) (r := (rLst K (rLst K rStr))) 0) (hx_sub (hx_var (w := true) (r := rInt) 1) hx_int)) (hx_var (w := true) (r := rStr) 5))⟩) () (fun z1 =>
  hb_lcF (r := rInt) (ς := Unit) (O := (fun (_ : Unit) => ([] : OS))) 7 o (Lcp.mk ⟨VP.at true (rTup K (RT.cons rStr (RT.one rStr))), [5, 6], _, (hi_list (hx_var (w := true) (r := (rLst K (rTup K (RT.cons rStr (RT.one rStr))))) 2)), blkOk_by (own := [("upper", 5), ("lower", 6)]) (by rfl), (by decide), fun _ _ _ _ _ _ a4 => (htg_tup (t := (RT.cons rStr (RT.one rStr))) (by exact o.calm) (htgs_cons (htg_name 5 (by exact o.nd)) (htgs_cons (htg_name 6 (by exact o.nd)) htgs_nil))), fun _ _ _ _ _ _ a4 => (hts_one (ht_eqS (hx_var (w := true) (r := rStr) 5) (hx_var (w := true) (r := rStr) 3))), fun _ _ _ _ _ _ a4 => (hx_index frStr (hx_idx (hx_var (w := false) (r := (rLst K (rLst K rStr))) 0) (hx_add (hx_var (w := true) (r := rInt) 1) hx_int)) (hx_var (w := true) (r := rStr) 6))⟩) () (fun z3 =>
  hb_ret (ς := Unit) (O := (fun (_ : Unit) => ([] : OS))) (hx_tup (t := (RT.cons (rLst K rInt) (RT.one (rLst K rInt)))) (w := true) (hn := Nat.le_of_ble_eq_true rfl) (ha_cons (P := VP.at true (rLst K rInt)) (hx_var (w := true) (r := (rLst K rInt)) 4) (ha_one (P := VP.at true (rLst K rInt)) (hx_var (w := true) (r := (rLst K rInt)) 7)))) () (fun _ => rfl) (fun z q v S H st ow pv => ⟨(), S, st, trivial, pv⟩)))) (fun _ _ _ _ _ _ us hl => match us, hl with | [_, _, _, _], _ => rfl)
abbrev s_crossing_less : Stmt := top 12
theorem sc_crossing_less : FnScope ["some", "others", "found", "one", "other"] ["some", "others"] (defScope s_crossing_less) := ⟨rfl, rfl, rfl, by decide +kernel, rfl, by decide +kernel, by decide +kernel⟩
def crossing_less_b10 (a5 : Int) (l7 : Int) (a8 : Int) : R Int :=
  ((SM.map1 (fun b => l7 + b) (SM.map2 (· - ·) (SM.map1 b2n (SM.map2 gtB (SM.ret a5) (SM.ret a8))) (SM.map1 b2n (SM.map2 ltB (SM.ret a5) (SM.ret a8))))) ()).bind fun z9 =>
  R.ok (z9.1)
def crossing_less_b11 (x : ((List Int) × (List Int))) (l4 : Int) (a5 : Int) : R Int :=
  ((SM.ret x.2) ()).bind fun z6 => (foldR (crossing_less_b10 a5) (l4) z6.1).bind fun l7 =>
  R.ok (l7)
def crossing_less (x : ((List Int) × (List Int))) : R Int :=
  ((SM.ret (0 : Int)) ()).bind fun z1 =>
  ((SM.ret x.1) ()).bind fun z3 => (foldR (crossing_less_b11 x) (z1.1) z3.1).bind fun l4 =>
  ((SM.ret l4) ()).bind fun z => R.ok z.1
abbrev crossing_less_sp (K : PySem.W.Frag) : Sp := (spF (π0 := Unit) (π := Unit) noX (fun (x : ((List Int) × (List Int))) _ => [VP.at true (rLst K rInt) (x.1), VP.at true (rLst K rInt) (x.2)]) (fun _ _ => []) crossing_less (fun (r : Int) q => VP.at true rInt r) (fun _ _ => []) fun r q => ([] : OS))
theorem fk_crossing_less (bi : Bi mg) (D : Dfd K mg "crossing_less" s_crossing_less) : Fk P w K mg base 1 "crossing_less" ["some", "others"] (crossing_less_sp K) :=
  mkFk D (fun fd F => fd_ok F sc_crossing_less 3 (fun _ _ => rfl) rfl fun cdv A outer s H E B x q0 o =>
  hb_asg (ς := Unit) (O := (fun (_ : Unit) => ([] : OS))) 2 o.nd hx_int () (fun z1 q2 =>
  hb_for (ς := Unit) (O := (fun (_ : Unit) => ([] : OS))) (P := VP.at true rInt) (l0 := (fun (s : Unit) => (z1.1))) (asL := (fun l4 => [some (VP.at true (rLst K rInt) (x.1)), some (VP.at true (rLst K rInt) (x.2)), some (VP.at true rInt (l4)), none, none])) (osL := (fun l4 => ([] : OS))) (f := (crossing_less_b11 x)) o (hi_list (hx_var (w := true) (r := (rLst K rInt)) 0)) () (by exact fun _ => ⟨.inr rfl, ⟨.inr rfl, ⟨.inr rfl, ⟨.inl rfl, ⟨.inl rfl, trivial⟩⟩⟩⟩⟩) (fun _ => rfl) (fun l4 a5 => (htg_name 3 (by exact o.nd))) (fun l4 a5 =>
  hb_for (ς := Unit) (O := (fun (_ : Unit) => ([] : OS))) (P := VP.at true rInt) (l0 := (fun (s : Unit) => (l4))) (asL := (fun l7 => [some (VP.at true (rLst K rInt) (x.1)), some (VP.at true (rLst K rInt) (x.2)), some (VP.at true rInt (l7)), some (VP.at true rInt (a5)), none])) (osL := (fun l7 => ([] : OS))) (f := (crossing_less_b10 a5)) o (hi_list (hx_var (w := true) (r := (rLst K rInt)) 1)) () (by exact fun _ => ⟨.inr rfl, ⟨.inr rfl, ⟨.inr rfl, ⟨.inr rfl, ⟨.inl rfl, trivial⟩⟩⟩⟩⟩) (fun _ => rfl) (fun l7 a8 => (htg_name 4 (by exact o.nd))) (fun l7 a8 =>
  hb_augI (ς := Unit) (O := (fun (_ : Unit) => ([] : OS))) 2 o.nd rfl (hx_sub (hx_intB bi.int (hx_gt (hx_var (w := true) (r := rInt) 3) (hx_var (w := true) (r := rInt) 4))) (hx_intB bi.int (hx_lt (hx_var (w := true) (r := rInt) 3) (hx_var (w := true) (r := rInt) 4)))) () (fun z9 =>
  hb_end (as' := (fun l7 => [some (VP.at true (rLst K rInt) (x.1)), some (VP.at true (rLst K rInt) (x.2)), some (VP.at true rInt (l7)), some (VP.at true rInt (a5)), none])) (os' := (fun l7 => ([] : OS))) (l := (z9.1)) (by exact ⟨.inr rfl, ⟨.inr rfl, ⟨.inr rfl, ⟨.inr rfl, ⟨.inl rfl, trivial⟩⟩⟩⟩⟩))) (fun l7 =>
  hb_end (as' := (fun l4 => [some (VP.at true (rLst K rInt) (x.1)), some (VP.at true (rLst K rInt) (x.2)), some (VP.at true rInt (l4)), none, none])) (os' := (fun l4 => ([] : OS))) (l := (l7)) (by exact ⟨.inr rfl, ⟨.inr rfl, ⟨.inr rfl, ⟨.inl rfl, ⟨.inl rfl, trivial⟩⟩⟩⟩⟩))) (fun l4 =>
  hb_ret (ς := Unit) (O := (fun (_ : Unit) => ([] : OS))) (hx_var (w := true) (r := rInt) 2) () (fun _ => rfl) (fun z q v S H st ow pv => ⟨(), S, st, trivial, pv⟩)))) (fun _ _ _ _ _ _ us hl => match us, hl with | [_, _], _ => rfl)
abbrev s_saved : Stmt := top 13
theorem sc_saved : FnScope ["rows", "k", "at", "lines", "above", "below", "others_above", "others_below"] ["rows", "k", "at", "lines"] (defScope s_saved) := ⟨rfl, rfl, rfl, by decide +kernel, rfl, by decide +kernel, by decide +kernel⟩
def saved (x : ((List (List Str)) × Int × Int × (List (Str × Str)))) : R Int :=
  ((SM.bnd1 (fun z => (other_ends z).calm) (SM.map2 Prod.mk (SM.ret x.1) (SM.map2 Prod.mk (SM.ret x.2.1) (SM.map2 Prod.mk (SM.ret x.2.2.2) (SM.bnd2 getI (SM.bnd2 getI (SM.ret x.1) (SM.ret x.2.1)) (SM.ret x.2.2.1)))))) ()).bind fun z1 =>
  ((SM.bnd1 (fun z => (other_ends z).calm) (SM.map2 Prod.mk (SM.ret x.1) (SM.map2 Prod.mk (SM.ret x.2.1) (SM.map2 Prod.mk (SM.ret x.2.2.2) (SM.bnd2 getI (SM.bnd2 getI (SM.ret x.1) (SM.ret x.2.1)) (SM.map2 (· + ·) (SM.ret x.2.2.1) (SM.ret (1 : Int)))))))) ()).bind fun z3 =>
  ((SM.map2 (· + ·) (SM.bnd1 (fun z => (crossing_less z).calm) (SM.map2 Prod.mk (SM.ret z1.1.1) (SM.ret z3.1.1))) (SM.bnd1 (fun z => (crossing_less z).calm) (SM.map2 Prod.mk (SM.ret z1.1.2) (SM.ret z3.1.2)))) ()).bind fun z => R.ok z.1
abbrev saved_sp (K : PySem.W.Frag) : Sp := (spF (π0 := Unit) (π := Unit) noX (fun (x : ((List (List Str)) × Int × Int × (List (Str × Str)))) _ => [VP.at false (rLst K (rLst K rStr)) (x.1), VP.at true rInt (x.2.1), VP.at true rInt (x.2.2.1), VP.at true (rLst K (rTup K (RT.cons rStr (RT.one rStr)))) (x.2.2.2)]) (fun _ _ => []) saved (fun (r : Int) q => VP.at true rInt r) (fun _ _ => []) fun r q => ([] : OS))
theorem fk_saved (bi : Bi mg) (D : Dfd K mg "saved" s_saved) (fk_other_ends_h : Fk P w K mg base 1 "other_ends" ["rows", "k", "lines", "mark"] (other_ends_sp K)) (fk_crossing_less_h : Fk P w K mg base 1 "crossing_less" ["some", "others"] (crossing_less_sp K)) : Fk P w K mg base 2 "saved" ["rows", "k", "at", "lines"] (saved_sp K) :=
  mkFk D (fun fd F => fd_ok F sc_saved 4 (fun _ _ => rfl) rfl fun cdv A outer s H E B x q0 o =>
  hb_asgT (ς := Unit) (O := (fun (_ : Unit) => ([] : OS))) (hg_fk fk_other_ends_h o (by decide) (ha_cons (P := VP.at false (rLst K (rLst K rStr))) (hx_var (w := false) (r := (rLst K (rLst K rStr))) 0) (ha_cons (P := VP.at true rInt) (hx_var (w := true) (r := rInt) 1) (ha_cons (P := VP.at true (rLst K (rTup K (RT.cons rStr (RT.one rStr))))) (hx_var (w := true) (r := (rLst K (rTup K (RT.cons rStr (RT.one rStr))))) 3) (ha_one (P := VP.at true rStr) (hx_fl ffStr (hx_idx (hx_idx (hx_var (w := false) (r := (rLst K (rLst K rStr))) 0) (hx_var (w := true) (r := rInt) 1)) (hx_var (w := true) (r := rInt) 2))))))) (by exact fun _ _ => pg_at) (by exact fun _ _ => allF_nil)) () (fun _ _ => (htg_tup (t := (RT.cons (rLst K rInt) (RT.one (rLst K rInt)))) (by exact o.calm) (htgs_cons (htg_name 4 (by exact o.nd)) (htgs_cons (htg_name 5 (by exact o.nd)) htgs_nil)))) (fun z1 q2 =>
  hb_asgT (ς := Unit) (O := (fun (_ : Unit) => ([] : OS))) (hg_fk fk_other_ends_h o (by decide) (ha_cons (P := VP.at false (rLst K (rLst K rStr))) (hx_var (w := false) (r := (rLst K (rLst K rStr))) 0) (ha_cons (P := VP.at true rInt) (hx_var (w := true) (r := rInt) 1) (ha_cons (P := VP.at true (rLst K (rTup K (RT.cons rStr (RT.one rStr))))) (hx_var (w := true) (r := (rLst K (rTup K (RT.cons rStr (RT.one rStr))))) 3) (ha_one (P := VP.at true rStr) (hx_fl ffStr (hx_idx (hx_idx (hx_var (w := false) (r := (rLst K (rLst K rStr))) 0) (hx_var (w := true) (r := rInt) 1)) (hx_add (hx_var (w := true) (r := rInt) 2) hx_int))))))) (by exact fun _ _ => pg_at) (by exact fun _ _ => allF_nil)) () (fun _ _ => (htg_tup (t := (RT.cons (rLst K rInt) (RT.one (rLst K rInt)))) (by exact o.calm) (htgs_cons (htg_name 6 (by exact o.nd)) (htgs_cons (htg_name 7 (by exact o.nd)) htgs_nil)))) (fun z3 q4 =>
  hb_ret (ς := Unit) (O := (fun (_ : Unit) => ([] : OS))) (hx_add (hg_fk fk_crossing_less_h o (by decide) (ha_cons (P := VP.at true (rLst K rInt)) (hx_var (w := true) (r := (rLst K rInt)) 4) (ha_one (P := VP.at true (rLst K rInt)) (hx_var (w := true) (r := (rLst K rInt)) 6))) (by exact fun _ _ => pg_at) (by exact fun _ _ => allF_nil)) (hg_fk fk_crossing_less_h o (by decide) (ha_cons (P := VP.at true (rLst K rInt)) (hx_var (w := true) (r := (rLst K rInt)) 5) (ha_one (P := VP.at true (rLst K rInt)) (hx_var (w := true) (r := (rLst K rInt)) 7))) (by exact fun _ _ => pg_at) (by exact fun _ _ => allF_nil))) () (fun _ => rfl) (fun z q v S H st ow pv => ⟨(), S, st, trivial, pv⟩)))) (fun _ _ _ _ _ _ us hl => match us, hl with | [_, _, _, _], _ => rfl)
abbrev s_first_change : Stmt := top 14
theorem sc_first_change : FnScope ["rows", "lines", "k", "row", "at", "fewer"] ["rows", "lines"] (defScope s_first_change) := ⟨rfl, rfl, rfl, by decide +kernel, rfl, by decide +kernel, by decide +kernel⟩
def first_change_b9 (x : ((List (List Str)) × (List (Str × Str)))) (a3 : (Int × (List Str))) (l5 : Unit) (a6 : Int) : R (Oc Unit (Option (Int × Int × Int))) :=
  ((SM.bnd1 (fun z => (saved z).calm) (SM.map2 Prod.mk (SM.ret x.1) (SM.map2 Prod.mk (SM.ret a3.1) (SM.map2 Prod.mk (SM.ret a6) (SM.ret x.2))))) ()).bind fun z7 =>
  ((SM.map2 gtB (SM.ret z7.1) (SM.ret (0 : Int))) ()).bind fun z => if z.1 = true then
  ((SM.map1 some (SM.map2 Prod.mk (SM.ret a3.1) (SM.map2 Prod.mk (SM.ret a6) (SM.ret z7.1)))) ()).bind fun z => R.ok ((Oc.rt z.1)) else
  R.ok (Oc.nx ())
def first_change_b10 (x : ((List (List Str)) × (List (Str × Str)))) (l2 : Unit) (a3 : (Int × (List Str))) : R (Oc Unit (Option (Int × Int × Int))) :=
  ((SM.bnd1 rng1 (SM.map2 (· - ·) (SM.map1 (fun xs => (xs.length : Int)) (SM.ret a3.2)) (SM.ret (1 : Int)))) ()).bind fun z4 => (forR (first_change_b9 x a3) () z4.1).bind fun o => ocB o (fun (l5 : Unit) =>
  R.ok (Oc.nx ())) (fun r => Oc.rt r)
def first_change (x : ((List (List Str)) × (List (Str × Str)))) : R (Option (Int × Int × Int)) :=
  ((SM.map1 enumL (SM.ret x.1)) ()).bind fun z1 => (forR (first_change_b10 x) () z1.1).bind fun o => ocB o (fun (l2 : Unit) =>
  ((SM.ret (none : Option (Int × Int × Int))) ()).bind fun z => R.ok z.1) (fun r => r)
abbrev first_change_sp (K : PySem.W.Frag) : Sp := (spF (π0 := Unit) (π := Unit) noX (fun (x : ((List (List Str)) × (List (Str × Str)))) _ => [VP.at false (rLst K (rLst K rStr)) (x.1), VP.at true (rLst K (rTup K (RT.cons rStr (RT.one rStr)))) (x.2)]) (fun _ _ => []) first_change (fun (r : (Option (Int × Int × Int))) q => VP.at true (rOpt (rTup K (RT.cons rInt (RT.cons rInt (RT.one rInt))))) r) (fun _ _ => []) fun r q => ([] : OS))
theorem fk_first_change (bi : Bi mg) (D : Dfd K mg "first_change" s_first_change) (fk_saved_h : Fk P w K mg base 2 "saved" ["rows", "k", "at", "lines"] (saved_sp K)) : Fk P w K mg base 3 "first_change" ["rows", "lines"] (first_change_sp K) :=
  mkFk D (fun fd F => fd_ok F sc_first_change 4 (fun _ _ => rfl) rfl fun cdv A outer s H E B x q0 o =>
  hb_forY (kr := (fun r => r)) (ς := Unit) (O := (fun (_ : Unit) => ([] : OS))) (P := VP.at false (rTup K (RT.cons rInt (RT.one (rLst K rStr))))) (l0 := (fun (s : Unit) => ())) (asL := (fun l2 => [some (VP.at false (rLst K (rLst K rStr)) (x.1)), some (VP.at true (rLst K (rTup K (RT.cons rStr (RT.one rStr)))) (x.2)), none, none, none, none])) (osL := (fun l2 => ([] : OS))) (f := (first_change_b10 x)) o (hi_enum bi.enumerate (hx_var (w := false) (r := (rLst K (rLst K rStr))) 0)) () (by exact fun _ => ⟨.inr rfl, ⟨.inr rfl, ⟨.inl rfl, ⟨.inl rfl, ⟨.inl rfl, ⟨.inl rfl, trivial⟩⟩⟩⟩⟩⟩) (fun _ => rfl) (fun l2 a3 => (htg_tup (t := (RT.cons rInt (RT.one (rLst K rStr)))) (by exact o.calm) (htgs_cons (htg_name 2 (by exact o.nd)) (htgs_cons (htg_name 3 (by exact o.nd)) htgs_nil)))) (fun l2 a3 =>
  hb_forY (kr := (fun r => Oc.rt r)) (ς := Unit) (O := (fun (_ : Unit) => ([] : OS))) (P := VP.at true rInt) (l0 := (fun (s : Unit) => ())) (asL := (fun l5 => [some (VP.at false (rLst K (rLst K rStr)) (x.1)), some (VP.at true (rLst K (rTup K (RT.cons rStr (RT.one rStr)))) (x.2)), some (VP.at false rInt (a3.1)), some (VP.at false (rLst K rStr) (a3.2)), none, none])) (osL := (fun l5 => ([] : OS))) (f := (first_change_b9 x a3)) o (hi_range1 bi.range (hx_sub (hx_lenL bi.len (hx_var (w := false) (r := (rLst K rStr)) 3)) hx_int)) () (by exact fun _ => ⟨.inr rfl, ⟨.inr rfl, ⟨.inr rfl, ⟨.inr rfl, ⟨.inl rfl, ⟨.inl rfl, trivial⟩⟩⟩⟩⟩⟩) (fun _ => rfl) (fun l5 a6 => (htg_name 4 (by exact o.nd))) (fun l5 a6 =>
  hb_asg (ς := Unit) (O := (fun (_ : Unit) => ([] : OS))) 5 o.nd (hg_fk fk_saved_h o (by decide) (ha_cons (P := VP.at false (rLst K (rLst K rStr))) (hx_var (w := false) (r := (rLst K (rLst K rStr))) 0) (ha_cons (P := VP.at true rInt) (hx_fl ffInt (hx_var (w := false) (r := rInt) 2)) (ha_cons (P := VP.at true rInt) (hx_var (w := true) (r := rInt) 4) (ha_one (P := VP.at true (rLst K (rTup K (RT.cons rStr (RT.one rStr))))) (hx_var (w := true) (r := (rLst K (rTup K (RT.cons rStr (RT.one rStr))))) 1))))) (by exact fun _ _ => pg_at) (by exact fun _ _ => allF_nil)) () (fun z7 q8 =>
  hb_ifR0 (ht_gt (hx_var (w := true) (r := rInt) 5) hx_int) (
  hb_ret (ς := Unit) (O := (fun (_ : Unit) => ([] : OS))) (hx_opt nnTup (hx_tup (t := (RT.cons rInt (RT.cons rInt (RT.one rInt)))) (w := true) (hn := Nat.le_of_ble_eq_true rfl) (ha_cons (P := VP.at true rInt) (hx_fl ffInt (hx_var (w := false) (r := rInt) 2)) (ha_cons (P := VP.at true rInt) (hx_var (w := true) (r := rInt) 4) (ha_one (P := VP.at true rInt) (hx_var (w := true) (r := rInt) 5)))))) () (fun _ => rfl) (fun z q v S H st ow pv => ⟨(), S, st, trivial, pv⟩)) (
  hb_endO (as' := (fun l5 => [some (VP.at false (rLst K (rLst K rStr)) (x.1)), some (VP.at true (rLst K (rTup K (RT.cons rStr (RT.one rStr)))) (x.2)), some (VP.at false rInt (a3.1)), some (VP.at false (rLst K rStr) (a3.2)), none, none])) (os' := (fun l5 => ([] : OS))) (l := ()) (by exact ⟨.inr rfl, ⟨.inr rfl, ⟨.inr rfl, ⟨.inr rfl, ⟨.inl rfl, ⟨.inl rfl, trivial⟩⟩⟩⟩⟩⟩)))) (fun l5 =>
  hb_endO (as' := (fun l2 => [some (VP.at false (rLst K (rLst K rStr)) (x.1)), some (VP.at true (rLst K (rTup K (RT.cons rStr (RT.one rStr)))) (x.2)), none, none, none, none])) (os' := (fun l2 => ([] : OS))) (l := ()) (by exact ⟨.inr rfl, ⟨.inr rfl, ⟨.inl rfl, ⟨.inl rfl, ⟨.inl rfl, ⟨.inl rfl, trivial⟩⟩⟩⟩⟩⟩))) (fun l2 =>
  hb_ret (ς := Unit) (O := (fun (_ : Unit) => ([] : OS))) (hx_none (r := (rTup K (RT.cons rInt (RT.cons rInt (RT.one rInt)))))) () (fun _ => rfl) (fun z q v S H st ow pv => ⟨(), S, st, trivial, pv⟩))) (fun _ _ _ _ _ _ us hl => match us, hl with | [_, _], _ => rfl)
abbrev s_settled : Stmt := top 15
theorem sc_settled : FnScope ["rows", "lines", "now", "row", "log", "change", "mark", "k", "at", "fewer"] ["rows", "lines"] (defScope s_settled) := ⟨rfl, rfl, rfl, by decide +kernel, rfl, by decide +kernel, by decide +kernel⟩
def settled_w21 (x : ((List (List Str)) × (List (Str × Str)))) (l9 : ((Option (Int × Int × Int)) × (List (List Str)) × (List (Int × Int × Int)))) : R ((Option (Int × Int × Int)) × (List (List Str)) × (List (Int × Int × Int))) :=
  ((SM.bnd1 R.ofO (SM.ret l9.1)) ()).bind fun z10 =>
  ((fun s => ((SM.ret z10.1.1) s).bind fun k => (R.ofO (ixN ((fun (s : (List (List Str))) => s) k.2).length k.1)).bind fun j => ((SM.ret z10.1.2.1) k.2).bind fun z => (R.ofO ((fun (s : (List (List Str))) => s) z.2)[j]?).bind fun xs => (popR xs z.1).bind fun r => R.ok (r.1, (fun (s : (List (List Str))) (d : (List (List Str))) => (d)) z.2 (((fun (s : (List (List Str))) => s) z.2).set j r.2))) (l9.2.1)).bind fun z12 =>
  ((fun s => ((SM.ret z10.1.1) s).bind fun k => (R.ofO (ixN ((fun (s : (List (List Str))) => s) k.2).length k.1)).bind fun j => ((SM.map2 Prod.mk (SM.map2 (· + ·) (SM.ret z10.1.2.1) (SM.ret (1 : Int))) (SM.ret z12.1)) k.2).bind fun z => (R.ofO ((fun (s : (List (List Str))) => s) z.2)[j]?).bind fun xs => (insR xs z.1).bind fun r => R.ok (r.1, (fun (s : (List (List Str))) (d : (List (List Str))) => (d)) z.2 (((fun (s : (List (List Str))) => s) z.2).set j r.2))) (z12.2)).bind fun z14 =>
  ((fun s => ((SM.bnd1 R.ofO (SM.ret l9.1)) s).bind fun z => (appR ((fun (s : (List (Int × Int × Int))) => s) z.2) z.1).bind fun r => R.ok (r.1, (fun (s : (List (Int × Int × Int))) (d : (List (Int × Int × Int))) => (d)) z.2 r.2)) (l9.2.2)).bind fun z16 =>
  ((SM.pk fun t19 => (SM.bnd1 (fun z => (first_change z).calm) (SM.map2 Prod.mk (SM.ret z14.2) (SM.ret x.2)))) ()).bind fun z18 =>
  R.ok (z18.1, z14.2, z16.2)
def settled_c22 (x : ((List (List Str)) × (List (Str × Str)))) (l9 : ((Option (Int × Int × Int)) × (List (List Str)) × (List (Int × Int × Int)))) : SM Unit Bool :=
  (SM.map2 (fun x _ => x.isSome) (SM.ret l9.1) (SM.ret ()))
def settled (x : ((List (List Str)) × (List (Str × Str)))) : R ((List (List Str)) × (List (Int × Int × Int))) :=
  ((SM.lc (SM.ret x.1) (fun (a3 : (List Str)) => (SM.ret true)) (fun a3 => (SM.map1 id (SM.ret a3)))) ()).bind fun z1 =>
  ((SM.ret ([] : (List (Int × Int × Int)))) ()).bind fun z4 =>
  ((SM.pk fun t7 => (SM.bnd1 (fun z => (first_change z).calm) (SM.map2 Prod.mk (SM.ret z1.1) (SM.ret x.2)))) ()).bind fun z6 =>
  (whileR0 (settled_c22 x) (settled_w21 x) ((x.1).length * (x.2).length * (x.2).length + 1) (z6.1, z1.1, z4.1)).bind fun (l9 : ((Option (Int × Int × Int)) × (List (List Str)) × (List (Int × Int × Int)))) =>
  ((SM.map2 Prod.mk (SM.ret ()) (SM.ret ())) ()).bind fun z => R.ok ((l9.2.1, l9.2.2))
abbrev settled_sp (K : PySem.W.Frag) : Sp := (spF (π0 := Unit) (π := ((Addr × List Addr) × Addr)) noX (fun (x : ((List (List Str)) × (List (Str × Str)))) _ => [VP.at false (rLst K (rLst K rStr)) (x.1), VP.at true (rLst K (rTup K (RT.cons rStr (RT.one rStr)))) (x.2)]) (fun _ _ => []) settled (fun (r : ((List (List Str)) × (List (Int × Int × Int)))) q => VP.tup K [VP.ptr q.1.1, VP.ptr q.2]) (fun _ _ => []) fun r q => (((⟨q.2, cLst (rTup K (RT.cons rInt (RT.cons rInt (RT.one rInt)))) (r.2), true⟩ : OE) :: (nwG (cLst rStr) (r.1) q.1 ++ ([] : OS))) : OS))
theorem fk_settled (bi : Bi mg) (D : Dfd K mg "settled" s_settled) (fk_first_change_h : Fk P w K mg base 3 "first_change" ["rows", "lines"] (first_change_sp K)) : Fk P w K mg base 4 "settled" ["rows", "lines"] (settled_sp K) :=
  mkFk D (fun fd F => fd_ok F sc_settled 8 (fun _ _ => rfl) rfl fun cdv A outer s H E B x q0 o =>
  hb_lcQ (ct := cLst rStr) (ς := Unit) (O := (fun (_ : Unit) => ([] : OS))) 2 o (Lcq.mk ⟨VP.at false (rLst K rStr), [3], _, (hi_list (hx_var (w := false) (r := (rLst K (rLst K rStr))) 0)), blkOk_by (own := [("row", 3)]) (by rfl), (by decide), fun _ _ _ _ _ _ a3 => (htg_name 3 (by exact o.nd)), fun _ _ _ _ _ _ a3 => hts_nil, fun _ _ _ _ _ _ a3 => (hn_listF ffStr bi.list (hx_var (w := false) (r := (rLst K rStr)) 3))⟩) () (fun z1 q2 =>
  hb_perm (perm_gr (nwG (cLst rStr) (z1.1) q2) [] ([] : OS)) (hb_asg (ς := Unit) (O := (fun (_ : Unit) => (((nwG (cLst rStr) (z1.1) q2 ++ ([] : OS))) : OS))) 4 o.nd (hn_nil (r := (rTup K (RT.cons rInt (RT.cons rInt (RT.one rInt)))))) () (fun z4 q5 =>
  hb_asg (ς := Unit) (O := (fun (_ : Unit) => (((⟨q5, cLst (rTup K (RT.cons rInt (RT.cons rInt (RT.one rInt)))) (z4.1), true⟩ : OE) :: (nwG (cLst rStr) (z1.1) q2 ++ ([] : OS))) : OS))) 5 o.nd (hx_pk (fun (t7 : Unit) => [none, some (VP.at true (rLst K (rTup K (RT.cons rStr (RT.one rStr)))) (x.2)), some (VP.at false (rLst K (rLst K rStr)) (z1.1)), none, none, none, none, none, none, none]) _ (by exact fun _ => ⟨.no, ⟨.same, ⟨pk_grp (r := rStr) (q := q2.1) (ps := q2.2) ([⟨q5, cLst (rTup K (RT.cons rInt (RT.cons rInt (RT.one rInt)))) (z4.1), true⟩] : OS) ([] : OS), ⟨.no, ⟨.no, ⟨.no, ⟨.no, ⟨.no, ⟨.no, ⟨.no, trivial⟩⟩⟩⟩⟩⟩⟩⟩⟩⟩) fun _ _ => (hg_fk fk_first_change_h (Ok.pk o _) (by decide) (ha_cons (P := VP.at false (rLst K (rLst K rStr))) (hx_var (w := false) (r := (rLst K (rLst K rStr))) 2) (ha_one (P := VP.at true (rLst K (rTup K (RT.cons rStr (RT.one rStr))))) (hx_var (w := true) (r := (rLst K (rTup K (RT.cons rStr (RT.one rStr))))) 1))) (by exact fun _ _ => pg_at) (by exact fun _ _ => allF_nil))) () (fun z6 q8 =>
  hb_while0 (mc := (settled_c22 x)) (f := (settled_w21 x)) (n := (x.1).length * (x.2).length * (x.2).length + 1) (l0 := (z6.1, z1.1, z4.1)) (asL := (fun l9 => [some (VP.at false (rLst K (rLst K rStr)) (x.1)), some (VP.at true (rLst K (rTup K (RT.cons rStr (RT.one rStr)))) (x.2)), some (VP.ptr q2.1), none, some (VP.ptr q5), some (VP.at true (rOpt (rTup K (RT.cons rInt (RT.cons rInt (RT.one rInt))))) (l9.1)), none, none, none, none])) (osL := (fun l9 => (((⟨q5, cLst (rTup K (RT.cons rInt (RT.cons rInt (RT.one rInt)))) (l9.2.2), true⟩ : OE) :: (nwG (cLst rStr) (l9.2.1) q2 ++ ([] : OS))) : OS))) o (by exact ⟨.inr rfl, ⟨.inr rfl, ⟨.inr rfl, ⟨.inl rfl, ⟨.inr rfl, ⟨.inr rfl, ⟨.inl rfl, ⟨.inl rfl, ⟨.inl rfl, ⟨.inl rfl, trivial⟩⟩⟩⟩⟩⟩⟩⟩⟩⟩) rfl (fun l9 => (ht_noN (hx_var (w := true) (r := (rOpt (rTup K (RT.cons rInt (RT.cons rInt (RT.one rInt)))))) 5))) (fun l9 =>
  hb_asgT (ς := Unit) (O := (fun (_ : Unit) => (((⟨q5, cLst (rTup K (RT.cons rInt (RT.cons rInt (RT.one rInt)))) (l9.2.2), true⟩ : OE) :: (nwG (cLst rStr) (l9.2.1) q2 ++ ([] : OS))) : OS))) (hx_some (hx_var (w := true) (r := (rOpt (rTup K (RT.cons rInt (RT.cons rInt (RT.one rInt)))))) 5)) () (fun _ _ => (htg_tup (t := (RT.cons rInt (RT.cons rInt (RT.one rInt)))) (by exact o.calm) (htgs_cons (htg_name 7 (by exact o.nd)) (htgs_cons (htg_name 8 (by exact o.nd)) (htgs_cons (htg_name 9 (by exact o.nd)) htgs_nil))))) (fun z10 q11 =>
  hb_asg (ς := (List (List Str))) (O := (fun (s : (List (List Str))) => (((⟨q5, cLst (rTup K (RT.cons rInt (RT.cons rInt (RT.one rInt)))) (l9.2.2), true⟩ : OE) :: (nwG (cLst rStr) (s) q2 ++ ([] : OS))) : OS))) 6 o.nd (hx_mutG (q0 := q2.1) (ps := q2.2) PySem.F.slot_list_pop PySem.F.type_list_pop mt_popAt (ov_pop (rp := rStr)) 2 (fun (s : (List (List Str))) => ([⟨q5, cLst (rTup K (RT.cons rInt (RT.cons rInt (RT.one rInt)))) (l9.2.2), true⟩] : OS)) (fun (_ : (List (List Str))) => ([] : OS)) (fun (s : (List (List Str))) => s) (fun (s : (List (List Str))) (d : (List (List Str))) => (d)) (hx_var (w := true) (r := rInt) 7) (ha_one (P := VP.at true rInt) (hx_var (w := true) (r := rInt) 8))) (l9.2.1) (fun z12 q13 =>
  hb_expr (ς := (List (List Str))) (O := (fun (s : (List (List Str))) => (((⟨q5, cLst (rTup K (RT.cons rInt (RT.cons rInt (RT.one rInt)))) (l9.2.2), true⟩ : OE) :: (nwG (cLst rStr) (s) q2 ++ ([] : OS))) : OS))) (hx_mutG (q0 := q2.1) (ps := q2.2) PySem.F.slot_list_insert PySem.F.type_list_insert mt_insert (ov_ins (rp := rStr)) 2 (fun (s : (List (List Str))) => ([⟨q5, cLst (rTup K (RT.cons rInt (RT.cons rInt (RT.one rInt)))) (l9.2.2), true⟩] : OS)) (fun (_ : (List (List Str))) => ([] : OS)) (fun (s : (List (List Str))) => s) (fun (s : (List (List Str))) (d : (List (List Str))) => (d)) (hx_var (w := true) (r := rInt) 7) (ha_cons (P := VP.at true rInt) (hx_add (hx_var (w := true) (r := rInt) 8) hx_int) (ha_one (P := VP.at true rStr) (hx_var (w := true) (r := rStr) 6)))) (z12.2) (fun z14 q15 =>
  hb_expr (ς := (List (Int × Int × Int))) (O := (fun (s : (List (Int × Int × Int))) => (((⟨q5, cLst (rTup K (RT.cons rInt (RT.cons rInt (RT.one rInt)))) (s), true⟩ : OE) :: (nwG (cLst rStr) (z14.2) q2 ++ ([] : OS))) : OS))) (hx_mutL PySem.F.slot_list_append PySem.F.type_list_append mt_append (ov_app (rp := (rTup K (RT.cons rInt (RT.cons rInt (RT.one rInt)))))) 4 0 (fun (s : (List (Int × Int × Int))) => s) (fun (s : (List (Int × Int × Int))) (d : (List (Int × Int × Int))) => (d)) (ha_one (P := VP.at true (rTup K (RT.cons rInt (RT.cons rInt (RT.one rInt))))) (hx_some (hx_var (w := true) (r := (rOpt (rTup K (RT.cons rInt (RT.cons rInt (RT.one rInt)))))) 5)))) (l9.2.2) (fun z16 q17 =>
  hb_asg (ς := Unit) (O := (fun (_ : Unit) => (((⟨q5, cLst (rTup K (RT.cons rInt (RT.cons rInt (RT.one rInt)))) (z16.2), true⟩ : OE) :: (nwG (cLst rStr) (z14.2) q2 ++ ([] : OS))) : OS))) 5 o.nd (hx_pk (fun (t19 : Unit) => [none, some (VP.at true (rLst K (rTup K (RT.cons rStr (RT.one rStr)))) (x.2)), some (VP.at false (rLst K (rLst K rStr)) (z14.2)), none, none, none, none, none, none, none]) _ (by exact fun _ => ⟨.no, ⟨.same, ⟨pk_grp (r := rStr) (q := q2.1) (ps := q2.2) ([⟨q5, cLst (rTup K (RT.cons rInt (RT.cons rInt (RT.one rInt)))) (z16.2), true⟩] : OS) ([] : OS), ⟨.no, ⟨.no, ⟨.no, ⟨.no, ⟨.no, ⟨.no, ⟨.no, trivial⟩⟩⟩⟩⟩⟩⟩⟩⟩⟩) fun _ _ => (hg_fk fk_first_change_h (Ok.pk o _) (by decide) (ha_cons (P := VP.at false (rLst K (rLst K rStr))) (hx_var (w := false) (r := (rLst K (rLst K rStr))) 2) (ha_one (P := VP.at true (rLst K (rTup K (RT.cons rStr (RT.one rStr))))) (hx_var (w := true) (r := (rLst K (rTup K (RT.cons rStr (RT.one rStr))))) 1))) (by exact fun _ _ => pg_at) (by exact fun _ _ => allF_nil))) () (fun z18 q20 =>
  hb_end (as' := (fun l9 => [some (VP.at false (rLst K (rLst K rStr)) (x.1)), some (VP.at true (rLst K (rTup K (RT.cons rStr (RT.one rStr)))) (x.2)), some (VP.ptr q2.1), none, some (VP.ptr q5), some (VP.at true (rOpt (rTup K (RT.cons rInt (RT.cons rInt (RT.one rInt))))) (l9.1)), none, none, none, none])) (os' := (fun l9 => (((⟨q5, cLst (rTup K (RT.cons rInt (RT.cons rInt (RT.one rInt)))) (l9.2.2), true⟩ : OE) :: (nwG (cLst rStr) (l9.2.1) q2 ++ ([] : OS))) : OS))) (l := (z18.1, z14.2, z16.2)) (by exact ⟨.inr rfl, ⟨.inr rfl, ⟨.inr rfl, ⟨.inl rfl, ⟨.inr rfl, ⟨.inr rfl, ⟨.inl rfl, ⟨.inl rfl, ⟨.inl rfl, ⟨.inl rfl, trivial⟩⟩⟩⟩⟩⟩⟩⟩⟩⟩))))))) (fun l9 =>
  hb_ret (ς := Unit) (O := (fun (_ : Unit) => (((⟨q5, cLst (rTup K (RT.cons rInt (RT.cons rInt (RT.one rInt)))) (l9.2.2), true⟩ : OE) :: (nwG (cLst rStr) (l9.2.1) q2 ++ ([] : OS))) : OS))) (hx_tupV (hn := fun _ => Nat.le_of_ble_eq_true rfl) (ha_cons (hx_ptr 2) (ha_one (hx_ptr 4)))) () (fun _ => rfl) (fun z q v S H st ow pv => ⟨(q2, q5), S, st, (own_app_nil (ow.sub (List.Sublist.cons_cons _ (sub_keep _ (List.Sublist.refl _))))), pv⟩))))))) (fun _ _ _ _ _ _ us hl => match us, hl with | [_, _], _ => rfl)
abbrev s__law_cell_at : Stmt := top 27
theorem sc__law_cell_at : FnScope ["script", "k"] ["script", "k"] (defScope s__law_cell_at) := ⟨rfl, rfl, rfl, by decide +kernel, rfl, by decide +kernel, by decide +kernel⟩
def _law_cell_at (x : ((List Int) × Int)) : R Int :=
  ((SM.map2 ltB (SM.ret x.2) (SM.map1 (fun xs => (xs.length : Int)) (SM.ret x.1))) ()).bind fun z => if z.1 = true then
  ((SM.bnd2 getI (SM.ret x.1) (SM.ret x.2)) ()).bind fun z => R.ok z.1 else
  ((SM.ret (0 : Int)) ()).bind fun z => R.ok z.1
abbrev _law_cell_at_sp (K : PySem.W.Frag) : Sp := (spF (π0 := Unit) (π := Unit) noX (fun (x : ((List Int) × Int)) _ => [VP.at true (rLst K rInt) (x.1), VP.at true rInt (x.2)]) (fun _ _ => []) _law_cell_at (fun (r : Int) q => VP.at true rInt r) (fun _ _ => []) fun r q => ([] : OS))
theorem fk__law_cell_at (bi : Bi mg) (D : Dfd K mg "_law_cell_at" s__law_cell_at) : Fk P w K mg base 1 "_law_cell_at" ["script", "k"] (_law_cell_at_sp K) :=
  mkFk D (fun fd F => fd_ok F sc__law_cell_at 0 (fun _ _ => rfl) rfl fun cdv A outer s H E B x q0 o =>
  hb_ifR0 (ht_lt (hx_var (w := true) (r := rInt) 1) (hx_lenL bi.len (hx_var (w := true) (r := (rLst K rInt)) 0))) (
  hb_ret (ς := Unit) (O := (fun (_ : Unit) => ([] : OS))) (hx_idx (hx_var (w := true) (r := (rLst K rInt)) 0) (hx_var (w := true) (r := rInt) 1)) () (fun _ => rfl) (fun z q v S H st ow pv => ⟨(), S, st, trivial, pv⟩)) (
  hb_ret (ς := Unit) (O := (fun (_ : Unit) => ([] : OS))) hx_int () (fun _ => rfl) (fun z q v S H st ow pv => ⟨(), S, st, trivial, pv⟩))) (fun _ _ _ _ _ _ us hl => match us, hl with | [_, _], _ => rfl)
abbrev s__law_mix : Stmt := top 28
theorem sc__law_mix : FnScope ["cell", "k", "base", "left", "step", "number"] ["cell", "k"] (defScope s__law_mix) := ⟨rfl, rfl, rfl, by decide +kernel, rfl, by decide +kernel, by decide +kernel⟩
def _law_mix_b21 (z12 : Int × Unit) (l17 : Int) (a18 : Int) : R Int :=
  ((SM.bnd2 divR (SM.ret l17) (SM.ret z12.1)) ()).bind fun z19 =>
  R.ok (z19.1)
def _law_mix (x : (Int × Int)) : R Int :=
  (((SM.map2 eqB (SM.bnd2 modR (SM.bnd2 divR (SM.ret x.1) (SM.ret (64 : Int))) (SM.ret (2 : Int))) (SM.ret (1 : Int))) ()).bind fun z => if z.1 = true then
  ((SM.bnd2 getI (SM.bnd1 dispR (SM.map2 List.cons (SM.ret (50 : Int)) (SM.map2 List.cons (SM.bnd2 powR (SM.ret (10 : Int)) (SM.ret (10 : Int))) (SM.ret [])))) (SM.bnd2 modR (SM.bnd2 divR (SM.ret x.1) (SM.ret (128 : Int))) (SM.ret (2 : Int)))) ()).bind fun z12 =>
  ((SM.bnd2 divR (SM.ret x.1) (SM.ret (256 : Int))) ()).bind fun z14 =>
  ((SM.bnd1 rng1 (SM.map2 (· - ·) (SM.ret x.2) (SM.ret (1 : Int)))) ()).bind fun z16 => (foldR (_law_mix_b21 z12) (z14.1) z16.1).bind fun l17 =>
  ((SM.map2 gtB (SM.ret l17) (SM.ret (0 : Int))) ()).bind fun z => if z.1 = true then
  ((SM.bnd2 modR (SM.ret l17) (SM.ret z12.1)) ()).bind fun z => R.ok ((Oc.rt z.1)) else
  R.ok (Oc.nx ()) else
  R.ok (Oc.nx ())).bind fun o => ocB o (fun (l11 : Unit) =>
  ((SM.bnd2 modR (SM.bnd2 mulR (SM.bnd2 modR (SM.map2 (· + ·) (SM.map2 (· + ·) (SM.ret x.1) (SM.bnd2 mulR (SM.ret (7919 : Int)) (SM.ret x.2))) (SM.ret (1 : Int))) (SM.ret (2147483647 : Int))) (SM.ret (48271 : Int))) (SM.ret (2147483647 : Int))) ()).bind fun z22 =>
  ((SM.bnd2 modR (SM.bnd2 mulR (SM.ret z22.1) (SM.map2 (· + ·) (SM.bnd2 divR (SM.ret z22.1) (SM.ret (1009 : Int))) (SM.ret (69621 : Int)))) (SM.ret (2147483647 : Int))) ()).bind fun z24 =>
  ((SM.bnd2 modR (SM.bnd2 mulR (SM.ret z24.1) (SM.map2 (· + ·) (SM.bnd2 divR (SM.ret z24.1) (SM.ret (127 : Int))) (SM.ret (30011 : Int)))) (SM.ret (2147483647 : Int))) ()).bind fun z => R.ok z.1) (fun r => r)
abbrev _law_mix_sp (K : PySem.W.Frag) : Sp := (spF (π0 := Unit) (π := Unit) noX (fun (x : (Int × Int)) _ => [VP.at true rInt (x.1), VP.at true rInt (x.2)]) (fun _ _ => []) _law_mix (fun (r : Int) q => VP.at true rInt r) (fun _ _ => []) fun r q => ([] : OS))
theorem fk__law_mix (bi : Bi mg) (D : Dfd K mg "_law_mix" s__law_mix) : Fk P w K mg base 1 "_law_mix" ["cell", "k"] (_law_mix_sp K) :=
  mkFk D (fun fd F => fd_ok F sc__law_mix 4 (fun _ _ => rfl) rfl fun cdv A outer s H E B x q0 o =>
  hb_seqY (as1 := (fun l11 => [some (VP.at true rInt (x.1)), some (VP.at true rInt (x.2)), none, none, none, none])) (os1 := (fun l11 => ([] : OS))) (kr := (fun r => r)) (hs_if (ht_eq (hx_mod (hx_div (hx_var (w := true) (r := rInt) 0) hx_int) hx_int) hx_int) (
  hb_asg (ς := Unit) (O := (fun (_ : Unit) => ([] : OS))) 2 o.nd (hx_idx (HG.frzL (f := id) (hn_lstD (hl_cons hx_int (hl_cons (hx_pow hx_int hx_int) (hl_nil))))) (hx_mod (hx_div (hx_var (w := true) (r := rInt) 0) hx_int) hx_int)) () (fun z12 q13 =>
  hb_asg (ς := Unit) (O := (fun (_ : Unit) => ([] : OS))) 3 o.nd (hx_div (hx_var (w := true) (r := rInt) 0) hx_int) () (fun z14 q15 =>
  hb_for (ς := Unit) (O := (fun (_ : Unit) => ([] : OS))) (P := VP.at true rInt) (l0 := (fun (s : Unit) => (z14.1))) (asL := (fun l17 => [some (VP.at true rInt (x.1)), some (VP.at true rInt (x.2)), some (VP.at true rInt (z12.1)), some (VP.at true rInt (l17)), none, none])) (osL := (fun l17 => ([] : OS))) (f := (_law_mix_b21 z12)) o (hi_range1 bi.range (hx_sub (hx_var (w := true) (r := rInt) 1) hx_int)) () (by exact fun _ => ⟨.inr rfl, ⟨.inr rfl, ⟨.inr rfl, ⟨.inr rfl, ⟨.inl rfl, ⟨.inl rfl, trivial⟩⟩⟩⟩⟩⟩) (fun _ => rfl) (fun l17 a18 => (htg_name 4 (by exact o.nd))) (fun l17 a18 =>
  hb_asg (ς := Unit) (O := (fun (_ : Unit) => ([] : OS))) 3 o.nd (hx_div (hx_var (w := true) (r := rInt) 3) (hx_var (w := true) (r := rInt) 2)) () (fun z19 q20 =>
  hb_end (as' := (fun l17 => [some (VP.at true rInt (x.1)), some (VP.at true rInt (x.2)), some (VP.at true rInt (z12.1)), some (VP.at true rInt (l17)), none, none])) (os' := (fun l17 => ([] : OS))) (l := (z19.1)) (by exact ⟨.inr rfl, ⟨.inr rfl, ⟨.inr rfl, ⟨.inr rfl, ⟨.inl rfl, ⟨.inl rfl, trivial⟩⟩⟩⟩⟩⟩))) (fun l17 =>
  hb_ifR0 (ht_gt (hx_var (w := true) (r := rInt) 3) hx_int) (
  hb_ret (ς := Unit) (O := (fun (_ : Unit) => ([] : OS))) (hx_mod (hx_var (w := true) (r := rInt) 3) (hx_var (w := true) (r := rInt) 2)) () (fun _ => rfl) (fun z q v S H st ow pv => ⟨(), S, st, trivial, pv⟩)) (
  hb_endO (as' := (fun l11 => [some (VP.at true rInt (x.1)), some (VP.at true rInt (x.2)), none, none, none, none])) (os' := (fun l11 => ([] : OS))) (l := ()) (by exact ⟨.inr rfl, ⟨.inr rfl, ⟨.inl rfl, ⟨.inl rfl, ⟨.inl rfl, ⟨.inl rfl, trivial⟩⟩⟩⟩⟩⟩)))))) (
  hb_endO (as' := (fun l11 => [some (VP.at true rInt (x.1)), some (VP.at true rInt (x.2)), none, none, none, none])) (os' := (fun l11 => ([] : OS))) (l := ()) (by exact ⟨.inr rfl, ⟨.inr rfl, ⟨.inl rfl, ⟨.inl rfl, ⟨.inl rfl, ⟨.inl rfl, trivial⟩⟩⟩⟩⟩⟩))) (fun l11 =>
  hb_asg (ς := Unit) (O := (fun (_ : Unit) => ([] : OS))) 5 o.nd (hx_mod (hx_mul (hx_mod (hx_add (hx_add (hx_var (w := true) (r := rInt) 0) (hx_mul hx_int (hx_var (w := true) (r := rInt) 1))) hx_int) hx_int) hx_int) hx_int) () (fun z22 q23 =>
  hb_asg (ς := Unit) (O := (fun (_ : Unit) => ([] : OS))) 5 o.nd (hx_mod (hx_mul (hx_var (w := true) (r := rInt) 5) (hx_add (hx_div (hx_var (w := true) (r := rInt) 5) hx_int) hx_int)) hx_int) () (fun z24 q25 =>
  hb_ret (ς := Unit) (O := (fun (_ : Unit) => ([] : OS))) (hx_mod (hx_mul (hx_var (w := true) (r := rInt) 5) (hx_add (hx_div (hx_var (w := true) (r := rInt) 5) hx_int) hx_int)) hx_int) () (fun _ => rfl) (fun z q v S H st ow pv => ⟨(), S, st, trivial, pv⟩))))) (fun _ _ _ _ _ _ us hl => match us, hl with | [_, _], _ => rfl)
abbrev s__law_rows : Stmt := top 29
theorem sc__law_rows : FnScope ["first", "rows", "many", "ahead", "end", "k", "row", "j"] ["first"] (defScope s__law_rows) := ⟨rfl, rfl, rfl, by decide +kernel, rfl, by decide +kernel, by decide +kernel⟩
def _law_rows_b20 (x : Int) (z5 : (Str × Str) × Unit) (l13 : (Int × (List Str))) (a14 : Int) : R (Int × (List Str)) :=
  ((SM.map2 (· + ·) (SM.ret l13.1) (SM.ret (1 : Int))) ()).bind fun z15 =>
  ((fun s => ((SM.map2 Prod.mk (SM.pk fun t17 => (SM.bnd2 modR (SM.bnd1 (fun z => (_law_mix z).calm) (SM.map2 Prod.mk (SM.ret x) (SM.map2 (· + ·) (SM.ret (20 : Int)) (SM.ret z15.1)))) (SM.map2 (· + ·) (SM.map1 (fun xs => (xs.length : Int)) (SM.ret t17)) (SM.ret (1 : Int))))) (SM.bnd2 catS (SM.bnd2 catS (SM.ret z5.1.1) (SM.bnd1 strI (SM.ret z15.1))) (SM.ret z5.1.2))) s).bind fun z => (insR ((fun (s : (List Str)) => s) z.2) z.1).bind fun r => R.ok (r.1, (fun (s : (List Str)) (d : (List Str)) => (d)) z.2 r.2)) (l13.2)).bind fun z18 =>
  R.ok (z15.1, z18.2)
def _law_rows_b23 (x : Int) (z5 : (Str × Str) × Unit) (l8 : (Int × (List (List Str)))) (a9 : Int) : R (Int × (List (List Str))) :=
  ((SM.ret ([] : (List Str))) ()).bind fun z10 =>
  ((SM.bnd1 rng1 (SM.map2 (· + ·) (SM.ret (1 : Int)) (SM.bnd2 modR (SM.bnd1 (fun z => (_law_mix z).calm) (SM.map2 Prod.mk (SM.ret x) (SM.map2 (· + ·) (SM.ret a9) (SM.ret (1 : Int))))) (SM.ret (4 : Int))))) ()).bind fun z12 => (foldR (_law_rows_b20 x z5) (l8.1, z10.1) z12.1).bind fun l13 =>
  ((fun s => ((SM.ret l13.2) s).bind fun z => (appR ((fun (s : (List (List Str))) => s) z.2) z.1).bind fun r => R.ok (r.1, (fun (s : (List (List Str))) (d : (List (List Str))) => (d)) z.2 r.2)) (l8.2)).bind fun z21 =>
  R.ok (l13.1, z21.2)
def _law_rows (x : Int) : R (List (List Str)) :=
  ((SM.ret ([] : (List (List Str)))) ()).bind fun z1 =>
  ((SM.ret (0 : Int)) ()).bind fun z3 =>
  ((SM.bnd2 getI (SM.bnd1 dispR (SM.map2 List.cons (SM.map2 Prod.mk (SM.ret ("" : Str)) (SM.ret ("a" : Str))) (SM.map2 List.cons (SM.map2 Prod.mk (SM.ret ("b" : Str)) (SM.ret ("" : Str))) (SM.map2 List.cons (SM.map2 Prod.mk (SM.ret ("12." : Str)) (SM.ret ("" : Str))) (SM.map2 List.cons (SM.map2 Prod.mk (SM.ret ("" : Str)) (SM.ret ("zz" : Str))) (SM.ret [])))))) (SM.bnd2 modR (SM.ret x) (SM.ret (4 : Int)))) ()).bind fun z5 =>
  ((SM.bnd1 rng1 (SM.map2 (· + ·) (SM.ret (1 : Int)) (SM.bnd2 modR (SM.bnd2 divR (SM.ret x) (SM.ret (4 : Int))) (SM.ret (4 : Int))))) ()).bind fun z7 => (foldR (_law_rows_b23 x z5) (z3.1, z1.1) z7.1).bind fun l8 =>
  ((SM.ret l8.2) ()).bind fun z => R.ok z.1
abbrev _law_rows_sp (K : PySem.W.Frag) : Sp := (spF (π0 := Unit) (π := Unit) noX (fun (x : Int) _ => [VP.at true rInt (x)]) (fun _ _ => []) _law_rows (fun (r : (List (List Str))) q => VP.at true (rLst K (rLst K rStr)) r) (fun _ _ => []) fun r q => ([] : OS))
theorem fk__law_rows (bi : Bi mg) (D : Dfd K mg "_law_rows" s__law_rows) (fk__law_mix_h : Fk P w K mg base 1 "_law_mix" ["cell", "k"] (_law_mix_sp K)) : Fk P w K mg base 2 "_law_rows" ["first"] (_law_rows_sp K) :=
  mkFk D (fun fd F => fd_ok F sc__law_rows 7 (fun _ _ => rfl) rfl fun cdv A outer s H E B x q0 o =>
  hb_asg (ς := Unit) (O := (fun (_ : Unit) => ([] : OS))) 1 o.nd (hn_nil (r := (rLst K rStr))) () (fun z1 q2 =>
  hb_asg (ς := Unit) (O := (fun (_ : Unit) => ([⟨q2, cLst (rLst K rStr) (z1.1), true⟩] : OS))) 2 o.nd hx_int () (fun z3 q4 =>
  hb_asgT (ς := Unit) (O := (fun (_ : Unit) => ([⟨q2, cLst (rLst K rStr) (z1.1), true⟩] : OS))) (hx_idx (HG.frzL (f := id) (hn_lstD (hl_cons (hx_tup (t := (RT.cons rStr (RT.one rStr))) (w := true) (hn := Nat.le_of_ble_eq_true rfl) (ha_cons (P := VP.at true rStr) hx_str (ha_one (P := VP.at true rStr) hx_str))) (hl_cons (hx_tup (t := (RT.cons rStr (RT.one rStr))) (w := true) (hn := Nat.le_of_ble_eq_true rfl) (ha_cons (P := VP.at true rStr) hx_str (ha_one (P := VP.at true rStr) hx_str))) (hl_cons (hx_tup (t := (RT.cons rStr (RT.one rStr))) (w := true) (hn := Nat.le_of_ble_eq_true rfl) (ha_cons (P := VP.at true rStr) hx_str (ha_one (P := VP.at true rStr) hx_str))) (hl_cons (hx_tup (t := (RT.cons rStr (RT.one rStr))) (w := true) (hn := Nat.le_of_ble_eq_true rfl) (ha_cons (P := VP.at true rStr) hx_str (ha_one (P := VP.at true rStr) hx_str))) (hl_nil))))))) (hx_mod (hx_var (w := true) (r := rInt) 0) hx_int)) () (fun _ _ => (htg_tup (t := (RT.cons rStr (RT.one rStr))) (by exact o.calm) (htgs_cons (htg_name 3 (by exact o.nd)) (htgs_cons (htg_name 4 (by exact o.nd)) htgs_nil)))) (fun z5 q6 =>
  hb_for (ς := Unit) (O := (fun (_ : Unit) => ([⟨q2, cLst (rLst K rStr) (z1.1), true⟩] : OS))) (P := VP.at true rInt) (l0 := (fun (s : Unit) => (z3.1, z1.1))) (asL := (fun l8 => [some (VP.at true rInt (x)), some (VP.ptr q2), some (VP.at true rInt (l8.1)), some (VP.at true rStr (z5.1.1)), some (VP.at true rStr (z5.1.2)), none, none, none])) (osL := (fun l8 => ([⟨q2, cLst (rLst K rStr) (l8.2), true⟩] : OS))) (f := (_law_rows_b23 x z5)) o (hi_range1 bi.range (hx_add hx_int (hx_mod (hx_div (hx_var (w := true) (r := rInt) 0) hx_int) hx_int))) () (by exact fun _ => ⟨.inr rfl, ⟨.inr rfl, ⟨.inr rfl, ⟨.inr rfl, ⟨.inr rfl, ⟨.inl rfl, ⟨.inl rfl, ⟨.inl rfl, trivial⟩⟩⟩⟩⟩⟩⟩⟩) (fun _ => rfl) (fun l8 a9 => (htg_name 5 (by exact o.nd))) (fun l8 a9 =>
  hb_asg (ς := Unit) (O := (fun (_ : Unit) => ([⟨q2, cLst (rLst K rStr) (l8.2), true⟩] : OS))) 6 o.nd (hn_nil (r := rStr)) () (fun z10 q11 =>
  hb_for (ς := Unit) (O := (fun (_ : Unit) => ([⟨q11, cLst rStr (z10.1), true⟩, ⟨q2, cLst (rLst K rStr) (l8.2), true⟩] : OS))) (P := VP.at true rInt) (l0 := (fun (s : Unit) => (l8.1, z10.1))) (asL := (fun l13 => [some (VP.at true rInt (x)), some (VP.ptr q2), some (VP.at true rInt (l13.1)), some (VP.at true rStr (z5.1.1)), some (VP.at true rStr (z5.1.2)), some (VP.at true rInt (a9)), some (VP.ptr q11), none])) (osL := (fun l13 => ([⟨q11, cLst rStr (l13.2), true⟩, ⟨q2, cLst (rLst K rStr) (l8.2), true⟩] : OS))) (f := (_law_rows_b20 x z5)) o (hi_range1 bi.range (hx_add hx_int (hx_mod (hg_fk fk__law_mix_h o (by decide) (ha_cons (P := VP.at true rInt) (hx_var (w := true) (r := rInt) 0) (ha_one (P := VP.at true rInt) (hx_add (hx_var (w := true) (r := rInt) 5) hx_int))) (by exact fun _ _ => pg_at) (by exact fun _ _ => allF_nil)) hx_int))) () (by exact fun _ => ⟨.inr rfl, ⟨.inr rfl, ⟨.inr rfl, ⟨.inr rfl, ⟨.inr rfl, ⟨.inr rfl, ⟨.inr rfl, ⟨.inl rfl, trivial⟩⟩⟩⟩⟩⟩⟩⟩) (fun _ => rfl) (fun l13 a14 => (htg_name 7 (by exact o.nd))) (fun l13 a14 =>
  hb_asg (ς := Unit) (O := (fun (_ : Unit) => ([⟨q11, cLst rStr (l13.2), true⟩, ⟨q2, cLst (rLst K rStr) (l8.2), true⟩] : OS))) 2 o.nd (hx_add (hx_var (w := true) (r := rInt) 2) hx_int) () (fun z15 q16 =>
  hb_expr (ς := (List Str)) (O := (fun (s : (List Str)) => ([⟨q11, cLst rStr (s), true⟩, ⟨q2, cLst (rLst K rStr) (l8.2), true⟩] : OS))) (hx_mutL PySem.F.slot_list_insert PySem.F.type_list_insert mt_insert (ov_ins (rp := rStr)) 6 0 (fun (s : (List Str)) => s) (fun (s : (List Str)) (d : (List Str)) => (d)) (ha_cons (P := VP.at true rInt) (hx_pk (fun (t17 : (List Str)) => [some (VP.at true rInt (x)), none, some (VP.at true rInt (z15.1)), none, none, none, some (VP.at false (rLst K rStr) (t17)), none]) _ (by exact fun _ => ⟨.same, ⟨.no, ⟨.same, ⟨.no, ⟨.no, ⟨.no, ⟨pk_lst 0, ⟨.no, trivial⟩⟩⟩⟩⟩⟩⟩⟩) fun _ _ => (hx_mod (hg_fk fk__law_mix_h (Ok.pk o _) (by decide) (ha_cons (P := VP.at true rInt) (hx_var (w := true) (r := rInt) 0) (ha_one (P := VP.at true rInt) (hx_add hx_int (hx_var (w := true) (r := rInt) 2)))) (by exact fun _ _ => pg_at) (by exact fun _ _ => allF_nil)) (hx_add (hx_lenL bi.len (hx_var (w := false) (r := (rLst K rStr)) 6)) hx_int))) (ha_one (P := VP.at true rStr) (hx_cat (hx_cat (hx_var (w := true) (r := rStr) 3) (hx_strI bi.str (hx_var (w := true) (r := rInt) 2))) (hx_var (w := true) (r := rStr) 4))))) (l13.2) (fun z18 q19 =>
  hb_end (as' := (fun l13 => [some (VP.at true rInt (x)), some (VP.ptr q2), some (VP.at true rInt (l13.1)), some (VP.at true rStr (z5.1.1)), some (VP.at true rStr (z5.1.2)), some (VP.at true rInt (a9)), some (VP.ptr q11), none])) (os' := (fun l13 => ([⟨q11, cLst rStr (l13.2), true⟩, ⟨q2, cLst (rLst K rStr) (l8.2), true⟩] : OS))) (l := (z15.1, z18.2)) (by exact ⟨.inr rfl, ⟨.inr rfl, ⟨.inr rfl, ⟨.inr rfl, ⟨.inr rfl, ⟨.inr rfl, ⟨.inr rfl, ⟨.inl rfl, trivial⟩⟩⟩⟩⟩⟩⟩⟩)))) (fun l13 =>
  hb_frzL (r := rStr) (xs := l13.2) (q0 := q11) 6 0 (hb_expr (ς := (List (List Str))) (O := (fun (s : (List (List Str))) => ([⟨q2, cLst (rLst K rStr) (s), true⟩] : OS))) (hx_mutL PySem.F.slot_list_append PySem.F.type_list_append mt_append (ov_app (rp := (rLst K rStr))) 1 0 (fun (s : (List (List Str))) => s) (fun (s : (List (List Str))) (d : (List (List Str))) => (d)) (ha_one (P := VP.at true (rLst K rStr)) (hx_var (w := true) (r := (rLst K rStr)) 6))) (l8.2) (fun z21 q22 =>
  hb_end (as' := (fun l8 => [some (VP.at true rInt (x)), some (VP.ptr q2), some (VP.at true rInt (l8.1)), some (VP.at true rStr (z5.1.1)), some (VP.at true rStr (z5.1.2)), none, none, none])) (os' := (fun l8 => ([⟨q2, cLst (rLst K rStr) (l8.2), true⟩] : OS))) (l := (l13.1, z21.2)) (by exact ⟨.inr rfl, ⟨.inr rfl, ⟨.inr rfl, ⟨.inr rfl, ⟨.inr rfl, ⟨.inl rfl, ⟨.inl rfl, ⟨.inl rfl, trivial⟩⟩⟩⟩⟩⟩⟩⟩)))))) (fun l8 =>
  hb_frzL (r := (rLst K rStr)) (xs := l8.2) (q0 := q2) 1 0 (hb_ret (ς := Unit) (O := (fun (_ : Unit) => ([] : OS))) (hx_var (w := true) (r := (rLst K (rLst K rStr))) 1) () (fun _ => rfl) (fun z q v S H st ow pv => ⟨(), S, st, trivial, pv⟩))))))) (fun _ _ _ _ _ _ us hl => match us, hl with | [_], _ => rfl)
abbrev s__law_lines : Stmt := top 30
theorem sc__law_lines : FnScope ["rows", "cells", "lines", "cell", "k", "upper"] ["rows", "cells"] (defScope s__law_lines) := ⟨rfl, rfl, rfl, by decide +kernel, rfl, by decide +kernel, by decide +kernel⟩
def _law_lines_b19 (x : ((List (List Str)) × (List Int))) (l4 : (List (Str × Str))) (a5 : Int) : R (List (Str × Str)) :=
  ((SM.map2 gtB (SM.map1 (fun xs => (xs.length : Int)) (SM.ret x.1)) (SM.ret (1 : Int))) ()).bind fun z => (if z.1 = true then
  ((SM.bnd2 modR (SM.bnd1 (fun z => (_law_mix z).calm) (SM.map2 Prod.mk (SM.ret a5) (SM.ret (1 : Int)))) (SM.map2 (· - ·) (SM.map1 (fun xs => (xs.length : Int)) (SM.ret x.1)) (SM.ret (1 : Int)))) ()).bind fun z13 =>
  ((SM.bnd2 getI (SM.bnd2 getI (SM.ret x.1) (SM.ret z13.1)) (SM.bnd2 modR (SM.bnd1 (fun z => (_law_mix z).calm) (SM.map2 Prod.mk (SM.ret a5) (SM.ret (2 : Int)))) (SM.map1 (fun xs => (xs.length : Int)) (SM.bnd2 getI (SM.ret x.1) (SM.ret z13.1))))) ()).bind fun z15 =>
  ((fun s => ((SM.map2 Prod.mk (SM.ret z15.1) (SM.bnd2 getI (SM.bnd2 getI (SM.ret x.1) (SM.map2 (· + ·) (SM.ret z13.1) (SM.ret (1 : Int)))) (SM.bnd2 modR (SM.bnd1 (fun z => (_law_mix z).calm) (SM.map2 Prod.mk (SM.ret a5) (SM.ret (3 : Int)))) (SM.map1 (fun xs => (xs.length : Int)) (SM.bnd2 getI (SM.ret x.1) (SM.map2 (· + ·) (SM.ret z13.1) (SM.ret (1 : Int)))))))) s).bind fun z => (appR ((fun (s : (List (Str × Str))) => s) z.2) z.1).bind fun r => R.ok (r.1, (fun (s : (List (Str × Str))) (d : (List (Str × Str))) => (d)) z.2 r.2)) (l4)).bind fun z17 =>
  R.ok (z17.2) else
  R.ok (l4)).bind fun l12 =>
  R.ok (l12)
def _law_lines (x : ((List (List Str)) × (List Int))) : R (List (Str × Str)) :=
  ((SM.ret ([] : (List (Str × Str)))) ()).bind fun z1 =>
  ((SM.ret x.2) ()).bind fun z3 => (foldR (_law_lines_b19 x) (z1.1) z3.1).bind fun l4 =>
  ((SM.ret l4) ()).bind fun z => R.ok z.1
abbrev _law_lines_sp (K : PySem.W.Frag) : Sp := (spF (π0 := Unit) (π := Unit) noX (fun (x : ((List (List Str)) × (List Int))) _ => [VP.at false (rLst K (rLst K rStr)) (x.1), VP.at true (rLst K rInt) (x.2)]) (fun _ _ => []) _law_lines (fun (r : (List (Str × Str))) q => VP.at true (rLst K (rTup K (RT.cons rStr (RT.one rStr)))) r) (fun _ _ => []) fun r q => ([] : OS))
theorem fk__law_lines (bi : Bi mg) (D : Dfd K mg "_law_lines" s__law_lines) (fk__law_mix_h : Fk P w K mg base 1 "_law_mix" ["cell", "k"] (_law_mix_sp K)) : Fk P w K mg base 2 "_law_lines" ["rows", "cells"] (_law_lines_sp K) :=
  mkFk D (fun fd F => fd_ok F sc__law_lines 4 (fun _ _ => rfl) rfl fun cdv A outer s H E B x q0 o =>
  hb_asg (ς := Unit) (O := (fun (_ : Unit) => ([] : OS))) 2 o.nd (hn_nil (r := (rTup K (RT.cons rStr (RT.one rStr))))) () (fun z1 q2 =>
  hb_for (ς := Unit) (O := (fun (_ : Unit) => ([⟨q2, cLst (rTup K (RT.cons rStr (RT.one rStr))) (z1.1), true⟩] : OS))) (P := VP.at true rInt) (l0 := (fun (s : Unit) => (z1.1))) (asL := (fun l4 => [some (VP.at false (rLst K (rLst K rStr)) (x.1)), some (VP.at true (rLst K rInt) (x.2)), some (VP.ptr q2), none, none, none])) (osL := (fun l4 => ([⟨q2, cLst (rTup K (RT.cons rStr (RT.one rStr))) (l4), true⟩] : OS))) (f := (_law_lines_b19 x)) o (hi_list (hx_var (w := true) (r := (rLst K rInt)) 1)) () (by exact fun _ => ⟨.inr rfl, ⟨.inr rfl, ⟨.inr rfl, ⟨.inl rfl, ⟨.inl rfl, ⟨.inl rfl, trivial⟩⟩⟩⟩⟩⟩) (fun _ => rfl) (fun l4 a5 => (htg_name 3 (by exact o.nd))) (fun l4 a5 =>
  hb_if0 (as1 := (fun l12 => [some (VP.at false (rLst K (rLst K rStr)) (x.1)), some (VP.at true (rLst K rInt) (x.2)), some (VP.ptr q2), some (VP.at true rInt (a5)), none, none])) (os1 := (fun l12 => ([⟨q2, cLst (rTup K (RT.cons rStr (RT.one rStr))) (l12), true⟩] : OS))) (ht_gt (hx_lenL bi.len (hx_var (w := false) (r := (rLst K (rLst K rStr))) 0)) hx_int) (
  hb_asg (ς := Unit) (O := (fun (_ : Unit) => ([⟨q2, cLst (rTup K (RT.cons rStr (RT.one rStr))) (l4), true⟩] : OS))) 4 o.nd (hx_mod (hg_fk fk__law_mix_h o (by decide) (ha_cons (P := VP.at true rInt) (hx_var (w := true) (r := rInt) 3) (ha_one (P := VP.at true rInt) hx_int)) (by exact fun _ _ => pg_at) (by exact fun _ _ => allF_nil)) (hx_sub (hx_lenL bi.len (hx_var (w := false) (r := (rLst K (rLst K rStr))) 0)) hx_int)) () (fun z13 q14 =>
  hb_asg (ς := Unit) (O := (fun (_ : Unit) => ([⟨q2, cLst (rTup K (RT.cons rStr (RT.one rStr))) (l4), true⟩] : OS))) 5 o.nd (hx_fl ffStr (hx_idx (hx_idx (hx_var (w := false) (r := (rLst K (rLst K rStr))) 0) (hx_var (w := true) (r := rInt) 4)) (hx_mod (hg_fk fk__law_mix_h o (by decide) (ha_cons (P := VP.at true rInt) (hx_var (w := true) (r := rInt) 3) (ha_one (P := VP.at true rInt) hx_int)) (by exact fun _ _ => pg_at) (by exact fun _ _ => allF_nil)) (hx_lenL bi.len (hx_idx (hx_var (w := false) (r := (rLst K (rLst K rStr))) 0) (hx_var (w := true) (r := rInt) 4)))))) () (fun z15 q16 =>
  hb_expr (ς := (List (Str × Str))) (O := (fun (s : (List (Str × Str))) => ([⟨q2, cLst (rTup K (RT.cons rStr (RT.one rStr))) (s), true⟩] : OS))) (hx_mutL PySem.F.slot_list_append PySem.F.type_list_append mt_append (ov_app (rp := (rTup K (RT.cons rStr (RT.one rStr))))) 2 0 (fun (s : (List (Str × Str))) => s) (fun (s : (List (Str × Str))) (d : (List (Str × Str))) => (d)) (ha_one (P := VP.at true (rTup K (RT.cons rStr (RT.one rStr)))) (hx_tup (t := (RT.cons rStr (RT.one rStr))) (w := true) (hn := Nat.le_of_ble_eq_true rfl) (ha_cons (P := VP.at true rStr) (hx_var (w := true) (r := rStr) 5) (ha_one (P := VP.at true rStr) (hx_fl ffStr (hx_idx (hx_idx (hx_var (w := false) (r := (rLst K (rLst K rStr))) 0) (hx_add (hx_var (w := true) (r := rInt) 4) hx_int)) (hx_mod (hg_fk fk__law_mix_h o (by decide) (ha_cons (P := VP.at true rInt) (hx_var (w := true) (r := rInt) 3) (ha_one (P := VP.at true rInt) hx_int)) (by exact fun _ _ => pg_at) (by exact fun _ _ => allF_nil)) (hx_lenL bi.len (hx_idx (hx_var (w := false) (r := (rLst K (rLst K rStr))) 0) (hx_add (hx_var (w := true) (r := rInt) 4) hx_int))))))))))) (l4) (fun z17 q18 =>
  hb_end (as' := (fun l12 => [some (VP.at false (rLst K (rLst K rStr)) (x.1)), some (VP.at true (rLst K rInt) (x.2)), some (VP.ptr q2), some (VP.at true rInt (a5)), none, none])) (os' := (fun l12 => ([⟨q2, cLst (rTup K (RT.cons rStr (RT.one rStr))) (l12), true⟩] : OS))) (l := (z17.2)) (by exact ⟨.inr rfl, ⟨.inr rfl, ⟨.inr rfl, ⟨.inr rfl, ⟨.inl rfl, ⟨.inl rfl, trivial⟩⟩⟩⟩⟩⟩))))) (
  hb_end (as' := (fun l12 => [some (VP.at false (rLst K (rLst K rStr)) (x.1)), some (VP.at true (rLst K rInt) (x.2)), some (VP.ptr q2), some (VP.at true rInt (a5)), none, none])) (os' := (fun l12 => ([⟨q2, cLst (rTup K (RT.cons rStr (RT.one rStr))) (l12), true⟩] : OS))) (l := (l4)) (by exact ⟨.inr rfl, ⟨.inr rfl, ⟨.inr rfl, ⟨.inr rfl, ⟨.inl rfl, ⟨.inl rfl, trivial⟩⟩⟩⟩⟩⟩)) (fun l12 =>
  hb_end (as' := (fun l4 => [some (VP.at false (rLst K (rLst K rStr)) (x.1)), some (VP.at true (rLst K rInt) (x.2)), some (VP.ptr q2), none, none, none])) (os' := (fun l4 => ([⟨q2, cLst (rTup K (RT.cons rStr (RT.one rStr))) (l4), true⟩] : OS))) (l := (l12)) (by exact ⟨.inr rfl, ⟨.inr rfl, ⟨.inr rfl, ⟨.inl rfl, ⟨.inl rfl, ⟨.inl rfl, trivial⟩⟩⟩⟩⟩⟩))) (fun l4 =>
  hb_frzL (r := (rTup K (RT.cons rStr (RT.one rStr)))) (xs := l4) (q0 := q2) 2 0 (hb_ret (ς := Unit) (O := (fun (_ : Unit) => ([] : OS))) (hx_var (w := true) (r := (rLst K (rTup K (RT.cons rStr (RT.one rStr))))) 2) () (fun _ => rfl) (fun z q v S H st ow pv => ⟨(), S, st, trivial, pv⟩))))) (fun _ _ _ _ _ _ us hl => match us, hl with | [_, _], _ => rfl)
abbrev s__law_two : Stmt := top 31
theorem sc__law_two : FnScope ["upper", "lower", "lines", "pairs", "a", "b", "found", "one", "other"] ["upper", "lower", "lines"] (defScope s__law_two) := ⟨rfl, rfl, rfl, by decide +kernel, rfl, by decide +kernel, by decide +kernel⟩
def _law_two_b11 (x : ((List Str) × (List Str) × (List (Str × Str)))) (z1 : (List (Int × Int)) × Unit) (l6 : Int) (a7 : (Int × Int)) : R Int :=
  ((SM.map2 (· + ·) (SM.ret l6) (SM.map1 (fun xs => (xs.length : Int)) (SM.lc (SM.ret z1.1) (fun (a9 : (Int × Int)) => (SM.and (SM.map2 ltB (SM.map1 (fun (x : (Int × Int)) => x.1) (SM.ret a7)) (SM.map1 (fun (x : (Int × Int)) => x.1) (SM.ret a9))) (SM.map2 gtB (SM.map1 (fun (x : (Int × Int)) => x.2) (SM.ret a7)) (SM.map1 (fun (x : (Int × Int)) => x.2) (SM.ret a9))))) (fun a9 => (SM.ret a9))))) ()).bind fun z8 =>
  R.ok (z8.1)
def _law_two (x : ((List Str) × (List Str) × (List (Str × Str)))) : R Int :=
  ((SM.lc (SM.ret x.2.2) (fun (a2 : (Str × Str)) => (SM.and (SM.map2 inL (SM.ret a2.1) (SM.ret x.1)) (SM.map2 inL (SM.ret a2.2) (SM.ret x.2.1)))) (fun a2 => (SM.map2 Prod.mk (SM.bnd2 idxR (SM.ret x.1) (SM.ret a2.1)) (SM.bnd2 idxR (SM.ret x.2.1) (SM.ret a2.2))))) ()).bind fun z1 =>
  ((SM.ret (0 : Int)) ()).bind fun z3 =>
  ((SM.ret z1.1) ()).bind fun z5 => (foldR (_law_two_b11 x z1) (z3.1) z5.1).bind fun l6 =>
  ((SM.ret l6) ()).bind fun z => R.ok z.1
abbrev _law_two_sp (K : PySem.W.Frag) : Sp := (spF (π0 := Unit) (π := Unit) noX (fun (x : ((List Str) × (List Str) × (List (Str × Str)))) _ => [VP.at false (rLst K rStr) (x.1), VP.at false (rLst K rStr) (x.2.1), VP.at true (rLst K (rTup K (RT.cons rStr (RT.one rStr)))) (x.2.2)]) (fun _ _ => []) _law_two (fun (r : Int) q => VP.at true rInt r) (fun _ _ => []) fun r q => ([] : OS))
theorem fk__law_two (bi : Bi mg) (D : Dfd K mg "_law_two" s__law_two) : Fk P w K mg base 1 "_law_two" ["upper", "lower", "lines"] (_law_two_sp K) :=
  mkFk D (fun fd F => fd_ok F sc__law_two 6 (fun _ _ => rfl) rfl fun cdv A outer s H E B x q0 o =>
  hb_lcF (r := (rTup K (RT.cons rInt (RT.one rInt)))) (ς := Unit) (O := (fun (_ : Unit) => ([] : OS))) 3 o (Lcp.mk ⟨VP.at true (rTup K (RT.cons rStr (RT.one rStr))), [4, 5], _, (hi_list (hx_var (w := true) (r := (rLst K (rTup K (RT.cons rStr (RT.one rStr))))) 2)), blkOk_by (own := [("a", 4), ("b", 5)]) (by rfl), (by decide), fun _ _ _ _ _ _ a2 => (htg_tup (t := (RT.cons rStr (RT.one rStr))) (by exact o.calm) (htgs_cons (htg_name 4 (by exact o.nd)) (htgs_cons (htg_name 5 (by exact o.nd)) htgs_nil))), fun _ _ _ _ _ _ a2 => (hts_one (HW.t (hw_and (ht_inL frStr (hx_var (w := true) (r := rStr) 4) (hx_var (w := false) (r := (rLst K rStr)) 0)) (hw_and1 (ht_inL frStr (hx_var (w := true) (r := rStr) 5) (hx_var (w := false) (r := (rLst K rStr)) 1)))))), fun _ _ _ _ _ _ a2 => (hx_tup (t := (RT.cons rInt (RT.one rInt))) (w := true) (hn := Nat.le_of_ble_eq_true rfl) (ha_cons (P := VP.at true rInt) (hx_index frStr (hx_var (w := false) (r := (rLst K rStr)) 0) (hx_var (w := true) (r := rStr) 4)) (ha_one (P := VP.at true rInt) (hx_index frStr (hx_var (w := false) (r := (rLst K rStr)) 1) (hx_var (w := true) (r := rStr) 5)))))⟩) () (fun z1 =>
  hb_asg (ς := Unit) (O := (fun (_ : Unit) => ([] : OS))) 6 o.nd hx_int () (fun z3 q4 =>
  hb_for (ς := Unit) (O := (fun (_ : Unit) => ([] : OS))) (P := VP.at true (rTup K (RT.cons rInt (RT.one rInt)))) (l0 := (fun (s : Unit) => (z3.1))) (asL := (fun l6 => [some (VP.at false (rLst K rStr) (x.1)), some (VP.at false (rLst K rStr) (x.2.1)), some (VP.at true (rLst K (rTup K (RT.cons rStr (RT.one rStr)))) (x.2.2)), some (VP.at true (rLst K (rTup K (RT.cons rInt (RT.one rInt)))) (z1.1)), none, none, some (VP.at true rInt (l6)), none, none])) (osL := (fun l6 => ([] : OS))) (f := (_law_two_b11 x z1)) o (hi_list (hx_var (w := true) (r := (rLst K (rTup K (RT.cons rInt (RT.one rInt))))) 3)) () (by exact fun _ => ⟨.inr rfl, ⟨.inr rfl, ⟨.inr rfl, ⟨.inr rfl, ⟨.inl rfl, ⟨.inl rfl, ⟨.inr rfl, ⟨.inl rfl, ⟨.inl rfl, trivial⟩⟩⟩⟩⟩⟩⟩⟩⟩) (fun _ => rfl) (fun l6 a7 => (htg_name 7 (by exact o.nd))) (fun l6 a7 =>
  hb_asg (ς := Unit) (O := (fun (_ : Unit) => ([] : OS))) 6 o.nd (hx_add (hx_var (w := true) (r := rInt) 6) (hx_lenL bi.len (HG.frzL (f := id) (hn_lc (r := (rTup K (RT.cons rInt (RT.one rInt)))) o (Lcp.mk ⟨VP.at true (rTup K (RT.cons rInt (RT.one rInt))), [8], _, (hi_list (hx_var (w := true) (r := (rLst K (rTup K (RT.cons rInt (RT.one rInt))))) 3)), blkOk_by (own := [("other", 8)]) (by rfl), (by decide), fun _ _ _ _ _ _ a9 => (htg_name 8 (by exact o.nd)), fun _ _ _ _ _ _ a9 => (hts_one (HW.t (hw_and (ht_lt (hx_tix (t := (RT.cons rInt (RT.one rInt))) (k := 0) (f := (fun (x : (Int × Int)) => x.1)) tg_0 (hx_var (w := true) (r := (rTup K (RT.cons rInt (RT.one rInt)))) 7)) (hx_tix (t := (RT.cons rInt (RT.one rInt))) (k := 0) (f := (fun (x : (Int × Int)) => x.1)) tg_0 (hx_var (w := true) (r := (rTup K (RT.cons rInt (RT.one rInt)))) 8))) (hw_and1 (ht_gt (hx_tix (t := (RT.cons rInt (RT.one rInt))) (k := 1) (f := (fun (x : (Int × Int)) => x.2)) (tg_s tg_one) (hx_var (w := true) (r := (rTup K (RT.cons rInt (RT.one rInt)))) 7)) (hx_tix (t := (RT.cons rInt (RT.one rInt))) (k := 1) (f := (fun (x : (Int × Int)) => x.2)) (tg_s tg_one) (hx_var (w := true) (r := (rTup K (RT.cons rInt (RT.one rInt)))) 8))))))), fun _ _ _ _ _ _ a9 => (hx_var (w := true) (r := (rTup K (RT.cons rInt (RT.one rInt)))) 8)⟩))))) () (fun z8 q10 =>
  hb_end (as' := (fun l6 => [some (VP.at false (rLst K rStr) (x.1)), some (VP.at false (rLst K rStr) (x.2.1)), some (VP.at true (rLst K (rTup K (RT.cons rStr (RT.one rStr)))) (x.2.2)), some (VP.at true (rLst K (rTup K (RT.cons rInt (RT.one rInt)))) (z1.1)), none, none, some (VP.at true rInt (l6)), none, none])) (os' := (fun l6 => ([] : OS))) (l := (z8.1)) (by exact ⟨.inr rfl, ⟨.inr rfl, ⟨.inr rfl, ⟨.inr rfl, ⟨.inl rfl, ⟨.inl rfl, ⟨.inr rfl, ⟨.inl rfl, ⟨.inl rfl, trivial⟩⟩⟩⟩⟩⟩⟩⟩⟩))) (fun l6 =>
  hb_ret (ς := Unit) (O := (fun (_ : Unit) => ([] : OS))) (hx_var (w := true) (r := rInt) 6) () (fun _ => rfl) (fun z q v S H st ow pv => ⟨(), S, st, trivial, pv⟩))))) (fun _ _ _ _ _ _ us hl => match us, hl with | [_, _, _], _ => rfl)
abbrev s__law_all : Stmt := top 32
theorem sc__law_all : FnScope ["rows", "lines", "k"] ["rows", "lines"] (defScope s__law_all) := ⟨rfl, rfl, rfl, by decide +kernel, rfl, by decide +kernel, by decide +kernel⟩
def _law_all (x : ((List (List Str)) × (List (Str × Str)))) : R Int :=
  ((SM.map1 List.sum (SM.lc (SM.bnd1 rng1 (SM.map2 (· - ·) (SM.map1 (fun xs => (xs.length : Int)) (SM.ret x.1)) (SM.ret (1 : Int)))) (fun (a1 : Int) => (SM.ret true)) (fun a1 => (SM.bnd1 (fun z => (_law_two z).calm) (SM.map2 Prod.mk (SM.bnd2 getI (SM.ret x.1) (SM.ret a1)) (SM.map2 Prod.mk (SM.bnd2 getI (SM.ret x.1) (SM.map2 (· + ·) (SM.ret a1) (SM.ret (1 : Int)))) (SM.ret x.2))))))) ()).bind fun z => R.ok z.1
abbrev _law_all_sp (K : PySem.W.Frag) : Sp := (spF (π0 := Unit) (π := Unit) noX (fun (x : ((List (List Str)) × (List (Str × Str)))) _ => [VP.at false (rLst K (rLst K rStr)) (x.1), VP.at true (rLst K (rTup K (RT.cons rStr (RT.one rStr)))) (x.2)]) (fun _ _ => []) _law_all (fun (r : Int) q => VP.at true rInt r) (fun _ _ => []) fun r q => ([] : OS))
theorem fk__law_all (bi : Bi mg) (D : Dfd K mg "_law_all" s__law_all) (fk__law_two_h : Fk P w K mg base 1 "_law_two" ["upper", "lower", "lines"] (_law_two_sp K)) : Fk P w K mg base 2 "_law_all" ["rows", "lines"] (_law_all_sp K) :=
  mkFk D (fun fd F => fd_ok F sc__law_all 1 (fun _ _ => rfl) rfl fun cdv A outer s H E B x q0 o =>
  hb_ret (ς := Unit) (O := (fun (_ : Unit) => ([] : OS))) (hx_sum (by exact o.calm) bi.sum (HG.frzL (f := id) (hn_lc (r := rInt) o (Lcp.mk ⟨VP.at true rInt, [2], _, (hi_range1 bi.range (hx_sub (hx_lenL bi.len (hx_var (w := false) (r := (rLst K (rLst K rStr))) 0)) hx_int)), blkOk_by (own := [("k", 2)]) (by rfl), (by decide), fun _ _ _ _ _ _ a1 => (htg_name 2 (by exact o.nd)), fun _ _ _ _ _ _ a1 => hts_nil, fun _ _ _ _ _ _ a1 => (hg_fk fk__law_two_h (Ok.blk o) (by decide) (ha_cons (P := VP.at false (rLst K rStr)) (hx_idx (hx_var (w := false) (r := (rLst K (rLst K rStr))) 0) (hx_var (w := true) (r := rInt) 2)) (ha_cons (P := VP.at false (rLst K rStr)) (hx_idx (hx_var (w := false) (r := (rLst K (rLst K rStr))) 0) (hx_add (hx_var (w := true) (r := rInt) 2) hx_int)) (ha_one (P := VP.at true (rLst K (rTup K (RT.cons rStr (RT.one rStr))))) (hx_var (w := true) (r := (rLst K (rTup K (RT.cons rStr (RT.one rStr))))) 1)))) (by exact fun _ _ => pg_at) (by exact fun _ _ => allF_nil))⟩)))) () (fun _ => rfl) (fun z q v S H st ow pv => ⟨(), S, st, trivial, pv⟩)) (fun _ _ _ _ _ _ us hl => match us, hl with | [_, _], _ => rfl)
abbrev s__law_changed : Stmt := top 33
theorem sc__law_changed : FnScope ["rows", "k", "at", "found", "row"] ["rows", "k", "at"] (defScope s__law_changed) := ⟨rfl, rfl, rfl, by decide +kernel, rfl, by decide +kernel, by decide +kernel⟩
def _law_changed (x : ((List (List Str)) × Int × Int)) : R (List (List Str)) :=
  ((SM.lc (SM.ret x.1) (fun (a3 : (List Str)) => (SM.ret true)) (fun a3 => (SM.map1 id (SM.ret a3)))) ()).bind fun z1 =>
  ((fun s => ((SM.ret x.2.1) s).bind fun k => (R.ofO (ixN ((fun (s : (List (List Str))) => s) k.2).length k.1)).bind fun j => ((SM.map2 Prod.mk (SM.ret x.2.2) (fun s => ((SM.ret x.2.1) s).bind fun k => (R.ofO (ixN ((fun (s : (List (List Str))) => s) k.2).length k.1)).bind fun j => ((SM.map2 (· + ·) (SM.ret x.2.2) (SM.ret (1 : Int))) k.2).bind fun z => (R.ofO ((fun (s : (List (List Str))) => s) z.2)[j]?).bind fun xs => (popR xs z.1).bind fun r => R.ok (r.1, (fun (s : (List (List Str))) (d : (List (List Str))) => (d)) z.2 (((fun (s : (List (List Str))) => s) z.2).set j r.2)))) k.2).bind fun z => (R.ofO ((fun (s : (List (List Str))) => s) z.2)[j]?).bind fun xs => (insR xs z.1).bind fun r => R.ok (r.1, (fun (s : (List (List Str))) (d : (List (List Str))) => (d)) z.2 (((fun (s : (List (List Str))) => s) z.2).set j r.2))) (z1.1)).bind fun z4 =>
  ((SM.ret ()) ()).bind fun z => R.ok z4.2
abbrev _law_changed_sp (K : PySem.W.Frag) : Sp := (spF (π0 := Unit) (π := (Addr × List Addr)) noX (fun (x : ((List (List Str)) × Int × Int)) _ => [VP.at false (rLst K (rLst K rStr)) (x.1), VP.at true rInt (x.2.1), VP.at true rInt (x.2.2)]) (fun _ _ => []) _law_changed (fun (r : (List (List Str))) q => VP.ptr q.1) (fun _ _ => []) fun r q => ((nwG (cLst rStr) (r) q ++ ([] : OS)) : OS))
theorem fk__law_changed (bi : Bi mg) (D : Dfd K mg "_law_changed" s__law_changed) : Fk P w K mg base 1 "_law_changed" ["rows", "k", "at"] (_law_changed_sp K) :=
  mkFk D (fun fd F => fd_ok F sc__law_changed 2 (fun _ _ => rfl) rfl fun cdv A outer s H E B x q0 o =>
  hb_lcQ (ct := cLst rStr) (ς := Unit) (O := (fun (_ : Unit) => ([] : OS))) 3 o (Lcq.mk ⟨VP.at false (rLst K rStr), [4], _, (hi_list (hx_var (w := false) (r := (rLst K (rLst K rStr))) 0)), blkOk_by (own := [("row", 4)]) (by rfl), (by decide), fun _ _ _ _ _ _ a3 => (htg_name 4 (by exact o.nd)), fun _ _ _ _ _ _ a3 => hts_nil, fun _ _ _ _ _ _ a3 => (hn_listF ffStr bi.list (hx_var (w := false) (r := (rLst K rStr)) 4))⟩) () (fun z1 q2 =>
  hb_perm (perm_gr (nwG (cLst rStr) (z1.1) q2) [] ([] : OS)) (hb_expr (ς := (List (List Str))) (O := (fun (s : (List (List Str))) => (((nwG (cLst rStr) (s) q2 ++ ([] : OS))) : OS))) (hx_mutG (q0 := q2.1) (ps := q2.2) PySem.F.slot_list_insert PySem.F.type_list_insert mt_insert (ov_ins (rp := rStr)) 3 (fun (s : (List (List Str))) => ([] : OS)) (fun (_ : (List (List Str))) => ([] : OS)) (fun (s : (List (List Str))) => s) (fun (s : (List (List Str))) (d : (List (List Str))) => (d)) (hx_var (w := true) (r := rInt) 1) (ha_cons (P := VP.at true rInt) (hx_var (w := true) (r := rInt) 2) (ha_one (P := VP.at true rStr) (hx_mutG (q0 := q2.1) (ps := q2.2) PySem.F.slot_list_pop PySem.F.type_list_pop mt_popAt (ov_pop (rp := rStr)) 3 (fun (s : (List (List Str))) => ([] : OS)) (fun (_ : (List (List Str))) => ([] : OS)) (fun (s : (List (List Str))) => s) (fun (s : (List (List Str))) (d : (List (List Str))) => (d)) (hx_var (w := true) (r := rInt) 1) (ha_one (P := VP.at true rInt) (hx_add (hx_var (w := true) (r := rInt) 2) hx_int)))))) (z1.1) (fun z4 q5 =>
  hb_ret (ς := Unit) (O := (fun (_ : Unit) => (((nwG (cLst rStr) (z4.2) q2 ++ ([] : OS))) : OS))) (hx_ptr 3) () (fun _ => rfl) (fun z q v S H st ow pv => ⟨q2, S, st, (own_app_nil (ow.sub (sub_keep _ (List.Sublist.refl _)))), pv⟩))))) (fun _ _ _ _ _ _ us hl => match us, hl with | [_, _, _], _ => rfl)
abbrev s__law_crossed : Stmt := top 34
theorem sc__law_crossed : FnScope ["some", "others", "found", "one", "other"] ["some", "others"] (defScope s__law_crossed) := ⟨rfl, rfl, rfl, by decide +kernel, rfl, by decide +kernel, by decide +kernel⟩
def _law_crossed_b9 (x : ((List Int) × (List Int))) (l4 : Int) (a5 : Int) : R Int :=
  ((SM.map2 (· + ·) (SM.ret l4) (SM.map1 (fun xs => (xs.length : Int)) (SM.lc (SM.ret x.2) (fun (a7 : Int) => (SM.map2 ltB (SM.ret a7) (SM.ret a5))) (fun a7 => (SM.ret a7))))) ()).bind fun z6 =>
  R.ok (z6.1)
def _law_crossed (x : ((List Int) × (List Int))) : R Int :=
  ((SM.ret (0 : Int)) ()).bind fun z1 =>
  ((SM.ret x.1) ()).bind fun z3 => (foldR (_law_crossed_b9 x) (z1.1) z3.1).bind fun l4 =>
  ((SM.ret l4) ()).bind fun z => R.ok z.1
abbrev _law_crossed_sp (K : PySem.W.Frag) : Sp := (spF (π0 := Unit) (π := Unit) noX (fun (x : ((List Int) × (List Int))) _ => [VP.at true (rLst K rInt) (x.1), VP.at true (rLst K rInt) (x.2)]) (fun _ _ => []) _law_crossed (fun (r : Int) q => VP.at true rInt r) (fun _ _ => []) fun r q => ([] : OS))
theorem fk__law_crossed (bi : Bi mg) (D : Dfd K mg "_law_crossed" s__law_crossed) : Fk P w K mg base 1 "_law_crossed" ["some", "others"] (_law_crossed_sp K) :=
  mkFk D (fun fd F => fd_ok F sc__law_crossed 3 (fun _ _ => rfl) rfl fun cdv A outer s H E B x q0 o =>
  hb_asg (ς := Unit) (O := (fun (_ : Unit) => ([] : OS))) 2 o.nd hx_int () (fun z1 q2 =>
  hb_for (ς := Unit) (O := (fun (_ : Unit) => ([] : OS))) (P := VP.at true rInt) (l0 := (fun (s : Unit) => (z1.1))) (asL := (fun l4 => [some (VP.at true (rLst K rInt) (x.1)), some (VP.at true (rLst K rInt) (x.2)), some (VP.at true rInt (l4)), none, none])) (osL := (fun l4 => ([] : OS))) (f := (_law_crossed_b9 x)) o (hi_list (hx_var (w := true) (r := (rLst K rInt)) 0)) () (by exact fun _ => ⟨.inr rfl, ⟨.inr rfl, ⟨.inr rfl, ⟨.inl rfl, ⟨.inl rfl, trivial⟩⟩⟩⟩⟩) (fun _ => rfl) (fun l4 a5 => (htg_name 3 (by exact o.nd))) (fun l4 a5 =>
  hb_asg (ς := Unit) (O := (fun (_ : Unit) => ([] : OS))) 2 o.nd (hx_add (hx_var (w := true) (r := rInt) 2) (hx_lenL bi.len (HG.frzL (f := id) (hn_lc (r := rInt) o (Lcp.mk ⟨VP.at true rInt, [4], _, (hi_list (hx_var (w := true) (r := (rLst K rInt)) 1)), blkOk_by (own := [("other", 4)]) (by rfl), (by decide), fun _ _ _ _ _ _ a7 => (htg_name 4 (by exact o.nd)), fun _ _ _ _ _ _ a7 => (hts_one (ht_lt (hx_var (w := true) (r := rInt) 4) (hx_var (w := true) (r := rInt) 3))), fun _ _ _ _ _ _ a7 => (hx_var (w := true) (r := rInt) 4)⟩))))) () (fun z6 q8 =>
  hb_end (as' := (fun l4 => [some (VP.at true (rLst K rInt) (x.1)), some (VP.at true (rLst K rInt) (x.2)), some (VP.at true rInt (l4)), none, none])) (os' := (fun l4 => ([] : OS))) (l := (z6.1)) (by exact ⟨.inr rfl, ⟨.inr rfl, ⟨.inr rfl, ⟨.inl rfl, ⟨.inl rfl, trivial⟩⟩⟩⟩⟩))) (fun l4 =>
  hb_ret (ς := Unit) (O := (fun (_ : Unit) => ([] : OS))) (hx_var (w := true) (r := rInt) 2) () (fun _ => rfl) (fun z q v S H st ow pv => ⟨(), S, st, trivial, pv⟩)))) (fun _ _ _ _ _ _ us hl => match us, hl with | [_, _], _ => rfl)
abbrev s__law_costs : Stmt := top 35
theorem sc__law_costs : FnScope ["fixed", "free", "lines", "ends", "mark", "one", "other", "found", "some", "others"] ["fixed", "free", "lines"] (defScope s__law_costs) := ⟨rfl, rfl, rfl, by decide +kernel, rfl, by decide +kernel, by decide +kernel⟩
def _law_costs_b12 (z1 : (List (List Int)) × Unit) (l7 : (List (List Int))) (a8 : (List Int)) : R (List (List Int)) :=
  ((fun s => ((SM.lc (SM.ret z1.1) (fun (a9 : (List Int)) => (SM.ret true)) (fun a9 => (SM.bnd1 (fun z => (_law_crossed z).calm) (SM.map2 Prod.mk (SM.ret a8) (SM.ret a9))))) s).bind fun z => (appR ((fun (s : (List (List Int))) => s) z.2) z.1).bind fun r => R.ok (r.1, (fun (s : (List (List Int))) (d : (List (List Int))) => (d)) z.2 r.2)) (l7)).bind fun z10 =>
  R.ok (z10.2)
def _law_costs (x : ((List Str) × (List Str) × (List (Str × Str)))) : R (List (List Int)) :=
  ((SM.lc (SM.ret x.2.1) (fun (a2 : Str) => (SM.ret true)) (fun a2 => (SM.lc (SM.ret x.2.2) (fun (a3 : (Str × Str)) => (SM.map2 eqS (SM.ret a3.2) (SM.ret a2))) (fun a3 => (SM.bnd2 idxR (SM.ret x.1) (SM.ret a3.1)))))) ()).bind fun z1 =>
  ((SM.ret ([] : (List (List Int)))) ()).bind fun z4 =>
  ((SM.ret z1.1) ()).bind fun z6 => (foldR (_law_costs_b12 z1) (z4.1) z6.1).bind fun l7 =>
  ((SM.ret l7) ()).bind fun z => R.ok z.1
abbrev _law_costs_sp (K : PySem.W.Frag) : Sp := (spF (π0 := Unit) (π := Unit) noX (fun (x : ((List Str) × (List Str) × (List (Str × Str)))) _ => [VP.at false (rLst K rStr) (x.1), VP.at false (rLst K rStr) (x.2.1), VP.at true (rLst K (rTup K (RT.cons rStr (RT.one rStr)))) (x.2.2)]) (fun _ _ => []) _law_costs (fun (r : (List (List Int))) q => VP.at true (rLst K (rLst K rInt)) r) (fun _ _ => []) fun r q => ([] : OS))
theorem fk__law_costs (bi : Bi mg) (D : Dfd K mg "_law_costs" s__law_costs) (fk__law_crossed_h : Fk P w K mg base 1 "_law_crossed" ["some", "others"] (_law_crossed_sp K)) : Fk P w K mg base 2 "_law_costs" ["fixed", "free", "lines"] (_law_costs_sp K) :=
  mkFk D (fun fd F => fd_ok F sc__law_costs 7 (fun _ _ => rfl) rfl fun cdv A outer s H E B x q0 o =>
  hb_lcF (r := (rLst K rInt)) (ς := Unit) (O := (fun (_ : Unit) => ([] : OS))) 3 o (Lcp.mk ⟨VP.at false rStr, [4], _, (hi_list (hx_var (w := false) (r := (rLst K rStr)) 1)), blkOk_by (own := [("mark", 4)]) (by rfl), (by decide), fun _ _ _ _ _ _ a2 => (htg_name 4 (by exact o.nd)), fun _ _ _ _ _ _ a2 => hts_nil, fun _ _ _ _ _ _ a2 => (HG.frzL (f := id) (hn_lc (r := rInt) (Ok.blk o) (Lcp.mk ⟨VP.at true (rTup K (RT.cons rStr (RT.one rStr))), [5, 6], _, (hi_list (hx_var (w := true) (r := (rLst K (rTup K (RT.cons rStr (RT.one rStr))))) 2)), blkOk_by (own := [("one", 5), ("other", 6)]) (by rfl), (by decide), fun _ _ _ _ _ _ a3 => (htg_tup (t := (RT.cons rStr (RT.one rStr))) (by exact o.calm) (htgs_cons (htg_name 5 (by exact o.nd)) (htgs_cons (htg_name 6 (by exact o.nd)) htgs_nil))), fun _ _ _ _ _ _ a3 => (hts_one (ht_eqS (hx_var (w := true) (r := rStr) 6) (hx_fl ffStr (hx_var (w := false) (r := rStr) 4)))), fun _ _ _ _ _ _ a3 => (hx_index frStr (hx_var (w := false) (r := (rLst K rStr)) 0) (hx_var (w := true) (r := rStr) 5))⟩)))⟩) () (fun z1 =>
  hb_asg (ς := Unit) (O := (fun (_ : Unit) => ([] : OS))) 7 o.nd (hn_nil (r := (rLst K rInt))) () (fun z4 q5 =>
  hb_for (ς := Unit) (O := (fun (_ : Unit) => ([⟨q5, cLst (rLst K rInt) (z4.1), true⟩] : OS))) (P := VP.at true (rLst K rInt)) (l0 := (fun (s : Unit) => (z4.1))) (asL := (fun l7 => [some (VP.at false (rLst K rStr) (x.1)), some (VP.at false (rLst K rStr) (x.2.1)), some (VP.at true (rLst K (rTup K (RT.cons rStr (RT.one rStr)))) (x.2.2)), some (VP.at true (rLst K (rLst K rInt)) (z1.1)), none, none, none, some (VP.ptr q5), none, none])) (osL := (fun l7 => ([⟨q5, cLst (rLst K rInt) (l7), true⟩] : OS))) (f := (_law_costs_b12 z1)) o (hi_list (hx_var (w := true) (r := (rLst K (rLst K rInt))) 3)) () (by exact fun _ => ⟨.inr rfl, ⟨.inr rfl, ⟨.inr rfl, ⟨.inr rfl, ⟨.inl rfl, ⟨.inl rfl, ⟨.inl rfl, ⟨.inr rfl, ⟨.inl rfl, ⟨.inl rfl, trivial⟩⟩⟩⟩⟩⟩⟩⟩⟩⟩) (fun _ => rfl) (fun l7 a8 => (htg_name 8 (by exact o.nd))) (fun l7 a8 =>
  hb_expr (ς := (List (List Int))) (O := (fun (s : (List (List Int))) => ([⟨q5, cLst (rLst K rInt) (s), true⟩] : OS))) (hx_mutL PySem.F.slot_list_append PySem.F.type_list_append mt_append (ov_app (rp := (rLst K rInt))) 7 0 (fun (s : (List (List Int))) => s) (fun (s : (List (List Int))) (d : (List (List Int))) => (d)) (ha_one (P := VP.at true (rLst K rInt)) (HG.frzL (f := id) (hn_lc (r := rInt) o (Lcp.mk ⟨VP.at true (rLst K rInt), [9], _, (hi_list (hx_var (w := true) (r := (rLst K (rLst K rInt))) 3)), blkOk_by (own := [("others", 9)]) (by rfl), (by decide), fun _ _ _ _ _ _ a9 => (htg_name 9 (by exact o.nd)), fun _ _ _ _ _ _ a9 => hts_nil, fun _ _ _ _ _ _ a9 => (hg_fk fk__law_crossed_h (Ok.blk o) (by decide) (ha_cons (P := VP.at true (rLst K rInt)) (hx_var (w := true) (r := (rLst K rInt)) 8) (ha_one (P := VP.at true (rLst K rInt)) (hx_var (w := true) (r := (rLst K rInt)) 9))) (by exact fun _ _ => pg_at) (by exact fun _ _ => allF_nil))⟩))))) (l7) (fun z10 q11 =>
  hb_end (as' := (fun l7 => [some (VP.at false (rLst K rStr) (x.1)), some (VP.at false (rLst K rStr) (x.2.1)), some (VP.at true (rLst K (rTup K (RT.cons rStr (RT.one rStr)))) (x.2.2)), some (VP.at true (rLst K (rLst K rInt)) (z1.1)), none, none, none, some (VP.ptr q5), none, none])) (os' := (fun l7 => ([⟨q5, cLst (rLst K rInt) (l7), true⟩] : OS))) (l := (z10.2)) (by exact ⟨.inr rfl, ⟨.inr rfl, ⟨.inr rfl, ⟨.inr rfl, ⟨.inl rfl, ⟨.inl rfl, ⟨.inl rfl, ⟨.inr rfl, ⟨.inl rfl, ⟨.inl rfl, trivial⟩⟩⟩⟩⟩⟩⟩⟩⟩⟩))) (fun l7 =>
  hb_frzL (r := (rLst K rInt)) (xs := l7) (q0 := q5) 7 0 (hb_ret (ς := Unit) (O := (fun (_ : Unit) => ([] : OS))) (hx_var (w := true) (r := (rLst K (rLst K rInt))) 7) () (fun _ => rfl) (fun z q v S H st ow pv => ⟨(), S, st, trivial, pv⟩)))))) (fun _ _ _ _ _ _ us hl => match us, hl with | [_, _, _], _ => rfl)
abbrev s__law_entry : Stmt := top 36
theorem sc__law_entry : FnScope ["table", "costs", "some", "last", "come", "g"] ["table", "costs", "some", "last"] (defScope s__law_entry) := ⟨rfl, rfl, rfl, by decide +kernel, rfl, by decide +kernel, by decide +kernel⟩
def _law_entry_b11 (x : ((List (Int × Int)) × (List (List Int)) × Int × Int)) (l4 : Int) (a5 : Int) : R Int :=
  ((SM.and (SM.map2 neB (SM.ret a5) (SM.ret x.2.2.2)) (SM.map2 eqB (SM.map2 Builtin.bitAnd (SM.bnd2 shrR (SM.ret x.2.2.1) (SM.ret a5)) (SM.ret (1 : Int))) (SM.ret (1 : Int)))) ()).bind fun z => (if z.1 = true then
  ((SM.map2 (· + ·) (SM.ret l4) (SM.bnd2 getI (SM.bnd2 getI (SM.ret x.2.1) (SM.ret a5)) (SM.ret x.2.2.2))) ()).bind fun z9 =>
  R.ok (z9.1) else
  R.ok (l4)).bind fun l8 =>
  R.ok (l8)
def _law_entry (x : ((List (Int × Int)) × (List (List Int)) × Int × Int)) : R Int :=
  ((SM.bnd2 (fun d k => R.ofO (dget d k)) (SM.ret x.1) (SM.map2 (· - ·) (SM.ret x.2.2.1) (SM.bnd2 shlR (SM.ret (1 : Int)) (SM.ret x.2.2.2)))) ()).bind fun z1 =>
  ((SM.bnd1 rng1 (SM.map1 (fun xs => (xs.length : Int)) (SM.ret x.2.1))) ()).bind fun z3 => (foldR (_law_entry_b11 x) (z1.1) z3.1).bind fun l4 =>
  ((SM.ret l4) ()).bind fun z => R.ok z.1
abbrev _law_entry_sp (K : PySem.W.Frag) : Sp := (spF (π0 := Unit) (π := Unit) noX (fun (x : ((List (Int × Int)) × (List (List Int)) × Int × Int)) _ => [VP.at false (rDic kInt rInt) (x.1), VP.at true (rLst K (rLst K rInt)) (x.2.1), VP.at true rInt (x.2.2.1), VP.at true rInt (x.2.2.2)]) (fun _ _ => []) _law_entry (fun (r : Int) q => VP.at true rInt r) (fun _ _ => []) fun r q => ([] : OS))
theorem fk__law_entry (bi : Bi mg) (D : Dfd K mg "_law_entry" s__law_entry) : Fk P w K mg base 1 "_law_entry" ["table", "costs", "some", "last"] (_law_entry_sp K) :=
  mkFk D (fun fd F => fd_ok F sc__law_entry 2 (fun _ _ => rfl) rfl fun cdv A outer s H E B x q0 o =>
  hb_asg (ς := Unit) (O := (fun (_ : Unit) => ([] : OS))) 4 o.nd (hx_fl ffInt (hx_dget o (hx_var (w := false) (r := (rDic kInt rInt)) 0) (hx_sub (hx_var (w := true) (r := rInt) 2) (hx_shl hx_int (hx_var (w := true) (r := rInt) 3))))) () (fun z1 q2 =>
  hb_for (ς := Unit) (O := (fun (_ : Unit) => ([] : OS))) (P := VP.at true rInt) (l0 := (fun (s : Unit) => (z1.1))) (asL := (fun l4 => [some (VP.at false (rDic kInt rInt) (x.1)), some (VP.at true (rLst K (rLst K rInt)) (x.2.1)), some (VP.at true rInt (x.2.2.1)), some (VP.at true rInt (x.2.2.2)), some (VP.at true rInt (l4)), none])) (osL := (fun l4 => ([] : OS))) (f := (_law_entry_b11 x)) o (hi_range1 bi.range (hx_lenL bi.len (hx_var (w := true) (r := (rLst K (rLst K rInt))) 1))) () (by exact fun _ => ⟨.inr rfl, ⟨.inr rfl, ⟨.inr rfl, ⟨.inr rfl, ⟨.inr rfl, ⟨.inl rfl, trivial⟩⟩⟩⟩⟩⟩) (fun _ => rfl) (fun l4 a5 => (htg_name 5 (by exact o.nd))) (fun l4 a5 =>
  hb_if0 (as1 := (fun l8 => [some (VP.at false (rDic kInt rInt) (x.1)), some (VP.at true (rLst K (rLst K rInt)) (x.2.1)), some (VP.at true rInt (x.2.2.1)), some (VP.at true rInt (x.2.2.2)), some (VP.at true rInt (l8)), some (VP.at true rInt (a5))])) (os1 := (fun l8 => ([] : OS))) (HW.t (hw_and (ht_ne (hx_var (w := true) (r := rInt) 5) (hx_var (w := true) (r := rInt) 3)) (hw_and1 (ht_eq (hx_and (hx_shr (hx_var (w := true) (r := rInt) 2) (hx_var (w := true) (r := rInt) 5)) hx_int) hx_int)))) (
  hb_asg (ς := Unit) (O := (fun (_ : Unit) => ([] : OS))) 4 o.nd (hx_add (hx_var (w := true) (r := rInt) 4) (hx_idx (hx_idx (hx_var (w := true) (r := (rLst K (rLst K rInt))) 1) (hx_var (w := true) (r := rInt) 5)) (hx_var (w := true) (r := rInt) 3))) () (fun z9 q10 =>
  hb_end (as' := (fun l8 => [some (VP.at false (rDic kInt rInt) (x.1)), some (VP.at true (rLst K (rLst K rInt)) (x.2.1)), some (VP.at true rInt (x.2.2.1)), some (VP.at true rInt (x.2.2.2)), some (VP.at true rInt (l8)), some (VP.at true rInt (a5))])) (os' := (fun l8 => ([] : OS))) (l := (z9.1)) (by exact ⟨.inr rfl, ⟨.inr rfl, ⟨.inr rfl, ⟨.inr rfl, ⟨.inr rfl, ⟨.inr rfl, trivial⟩⟩⟩⟩⟩⟩))) (
  hb_end (as' := (fun l8 => [some (VP.at false (rDic kInt rInt) (x.1)), some (VP.at true (rLst K (rLst K rInt)) (x.2.1)), some (VP.at true rInt (x.2.2.1)), some (VP.at true rInt (x.2.2.2)), some (VP.at true rInt (l8)), some (VP.at true rInt (a5))])) (os' := (fun l8 => ([] : OS))) (l := (l4)) (by exact ⟨.inr rfl, ⟨.inr rfl, ⟨.inr rfl, ⟨.inr rfl, ⟨.inr rfl, ⟨.inr rfl, trivial⟩⟩⟩⟩⟩⟩)) (fun l8 =>
  hb_end (as' := (fun l4 => [some (VP.at false (rDic kInt rInt) (x.1)), some (VP.at true (rLst K (rLst K rInt)) (x.2.1)), some (VP.at true rInt (x.2.2.1)), some (VP.at true rInt (x.2.2.2)), some (VP.at true rInt (l4)), none])) (os' := (fun l4 => ([] : OS))) (l := (l8)) (by exact ⟨.inr rfl, ⟨.inr rfl, ⟨.inr rfl, ⟨.inr rfl, ⟨.inr rfl, ⟨.inl rfl, trivial⟩⟩⟩⟩⟩⟩))) (fun l4 =>
  hb_ret (ς := Unit) (O := (fun (_ : Unit) => ([] : OS))) (hx_var (w := true) (r := rInt) 4) () (fun _ => rfl) (fun z q v S H st ow pv => ⟨(), S, st, trivial, pv⟩)))) (fun _ _ _ _ _ _ us hl => match us, hl with | [_, _, _, _], _ => rfl)
abbrev s__law_closed : Stmt := top 37
theorem sc__law_closed : FnScope ["table", "costs", "many", "some", "ways", "h"] ["table", "costs"] (defScope s__law_closed) := ⟨rfl, rfl, rfl, by decide +kernel, rfl, by decide +kernel, by decide +kernel⟩
def _law_closed_b8 (x : ((List (Int × Int)) × (List (List Int)))) (z1 : Int × Unit) (l4 : Unit) (a5 : Int) : R (Oc Unit Bool) :=
  ((SM.or (SM.map2 (fun k d => !(dget d k).isSome) (SM.ret a5) (SM.ret x.1)) (SM.or (SM.not (SM.map1 (fun _ => true) (SM.bnd2 (fun d k => R.ofO (dget d k)) (SM.ret x.1) (SM.ret a5)))) (SM.map1 (fun _ => false) (SM.bnd2 (fun d k => R.ofO (dget d k)) (SM.ret x.1) (SM.ret a5))))) ()).bind fun z => if z.1 = true then
  ((SM.ret false) ()).bind fun z => R.ok ((Oc.rt z.1)) else
  ((SM.lc (SM.bnd1 rng1 (SM.ret z1.1)) (fun (a7 : Int) => (SM.map2 eqB (SM.map2 Builtin.bitAnd (SM.bnd2 shrR (SM.ret a5) (SM.ret a7)) (SM.ret (1 : Int))) (SM.ret (1 : Int)))) (fun a7 => (SM.bnd1 (fun z => (_law_entry z).calm) (SM.map2 Prod.mk (SM.ret x.1) (SM.map2 Prod.mk (SM.ret x.2) (SM.map2 Prod.mk (SM.ret a5) (SM.ret a7))))))) ()).bind fun z6 =>
  ((SM.and (SM.map2 gtB (SM.ret a5) (SM.ret (0 : Int))) (SM.map2 neB (SM.bnd2 (fun d k => R.ofO (dget d k)) (SM.ret x.1) (SM.ret a5)) (SM.bnd1 minL (SM.ret z6.1)))) ()).bind fun z => if z.1 = true then
  ((SM.ret false) ()).bind fun z => R.ok ((Oc.rt z.1)) else
  R.ok (Oc.nx ())
def _law_closed (x : ((List (Int × Int)) × (List (List Int)))) : R Bool :=
  ((SM.map1 (fun xs => (xs.length : Int)) (SM.ret x.2)) ()).bind fun z1 =>
  ((SM.or (SM.not (SM.map1 (fun _ => true) (SM.ret x.1))) (SM.or (SM.map2 neB (SM.map1 (fun xs => (xs.length : Int)) (SM.ret x.1)) (SM.bnd2 shlR (SM.ret (1 : Int)) (SM.ret z1.1))) (SM.map2 neOI (SM.map2 (fun d k => dget d k) (SM.ret x.1) (SM.ret (0 : Int))) (SM.ret (0 : Int))))) ()).bind fun z => if z.1 = true then
  ((SM.ret false) ()).bind fun z => R.ok z.1 else
  ((SM.bnd1 rng1 (SM.bnd2 shlR (SM.ret (1 : Int)) (SM.ret z1.1))) ()).bind fun z3 => (forR (_law_closed_b8 x z1) () z3.1).bind fun o => ocB o (fun (l4 : Unit) =>
  ((SM.ret true) ()).bind fun z => R.ok z.1) (fun r => r)
abbrev _law_closed_sp (K : PySem.W.Frag) : Sp := (spF (π0 := Unit) (π := Unit) noX (fun (x : ((List (Int × Int)) × (List (List Int)))) _ => [VP.at false (rDic kInt rInt) (x.1), VP.at true (rLst K (rLst K rInt)) (x.2)]) (fun _ _ => []) _law_closed (fun (r : Bool) q => VP.at true rBl r) (fun _ _ => []) fun r q => ([] : OS))
theorem fk__law_closed (bi : Bi mg) (D : Dfd K mg "_law_closed" s__law_closed) (fk__law_entry_h : Fk P w K mg base 1 "_law_entry" ["table", "costs", "some", "last"] (_law_entry_sp K)) : Fk P w K mg base 2 "_law_closed" ["table", "costs"] (_law_closed_sp K) :=
  mkFk D (fun fd F => fd_ok F sc__law_closed 4 (fun _ _ => rfl) rfl fun cdv A outer s H E B x q0 o =>
  hb_asg (ς := Unit) (O := (fun (_ : Unit) => ([] : OS))) 2 o.nd (hx_lenL bi.len (hx_var (w := true) (r := (rLst K (rLst K rInt))) 1)) () (fun z1 q2 =>
  hb_ifR0 (HW.t (hw_or (ht_not (ht_val (hx_isi (A := "dict") (T' := "dict") (ti := true) (fun _ => ty_dic) (by decide +kernel) bi.isinstance bi.dict (by decide +kernel) (hx_var (w := false) (r := (rDic kInt rInt)) 0)))) (hw_or (ht_ne (hx_lenD bi.len (hx_var (w := false) (r := (rDic kInt rInt)) 0)) (hx_shl hx_int (hx_var (w := true) (r := rInt) 2))) (hw_or1 (ht_neOI (hx_getN o nnInt (hx_var (w := false) (r := (rDic kInt rInt)) 0) hx_int) hx_int))))) (
  hb_ret (ς := Unit) (O := (fun (_ : Unit) => ([] : OS))) hx_bl () (fun _ => rfl) (fun z q v S H st ow pv => ⟨(), S, st, trivial, pv⟩)) (
  hb_forY (kr := (fun r => r)) (ς := Unit) (O := (fun (_ : Unit) => ([] : OS))) (P := VP.at true rInt) (l0 := (fun (s : Unit) => ())) (asL := (fun l4 => [some (VP.at false (rDic kInt rInt) (x.1)), some (VP.at true (rLst K (rLst K rInt)) (x.2)), some (VP.at true rInt (z1.1)), none, none, none])) (osL := (fun l4 => ([] : OS))) (f := (_law_closed_b8 x z1)) o (hi_range1 bi.range (hx_shl hx_int (hx_var (w := true) (r := rInt) 2))) () (by exact fun _ => ⟨.inr rfl, ⟨.inr rfl, ⟨.inr rfl, ⟨.inl rfl, ⟨.inl rfl, ⟨.inl rfl, trivial⟩⟩⟩⟩⟩⟩) (fun _ => rfl) (fun l4 a5 => (htg_name 3 (by exact o.nd))) (fun l4 a5 =>
  hb_ifR0 (HW.t (hw_or (ht_dni o (hx_var (w := true) (r := rInt) 3) (hx_var (w := false) (r := (rDic kInt rInt)) 0)) (hw_or (ht_not (ht_val (hx_isi (A := "int") (T' := "int") (ti := true) (fun _ => ty_int) (by decide +kernel) bi.isinstance bi.int (by decide +kernel) (hx_fl ffInt (hx_dget o (hx_var (w := false) (r := (rDic kInt rInt)) 0) (hx_var (w := true) (r := rInt) 3)))))) (hw_or1 (ht_val (hx_isi (A := "int") (T' := "bool") (ti := false) (fun _ => ty_int) (by decide +kernel) bi.isinstance bi.bool (by decide +kernel) (hx_fl ffInt (hx_dget o (hx_var (w := false) (r := (rDic kInt rInt)) 0) (hx_var (w := true) (r := rInt) 3))))))))) (
  hb_ret (ς := Unit) (O := (fun (_ : Unit) => ([] : OS))) hx_bl () (fun _ => rfl) (fun z q v S H st ow pv => ⟨(), S, st, trivial, pv⟩)) (
  hb_lcF (r := rInt) (ς := Unit) (O := (fun (_ : Unit) => ([] : OS))) 4 o (Lcp.mk ⟨VP.at true rInt, [5], _, (hi_range1 bi.range (hx_var (w := true) (r := rInt) 2)), blkOk_by (own := [("h", 5)]) (by rfl), (by decide), fun _ _ _ _ _ _ a7 => (htg_name 5 (by exact o.nd)), fun _ _ _ _ _ _ a7 => (hts_one (ht_eq (hx_and (hx_shr (hx_var (w := true) (r := rInt) 3) (hx_var (w := true) (r := rInt) 5)) hx_int) hx_int)), fun _ _ _ _ _ _ a7 => (hg_fk fk__law_entry_h (Ok.blk o) (by decide) (ha_cons (P := VP.at false (rDic kInt rInt)) (hx_var (w := false) (r := (rDic kInt rInt)) 0) (ha_cons (P := VP.at true (rLst K (rLst K rInt))) (hx_var (w := true) (r := (rLst K (rLst K rInt))) 1) (ha_cons (P := VP.at true rInt) (hx_var (w := true) (r := rInt) 3) (ha_one (P := VP.at true rInt) (hx_var (w := true) (r := rInt) 5))))) (by exact fun _ _ => pg_at) (by exact fun _ _ => allF_nil))⟩) () (fun z6 =>
  hb_ifR0 (HW.t (hw_and (ht_gt (hx_var (w := true) (r := rInt) 3) hx_int) (hw_and1 (ht_ne (hx_fl ffInt (hx_dget o (hx_var (w := false) (r := (rDic kInt rInt)) 0) (hx_var (w := true) (r := rInt) 3))) (hx_minL (by exact o.calm) bi.min (hx_var (w := true) (r := (rLst K rInt)) 4)))))) (
  hb_ret (ς := Unit) (O := (fun (_ : Unit) => ([] : OS))) hx_bl () (fun _ => rfl) (fun z q v S H st ow pv => ⟨(), S, st, trivial, pv⟩)) (
  hb_endO (as' := (fun l4 => [some (VP.at false (rDic kInt rInt) (x.1)), some (VP.at true (rLst K (rLst K rInt)) (x.2)), some (VP.at true rInt (z1.1)), none, none, none])) (os' := (fun l4 => ([] : OS))) (l := ()) (by exact ⟨.inr rfl, ⟨.inr rfl, ⟨.inr rfl, ⟨.inl rfl, ⟨.inl rfl, ⟨.inl rfl, trivial⟩⟩⟩⟩⟩⟩))))) (fun l4 =>
  hb_ret (ς := Unit) (O := (fun (_ : Unit) => ([] : OS))) hx_bl () (fun _ => rfl) (fun z q v S H st ow pv => ⟨(), S, st, trivial, pv⟩))))) (fun _ _ _ _ _ _ us hl => match us, hl with | [_, _], _ => rfl)
abbrev s__law_ordered : Stmt := top 38
theorem sc__law_ordered : FnScope ["order", "free", "costs", "come", "k", "mark", "ahead"] ["order", "free", "costs"] (defScope s__law_ordered) := ⟨rfl, rfl, rfl, by decide +kernel, rfl, by decide +kernel, by decide +kernel⟩
def _law_ordered_b11 (x : ((List Str) × (List Str) × (List (List Int)))) (a5 : (Int × Str)) (l7 : Int) (a8 : Str) : R Int :=
  ((SM.map2 (· + ·) (SM.ret l7) (SM.bnd2 getI (SM.bnd2 getI (SM.ret x.2.2) (SM.bnd2 idxR (SM.ret x.2.1) (SM.ret a8))) (SM.bnd2 idxR (SM.ret x.2.1) (SM.ret a5.2)))) ()).bind fun z9 =>
  R.ok (z9.1)
def _law_ordered_b12 (x : ((List Str) × (List Str) × (List (List Int)))) (l4 : Int) (a5 : (Int × Str)) : R Int :=
  ((SM.map3 cutL (SM.ret x.1) (SM.ret none) (SM.map1 some (SM.ret a5.1))) ()).bind fun z6 => (foldR (_law_ordered_b11 x a5) (l4) z6.1).bind fun l7 =>
  R.ok (l7)
def _law_ordered (x : ((List Str) × (List Str) × (List (List Int)))) : R (Option Int) :=
  ((SM.or (SM.not (SM.map1 (fun _ => true) (SM.ret x.1))) (SM.bnd2 (neD ((dqLst dqStr) : DQ K0 (rLst K0 rStr)).can) (SM.bnd1 sortS (SM.ret x.1)) (SM.bnd1 sortS (SM.ret x.2.1)))) ()).bind fun z => if z.1 = true then
  ((SM.ret (none : Option Int)) ()).bind fun z => R.ok z.1 else
  ((SM.ret (0 : Int)) ()).bind fun z1 =>
  ((SM.map1 enumL (SM.ret x.1)) ()).bind fun z3 => (foldR (_law_ordered_b12 x) (z1.1) z3.1).bind fun l4 =>
  ((SM.map1 some (SM.ret l4)) ()).bind fun z => R.ok z.1
abbrev _law_ordered_sp (K : PySem.W.Frag) : Sp := (spF (π0 := Unit) (π := Unit) noX (fun (x : ((List Str) × (List Str) × (List (List Int)))) _ => [VP.at false (rLst K rStr) (x.1), VP.at false (rLst K rStr) (x.2.1), VP.at true (rLst K (rLst K rInt)) (x.2.2)]) (fun _ _ => []) _law_ordered (fun (r : (Option Int)) q => VP.at true (rOpt rInt) r) (fun _ _ => []) fun r q => ([] : OS))
theorem fk__law_ordered (bi : Bi mg) (D : Dfd K mg "_law_ordered" s__law_ordered) : Fk P w K mg base 1 "_law_ordered" ["order", "free", "costs"] (_law_ordered_sp K) :=
  mkFk D (fun fd F => fd_ok F sc__law_ordered 4 (fun _ _ => rfl) rfl fun cdv A outer s H E B x q0 o =>
  hb_ifR0 (HW.t (hw_or (ht_not (ht_val (hx_isi (A := "list") (T' := "list") (ti := true) (fun _ => ty_lst) (by decide +kernel) bi.isinstance bi.list (by decide +kernel) (hx_var (w := false) (r := (rLst K rStr)) 0)))) (hw_or1 (ht_neD (hn := Nat.le_of_ble_eq_true rfl) o (dqLst dqStr) (HG.frzL (f := id) (hn_sortS bi.sorted (hx_var (w := false) (r := (rLst K rStr)) 0))) (HG.frzL (f := id) (hn_sortS bi.sorted (hx_var (w := false) (r := (rLst K rStr)) 1))))))) (
  hb_ret (ς := Unit) (O := (fun (_ : Unit) => ([] : OS))) (hx_none (r := rInt)) () (fun _ => rfl) (fun z q v S H st ow pv => ⟨(), S, st, trivial, pv⟩)) (
  hb_asg (ς := Unit) (O := (fun (_ : Unit) => ([] : OS))) 3 o.nd hx_int () (fun z1 q2 =>
  hb_for (ς := Unit) (O := (fun (_ : Unit) => ([] : OS))) (P := VP.at false (rTup K (RT.cons rInt (RT.one rStr)))) (l0 := (fun (s : Unit) => (z1.1))) (asL := (fun l4 => [some (VP.at false (rLst K rStr) (x.1)), some (VP.at false (rLst K rStr) (x.2.1)), some (VP.at true (rLst K (rLst K rInt)) (x.2.2)), some (VP.at true rInt (l4)), none, none, none])) (osL := (fun l4 => ([] : OS))) (f := (_law_ordered_b12 x)) o (hi_enum bi.enumerate (hx_var (w := false) (r := (rLst K rStr)) 0)) () (by exact fun _ => ⟨.inr rfl, ⟨.inr rfl, ⟨.inr rfl, ⟨.inr rfl, ⟨.inl rfl, ⟨.inl rfl, ⟨.inl rfl, trivial⟩⟩⟩⟩⟩⟩⟩) (fun _ => rfl) (fun l4 a5 => (htg_tup (t := (RT.cons rInt (RT.one rStr))) (by exact o.calm) (htgs_cons (htg_name 4 (by exact o.nd)) (htgs_cons (htg_name 5 (by exact o.nd)) htgs_nil)))) (fun l4 a5 =>
  hb_for (ς := Unit) (O := (fun (_ : Unit) => ([] : OS))) (P := VP.at false rStr) (l0 := (fun (s : Unit) => (l4))) (asL := (fun l7 => [some (VP.at false (rLst K rStr) (x.1)), some (VP.at false (rLst K rStr) (x.2.1)), some (VP.at true (rLst K (rLst K rInt)) (x.2.2)), some (VP.at true rInt (l7)), some (VP.at false rInt (a5.1)), some (VP.at false rStr (a5.2)), none])) (osL := (fun l7 => ([] : OS))) (f := (_law_ordered_b11 x a5)) o (hi_list (hx_cutB (hx_var (w := false) (r := (rLst K rStr)) 0) ho_none (ho_some (hx_fl ffInt (hx_var (w := false) (r := rInt) 4))))) () (by exact fun _ => ⟨.inr rfl, ⟨.inr rfl, ⟨.inr rfl, ⟨.inr rfl, ⟨.inr rfl, ⟨.inr rfl, ⟨.inl rfl, trivial⟩⟩⟩⟩⟩⟩⟩) (fun _ => rfl) (fun l7 a8 => (htg_name 6 (by exact o.nd))) (fun l7 a8 =>
  hb_asg (ς := Unit) (O := (fun (_ : Unit) => ([] : OS))) 3 o.nd (hx_add (hx_var (w := true) (r := rInt) 3) (hx_idx (hx_idx (hx_var (w := true) (r := (rLst K (rLst K rInt))) 2) (hx_index frStr (hx_var (w := false) (r := (rLst K rStr)) 1) (hx_fl ffStr (hx_var (w := false) (r := rStr) 6)))) (hx_index frStr (hx_var (w := false) (r := (rLst K rStr)) 1) (hx_fl ffStr (hx_var (w := false) (r := rStr) 5))))) () (fun z9 q10 =>
  hb_end (as' := (fun l7 => [some (VP.at false (rLst K rStr) (x.1)), some (VP.at false (rLst K rStr) (x.2.1)), some (VP.at true (rLst K (rLst K rInt)) (x.2.2)), some (VP.at true rInt (l7)), some (VP.at false rInt (a5.1)), some (VP.at false rStr (a5.2)), none])) (os' := (fun l7 => ([] : OS))) (l := (z9.1)) (by exact ⟨.inr rfl, ⟨.inr rfl, ⟨.inr rfl, ⟨.inr rfl, ⟨.inr rfl, ⟨.inr rfl, ⟨.inl rfl, trivial⟩⟩⟩⟩⟩⟩⟩))) (fun l7 =>
  hb_end (as' := (fun l4 => [some (VP.at false (rLst K rStr) (x.1)), some (VP.at false (rLst K rStr) (x.2.1)), some (VP.at true (rLst K (rLst K rInt)) (x.2.2)), some (VP.at true rInt (l4)), none, none, none])) (os' := (fun l4 => ([] : OS))) (l := (l7)) (by exact ⟨.inr rfl, ⟨.inr rfl, ⟨.inr rfl, ⟨.inr rfl, ⟨.inl rfl, ⟨.inl rfl, ⟨.inl rfl, trivial⟩⟩⟩⟩⟩⟩⟩))) (fun l4 =>
  hb_ret (ς := Unit) (O := (fun (_ : Unit) => ([] : OS))) (hx_opt nnInt (hx_var (w := true) (r := rInt) 3)) () (fun _ => rfl) (fun z q v S H st ow pv => ⟨(), S, st, trivial, pv⟩))))) (fun _ _ _ _ _ _ us hl => match us, hl with | [_, _, _], _ => rfl)
abbrev s__law_counted : Stmt := top 39
theorem sc__law_counted : FnScope ["rows", "lines", "k", "some", "due", "line"] ["rows", "lines"] (defScope s__law_counted) := ⟨rfl, rfl, rfl, by decide +kernel, rfl, by decide +kernel, by decide +kernel⟩
def _law_counted_b8 (x : ((List (List Str)) × (List (Str × Str)))) (l2 : Unit) (a3 : Int) : R (Oc Unit Bool) :=
  ((SM.lc (SM.ret x.2) (fun (a5 : (Str × Str)) => (SM.map2 inL (SM.map1 (fun (x : (Str × Str)) => x.1) (SM.ret a5)) (SM.bnd2 getI (SM.ret x.1) (SM.ret a3)))) (fun a5 => (SM.ret a5))) ()).bind fun z4 =>
  ((SM.bnd1 (fun z => (_law_two z).calm) (SM.map2 Prod.mk (SM.bnd2 getI (SM.ret x.1) (SM.ret a3)) (SM.map2 Prod.mk (SM.bnd2 getI (SM.ret x.1) (SM.map2 (· + ·) (SM.ret a3) (SM.ret (1 : Int)))) (SM.ret x.2)))) ()).bind fun z6 =>
  ((SM.map2 neB (SM.bnd1 (fun z => (crossings z).calm) (SM.map2 Prod.mk (SM.bnd2 getI (SM.ret x.1) (SM.ret a3)) (SM.map2 Prod.mk (SM.bnd2 getI (SM.ret x.1) (SM.map2 (· + ·) (SM.ret a3) (SM.ret (1 : Int)))) (SM.ret z4.1)))) (SM.ret z6.1)) ()).bind fun z => if z.1 = true then
  ((SM.ret false) ()).bind fun z => R.ok ((Oc.rt z.1)) else
  R.ok (Oc.nx ())
def _law_counted (x : ((List (List Str)) × (List (Str × Str)))) : R Bool :=
  ((SM.map2 neB (SM.bnd1 (fun z => (all_crossings z).calm) (SM.map2 Prod.mk (SM.ret x.1) (SM.ret x.2))) (SM.bnd1 (fun z => (_law_all z).calm) (SM.map2 Prod.mk (SM.ret x.1) (SM.ret x.2)))) ()).bind fun z => if z.1 = true then
  ((SM.ret false) ()).bind fun z => R.ok z.1 else
  ((SM.bnd1 rng1 (SM.map2 (· - ·) (SM.map1 (fun xs => (xs.length : Int)) (SM.ret x.1)) (SM.ret (1 : Int)))) ()).bind fun z1 => (forR (_law_counted_b8 x) () z1.1).bind fun o => ocB o (fun (l2 : Unit) =>
  ((SM.ret true) ()).bind fun z => R.ok z.1) (fun r => r)
abbrev _law_counted_sp (K : PySem.W.Frag) : Sp := (spF (π0 := Unit) (π := Unit) noX (fun (x : ((List (List Str)) × (List (Str × Str)))) _ => [VP.at true (rLst K (rLst K rStr)) (x.1), VP.at true (rLst K (rTup K (RT.cons rStr (RT.one rStr)))) (x.2)]) (fun _ _ => []) _law_counted (fun (r : Bool) q => VP.at true rBl r) (fun _ _ => []) fun r q => ([] : OS))
theorem fk__law_counted (bi : Bi mg) (D : Dfd K mg "_law_counted" s__law_counted) (fk_all_crossings_h : Fk P w K mg base 3 "all_crossings" ["rows", "lines"] (all_crossings_sp K)) (fk__law_all_h : Fk P w K mg base 2 "_law_all" ["rows", "lines"] (_law_all_sp K)) (fk__law_two_h : Fk P w K mg base 1 "_law_two" ["upper", "lower", "lines"] (_law_two_sp K)) (fk_crossings_h : Fk P w K mg base 2 "crossings" ["upper", "lower", "lines"] (crossings_sp K)) : Fk P w K mg base 4 "_law_counted" ["rows", "lines"] (_law_counted_sp K) :=
  mkFk D (fun fd F => fd_ok F sc__law_counted 4 (fun _ _ => rfl) rfl fun cdv A outer s H E B x q0 o =>
  hb_ifR0 (ht_ne (hg_fk fk_all_crossings_h o (by decide) (ha_cons (P := VP.at false (rLst K (rLst K rStr))) (hx_bor (hx_var (w := true) (r := (rLst K (rLst K rStr))) 0)) (ha_one (P := VP.at true (rLst K (rTup K (RT.cons rStr (RT.one rStr))))) (hx_var (w := true) (r := (rLst K (rTup K (RT.cons rStr (RT.one rStr))))) 1))) (by exact fun _ _ => pg_at) (by exact fun _ _ => allF_nil)) (hg_fk fk__law_all_h o (by decide) (ha_cons (P := VP.at false (rLst K (rLst K rStr))) (hx_bor (hx_var (w := true) (r := (rLst K (rLst K rStr))) 0)) (ha_one (P := VP.at true (rLst K (rTup K (RT.cons rStr (RT.one rStr))))) (hx_var (w := true) (r := (rLst K (rTup K (RT.cons rStr (RT.one rStr))))) 1))) (by exact fun _ _ => pg_at) (by exact fun _ _ => allF_nil))) (
  hb_ret (ς := Unit) (O := (fun (_ : Unit) => ([] : OS))) hx_bl () (fun _ => rfl) (fun z q v S H st ow pv => ⟨(), S, st, trivial, pv⟩)) (
  hb_forY (kr := (fun r => r)) (ς := Unit) (O := (fun (_ : Unit) => ([] : OS))) (P := VP.at true rInt) (l0 := (fun (s : Unit) => ())) (asL := (fun l2 => [some (VP.at true (rLst K (rLst K rStr)) (x.1)), some (VP.at true (rLst K (rTup K (RT.cons rStr (RT.one rStr)))) (x.2)), none, none, none, none])) (osL := (fun l2 => ([] : OS))) (f := (_law_counted_b8 x)) o (hi_range1 bi.range (hx_sub (hx_lenL bi.len (hx_var (w := true) (r := (rLst K (rLst K rStr))) 0)) hx_int)) () (by exact fun _ => ⟨.inr rfl, ⟨.inr rfl, ⟨.inl rfl, ⟨.inl rfl, ⟨.inl rfl, ⟨.inl rfl, trivial⟩⟩⟩⟩⟩⟩) (fun _ => rfl) (fun l2 a3 => (htg_name 2 (by exact o.nd))) (fun l2 a3 =>
  hb_lcF (r := (rTup K (RT.cons rStr (RT.one rStr)))) (ς := Unit) (O := (fun (_ : Unit) => ([] : OS))) 3 o (Lcp.mk ⟨VP.at true (rTup K (RT.cons rStr (RT.one rStr))), [5], _, (hi_list (hx_var (w := true) (r := (rLst K (rTup K (RT.cons rStr (RT.one rStr))))) 1)), blkOk_by (own := [("line", 5)]) (by rfl), (by decide), fun _ _ _ _ _ _ a5 => (htg_name 5 (by exact o.nd)), fun _ _ _ _ _ _ a5 => (hts_one (ht_inL frStr (hx_tix (t := (RT.cons rStr (RT.one rStr))) (k := 0) (f := (fun (x : (Str × Str)) => x.1)) tg_0 (hx_var (w := true) (r := (rTup K (RT.cons rStr (RT.one rStr)))) 5)) (hx_idx (hx_var (w := true) (r := (rLst K (rLst K rStr))) 0) (hx_var (w := true) (r := rInt) 2)))), fun _ _ _ _ _ _ a5 => (hx_var (w := true) (r := (rTup K (RT.cons rStr (RT.one rStr)))) 5)⟩) () (fun z4 =>
  hb_asg (ς := Unit) (O := (fun (_ : Unit) => ([] : OS))) 4 o.nd (hg_fk fk__law_two_h o (by decide) (ha_cons (P := VP.at false (rLst K rStr)) (hx_bor (hx_idx (hx_var (w := true) (r := (rLst K (rLst K rStr))) 0) (hx_var (w := true) (r := rInt) 2))) (ha_cons (P := VP.at false (rLst K rStr)) (hx_bor (hx_idx (hx_var (w := true) (r := (rLst K (rLst K rStr))) 0) (hx_add (hx_var (w := true) (r := rInt) 2) hx_int))) (ha_one (P := VP.at true (rLst K (rTup K (RT.cons rStr (RT.one rStr))))) (hx_var (w := true) (r := (rLst K (rTup K (RT.cons rStr (RT.one rStr))))) 1)))) (by exact fun _ _ => pg_at) (by exact fun _ _ => allF_nil)) () (fun z6 q7 =>
  hb_ifR0 (ht_ne (hg_fk fk_crossings_h o (by decide) (ha_cons (P := VP.at false (rLst K rStr)) (hx_bor (hx_idx (hx_var (w := true) (r := (rLst K (rLst K rStr))) 0) (hx_var (w := true) (r := rInt) 2))) (ha_cons (P := VP.at false (rLst K rStr)) (hx_bor (hx_idx (hx_var (w := true) (r := (rLst K (rLst K rStr))) 0) (hx_add (hx_var (w := true) (r := rInt) 2) hx_int))) (ha_one (P := VP.at true (rLst K (rTup K (RT.cons rStr (RT.one rStr))))) (hx_var (w := true) (r := (rLst K (rTup K (RT.cons rStr (RT.one rStr))))) 3)))) (by exact fun _ _ => pg_at) (by exact fun _ _ => allF_nil)) (hx_var (w := true) (r := rInt) 4)) (
  hb_ret (ς := Unit) (O := (fun (_ : Unit) => ([] : OS))) hx_bl () (fun _ => rfl) (fun z q v S H st ow pv => ⟨(), S, st, trivial, pv⟩)) (
  hb_endO (as' := (fun l2 => [some (VP.at true (rLst K (rLst K rStr)) (x.1)), some (VP.at true (rLst K (rTup K (RT.cons rStr (RT.one rStr)))) (x.2)), none, none, none, none])) (os' := (fun l2 => ([] : OS))) (l := ()) (by exact ⟨.inr rfl, ⟨.inr rfl, ⟨.inl rfl, ⟨.inl rfl, ⟨.inl rfl, ⟨.inl rfl, trivial⟩⟩⟩⟩⟩⟩))))) (fun l2 =>
  hb_ret (ς := Unit) (O := (fun (_ : Unit) => ([] : OS))) hx_bl () (fun _ => rfl) (fun z q v S H st ow pv => ⟨(), S, st, trivial, pv⟩)))) (fun _ _ _ _ _ _ us hl => match us, hl with | [_, _], _ => rfl)
abbrev s__law_swept_right : Stmt := top 40
theorem sc__law_swept_right : FnScope ["rows", "lines", "turns", "known", "found", "due", "row"] ["rows", "lines", "turns", "known"] (defScope s__law_swept_right) := ⟨rfl, rfl, rfl, by decide +kernel, rfl, by decide +kernel, by decide +kernel⟩
def _law_swept_right (x : ((List (List Str)) × (List (Str × Str)) × Int × (List (Int × (List (List Str)))))) : R (Bool × (List (Int × (List (List Str))))) :=
  ((SM.bnd1 (fun z => (swept z).calm) (SM.map2 Prod.mk (SM.ret x.1) (SM.map2 Prod.mk (SM.ret x.2.1) (SM.ret x.2.2.1)))) ()).bind fun z1 =>
  ((fun s => ((SM.ret x.2.2.1) s).bind fun z => ((SM.pk fun t4 => (SM.lc (SM.ret z1.1) (fun (a5 : (List Str)) => (SM.ret true)) (fun a5 => (SM.map1 id (SM.ret a5))))) z.2).bind fun y => (setdR ((fun (s : (List (Int × (List (List Str))))) => s) y.2) z.1 y.1).bind fun r => R.ok (r.1, (fun (s : (List (Int × (List (List Str))))) (d : (List (Int × (List (List Str))))) => (d)) y.2 r.2)) (x.2.2.2)).bind fun z3 =>
  ((SM.pk fun t7 => (SM.bnd2 (neD ((dqLst (dqLst dqStr)) : DQ K0 (rLst K0 (rLst K0 rStr))).can) (SM.ret z1.1) (SM.ret z3.1))) ()).bind fun z => if z.1 = true then
  ((SM.ret false) ()).bind fun z => R.ok ((z.1, z3.2)) else
  ((SM.pk fun t8 => (SM.bnd2 (neD ((dqLst (dqLst dqStr)) : DQ K0 (rLst K0 (rLst K0 rStr))).can) (SM.lc (SM.ret z1.1) (fun (a9 : (List Str)) => (SM.ret true)) (fun a9 => (SM.bnd1 sortS (SM.ret a9)))) (SM.lc (SM.ret x.1) (fun (a10 : (List Str)) => (SM.ret true)) (fun a10 => (SM.bnd1 sortS (SM.ret a10)))))) ()).bind fun z => if z.1 = true then
  ((SM.ret false) ()).bind fun z => R.ok ((z.1, z3.2)) else
  ((SM.pk fun t11 => (SM.map2 gtB (SM.bnd1 (fun z => (_law_all z).calm) (SM.map2 Prod.mk (SM.ret z1.1) (SM.ret x.2.1))) (SM.bnd1 (fun z => (_law_all z).calm) (SM.map2 Prod.mk (SM.ret x.1) (SM.ret x.2.1))))) ()).bind fun z => if z.1 = true then
  ((SM.ret false) ()).bind fun z => R.ok ((z.1, z3.2)) else
  ((fun s => ((SM.ret (0 : Int)) s).bind fun k => (R.ofO (ixN ((fun (s : (List (List Str))) => s) k.2).length k.1)).bind fun j => ((SM.ret ("zz" : Str)) k.2).bind fun z => (R.ofO ((fun (s : (List (List Str))) => s) z.2)[j]?).bind fun xs => (appR xs z.1).bind fun r => R.ok (r.1, (fun (s : (List (List Str))) (d : (List (List Str))) => (d)) z.2 (((fun (s : (List (List Str))) => s) z.2).set j r.2))) (z1.1)).bind fun z12 =>
  ((SM.ret true) ()).bind fun z => R.ok ((z.1, z3.2))
abbrev _law_swept_right_sp (K : PySem.W.Frag) : Sp := (spG (π0 := Addr) (π := Unit) noX (fun (x : ((List (List Str)) × (List (Str × Str)) × Int × (List (Int × (List (List Str)))))) q0 => [VP.at true (rLst K (rLst K rStr)) (x.1), VP.at true (rLst K (rTup K (RT.cons rStr (RT.one rStr)))) (x.2.1), VP.at true rInt (x.2.2.1), VP.ptr q0]) (fun (x : ((List (List Str)) × (List (Str × Str)) × Int × (List (Int × (List (List Str)))))) q0 => ([⟨q0, cDic kInt (rLst K (rLst K rStr)) (x.2.2.2), false⟩] : OS)) _law_swept_right (fun (r : Bool) q => VP.at true rBl r) (fun (d : (List (Int × (List (List Str))))) q0 => ([⟨q0, cDic kInt (rLst K (rLst K rStr)) (d), false⟩] : OS)) (fun (r : Bool) q => ([] : OS)))
theorem fk__law_swept_right (bi : Bi mg) (D : Dfd K mg "_law_swept_right" s__law_swept_right) (fk_swept_h : Fk P w K mg base 4 "swept" ["rows", "lines", "often"] (swept_sp K)) (fk__law_all_h : Fk P w K mg base 2 "_law_all" ["rows", "lines"] (_law_all_sp K)) : Fk P w K mg base 5 "_law_swept_right" ["rows", "lines", "turns", "known"] (_law_swept_right_sp K) :=
  mkFk D (fun fd F => fd_ok F sc__law_swept_right 3 (fun _ _ => rfl) rfl fun cdv A outer s H E B x q0 o =>
  hb_asg (ς := Unit) (O := (fun (_ : Unit) => ([⟨q0, cDic kInt (rLst K (rLst K rStr)) (x.2.2.2), false⟩] : OS))) 4 o.nd (hg_fk fk_swept_h o (by decide) (ha_cons (P := VP.at false (rLst K (rLst K rStr))) (hx_bor (hx_var (w := true) (r := (rLst K (rLst K rStr))) 0)) (ha_cons (P := VP.at true (rLst K (rTup K (RT.cons rStr (RT.one rStr))))) (hx_var (w := true) (r := (rLst K (rTup K (RT.cons rStr (RT.one rStr))))) 1) (ha_one (P := VP.at true rInt) (hx_var (w := true) (r := rInt) 2)))) (by exact fun _ _ => pg_ptr) (by exact fun _ _ => allF_app allF_nwG allF_nil)) () (fun z1 q2 =>
  hb_perm (perm_gr2 [] (nwG (cLst rStr) (z1.1) q2) [⟨q0, cDic kInt (rLst K (rLst K rStr)) (x.2.2.2), false⟩] ([] : OS)) (hb_asg (ς := (List (Int × (List (List Str))))) (O := (fun (s : (List (Int × (List (List Str))))) => (((⟨q0, cDic kInt (rLst K (rLst K rStr)) (s), false⟩ : OE) :: (nwG (cLst rStr) (z1.1) q2 ++ ([] : OS))) : OS))) 5 o.nd (hx_setd (kk := kInt) (r := (rLst K (rLst K rStr))) 3 0 (fun (s : (List (Int × (List (List Str))))) => s) (fun (s : (List (Int × (List (List Str))))) (d : (List (Int × (List (List Str))))) => (d)) (hx_var (w := true) (r := rInt) 2) (HG.frzL (f := id) (hn_pk (fun (t4 : (List (Int × (List (List Str))))) => [none, none, none, none, some (VP.at false (rLst K (rLst K rStr)) (z1.1)), none, none]) _ (by exact fun _ => ⟨.no, ⟨.no, ⟨.no, ⟨.no, ⟨pk_grp (r := rStr) (q := q2.1) (ps := q2.2) ([⟨q0, cDic kInt (rLst K (rLst K rStr)) (_), false⟩] : OS) ([] : OS), ⟨.no, ⟨.no, trivial⟩⟩⟩⟩⟩⟩⟩) fun _ _ => (hn_lc (r := (rLst K rStr)) (Ok.pk o _) (Lcp.mk ⟨VP.at false (rLst K rStr), [6], _, (hi_list (hx_var (w := false) (r := (rLst K (rLst K rStr))) 4)), blkOk_by (own := [("row", 6)]) (by rfl), (by decide), fun _ _ _ _ _ _ a5 => (htg_name 6 (by exact o.nd)), fun _ _ _ _ _ _ a5 => hts_nil, fun _ _ _ _ _ _ a5 => (HG.frzL (f := id) (hn_listF ffStr bi.list (hx_var (w := false) (r := (rLst K rStr)) 6)))⟩))))) (x.2.2.2) (fun z3 q6 =>
  hb_ifR0 (ht_pk (fun (t7 : Unit) => [none, none, none, none, some (VP.at false (rLst K (rLst K rStr)) (z1.1)), some (VP.at true (rLst K (rLst K rStr)) (z3.1)), none]) (by exact fun _ => ⟨.no, ⟨.no, ⟨.no, ⟨.no, ⟨pk_grp (r := rStr) (q := q2.1) (ps := q2.2) ([⟨q0, cDic kInt (rLst K (rLst K rStr)) (z3.2), false⟩] : OS) ([] : OS), ⟨.same, ⟨.no, trivial⟩⟩⟩⟩⟩⟩⟩) fun _ _ => (ht_neD (hn := Nat.le_of_ble_eq_true rfl) (Ok.pk o _) (dqLst (dqLst dqStr)) (hx_var (w := false) (r := (rLst K (rLst K rStr))) 4) (hx_var (w := true) (r := (rLst K (rLst K rStr))) 5))) (
  hb_ret (ς := Unit) (O := (fun (_ : Unit) => (((⟨q0, cDic kInt (rLst K (rLst K rStr)) (z3.2), false⟩ : OE) :: (nwG (cLst rStr) (z1.1) q2 ++ ([] : OS))) : OS))) hx_bl () (fun _ => rfl) (fun z q v S H st ow pv => ⟨(), S, st, (ow.pick [0] (by decide)), pv⟩)) (
  hb_ifR0 (ht_pk (fun (t8 : Unit) => [some (VP.at true (rLst K (rLst K rStr)) (x.1)), none, none, none, some (VP.at false (rLst K (rLst K rStr)) (z1.1)), none, none]) (by exact fun _ => ⟨.same, ⟨.no, ⟨.no, ⟨.no, ⟨pk_grp (r := rStr) (q := q2.1) (ps := q2.2) ([⟨q0, cDic kInt (rLst K (rLst K rStr)) (z3.2), false⟩] : OS) ([] : OS), ⟨.no, ⟨.no, trivial⟩⟩⟩⟩⟩⟩⟩) fun _ _ => (ht_neD (hn := Nat.le_of_ble_eq_true rfl) (Ok.pk o _) (dqLst (dqLst dqStr)) (HG.frzL (f := id) (hn_lc (r := (rLst K rStr)) (Ok.pk o _) (Lcp.mk ⟨VP.at false (rLst K rStr), [6], _, (hi_list (hx_var (w := false) (r := (rLst K (rLst K rStr))) 4)), blkOk_by (own := [("row", 6)]) (by rfl), (by decide), fun _ _ _ _ _ _ a9 => (htg_name 6 (by exact o.nd)), fun _ _ _ _ _ _ a9 => hts_nil, fun _ _ _ _ _ _ a9 => (HG.frzL (f := id) (hn_sortS bi.sorted (hx_var (w := false) (r := (rLst K rStr)) 6)))⟩))) (HG.frzL (f := id) (hn_lc (r := (rLst K rStr)) (Ok.pk o _) (Lcp.mk ⟨VP.at true (rLst K rStr), [6], _, (hi_list (hx_var (w := true) (r := (rLst K (rLst K rStr))) 0)), blkOk_by (own := [("row", 6)]) (by rfl), (by decide), fun _ _ _ _ _ _ a10 => (htg_name 6 (by exact o.nd)), fun _ _ _ _ _ _ a10 => hts_nil, fun _ _ _ _ _ _ a10 => (HG.frzL (f := id) (hn_sortS bi.sorted (hx_var (w := true) (r := (rLst K rStr)) 6)))⟩))))) (
  hb_ret (ς := Unit) (O := (fun (_ : Unit) => (((⟨q0, cDic kInt (rLst K (rLst K rStr)) (z3.2), false⟩ : OE) :: (nwG (cLst rStr) (z1.1) q2 ++ ([] : OS))) : OS))) hx_bl () (fun _ => rfl) (fun z q v S H st ow pv => ⟨(), S, st, (ow.pick [0] (by decide)), pv⟩)) (
  hb_ifR0 (ht_pk (fun (t11 : Unit) => [some (VP.at true (rLst K (rLst K rStr)) (x.1)), some (VP.at true (rLst K (rTup K (RT.cons rStr (RT.one rStr)))) (x.2.1)), none, none, some (VP.at false (rLst K (rLst K rStr)) (z1.1)), none, none]) (by exact fun _ => ⟨.same, ⟨.same, ⟨.no, ⟨.no, ⟨pk_grp (r := rStr) (q := q2.1) (ps := q2.2) ([⟨q0, cDic kInt (rLst K (rLst K rStr)) (z3.2), false⟩] : OS) ([] : OS), ⟨.no, ⟨.no, trivial⟩⟩⟩⟩⟩⟩⟩) fun _ _ => (ht_gt (hg_fk fk__law_all_h (Ok.pk o _) (by decide) (ha_cons (P := VP.at false (rLst K (rLst K rStr))) (hx_var (w := false) (r := (rLst K (rLst K rStr))) 4) (ha_one (P := VP.at true (rLst K (rTup K (RT.cons rStr (RT.one rStr))))) (hx_var (w := true) (r := (rLst K (rTup K (RT.cons rStr (RT.one rStr))))) 1))) (by exact fun _ _ => pg_at) (by exact fun _ _ => allF_nil)) (hg_fk fk__law_all_h (Ok.pk o _) (by decide) (ha_cons (P := VP.at false (rLst K (rLst K rStr))) (hx_bor (hx_var (w := true) (r := (rLst K (rLst K rStr))) 0)) (ha_one (P := VP.at true (rLst K (rTup K (RT.cons rStr (RT.one rStr))))) (hx_var (w := true) (r := (rLst K (rTup K (RT.cons rStr (RT.one rStr))))) 1))) (by exact fun _ _ => pg_at) (by exact fun _ _ => allF_nil)))) (
  hb_ret (ς := Unit) (O := (fun (_ : Unit) => (((⟨q0, cDic kInt (rLst K (rLst K rStr)) (z3.2), false⟩ : OE) :: (nwG (cLst rStr) (z1.1) q2 ++ ([] : OS))) : OS))) hx_bl () (fun _ => rfl) (fun z q v S H st ow pv => ⟨(), S, st, (ow.pick [0] (by decide)), pv⟩)) (
  hb_expr (ς := (List (List Str))) (O := (fun (s : (List (List Str))) => (((⟨q0, cDic kInt (rLst K (rLst K rStr)) (z3.2), false⟩ : OE) :: (nwG (cLst rStr) (s) q2 ++ ([] : OS))) : OS))) (hx_mutG (q0 := q2.1) (ps := q2.2) PySem.F.slot_list_append PySem.F.type_list_append mt_append (ov_app (rp := rStr)) 4 (fun (s : (List (List Str))) => ([⟨q0, cDic kInt (rLst K (rLst K rStr)) (z3.2), false⟩] : OS)) (fun (_ : (List (List Str))) => ([] : OS)) (fun (s : (List (List Str))) => s) (fun (s : (List (List Str))) (d : (List (List Str))) => (d)) hx_int (ha_one (P := VP.at true rStr) hx_str)) (z1.1) (fun z12 q13 =>
  hb_clrG (ct := cLst rStr) (q0 := q2.1) (ps := q2.2) (xs := z12.2) 4 ([⟨q0, cDic kInt (rLst K (rLst K rStr)) (z3.2), false⟩] : OS) ([] : OS) (hb_perm (os' := ([⟨q0, cDic kInt (rLst K (rLst K rStr)) (z3.2), false⟩] : OS)) (List.Perm.of_eq (List.append_nil _)) (hb_ret (ς := Unit) (O := (fun (_ : Unit) => ([⟨q0, cDic kInt (rLst K (rLst K rStr)) (z3.2), false⟩] : OS))) hx_bl () (fun _ => rfl) (fun z q v S H st ow pv => ⟨(), S, st, ow, pv⟩))))))))))) (fun _ _ _ _ _ _ us hl => match us, hl with | [_, _, _, _], _ => rfl)
abbrev s__law_settled_right : Stmt := top 41
theorem sc__law_settled_right : FnScope ["rows", "lines", "there", "log", "row", "less", "change", "k", "at"] ["rows", "lines"] (defScope s__law_settled_right) := ⟨rfl, rfl, rfl, by decide +kernel, rfl, by decide +kernel, by decide +kernel⟩
def _law_settled_right_b18 (x : ((List (List Str)) × (List (Str × Str)))) (z1 : ((List (List Str)) × (List (Int × Int × Int))) × Unit) (a14 : (Int × (List Str))) (l16 : Unit) (a17 : Int) : R (Oc Unit Bool) :=
  ((SM.map2 ltB (SM.bnd1 (fun z => (_law_all z).calm) (SM.map2 Prod.mk (SM.bnd1 (fun z => (_law_changed z).calm) (SM.map2 Prod.mk (SM.ret z1.1.1) (SM.map2 Prod.mk (SM.ret a14.1) (SM.ret a17)))) (SM.ret x.2))) (SM.bnd1 (fun z => (_law_all z).calm) (SM.map2 Prod.mk (SM.ret z1.1.1) (SM.ret x.2)))) ()).bind fun z => if z.1 = true then
  ((SM.ret false) ()).bind fun z => R.ok (Oc.rt z.1) else
  R.ok (Oc.nx ())
def _law_settled_right_b19 (x : ((List (List Str)) × (List (Str × Str)))) (z1 : ((List (List Str)) × (List (Int × Int × Int))) × Unit) (l13 : Unit) (a14 : (Int × (List Str))) : R (Oc Unit Bool) :=
  ((SM.bnd1 rng1 (SM.map2 (· - ·) (SM.map1 (fun xs => (xs.length : Int)) (SM.ret a14.2)) (SM.ret (1 : Int)))) ()).bind fun z15 => (forR (_law_settled_right_b18 x z1 a14) () z15.1).bind fun o => ocB o (fun (l16 : Unit) =>
  R.ok (Oc.nx ())) (fun r => Oc.rt r)
def _law_settled_right (x : ((List (List Str)) × (List (Str × Str)))) : R Bool :=
  ((SM.bnd1 (fun z => (settled z).calm) (SM.map2 Prod.mk (SM.ret x.1) (SM.ret x.2))) ()).bind fun z1 =>
  ((SM.pk fun t3 => (SM.bnd2 (neD ((dqLst (dqLst dqStr)) : DQ K0 (rLst K0 (rLst K0 rStr))).can) (SM.lc (SM.ret z1.1.1) (fun (a4 : (List Str)) => (SM.ret true)) (fun a4 => (SM.bnd1 sortS (SM.ret a4)))) (SM.lc (SM.ret x.1) (fun (a5 : (List Str)) => (SM.ret true)) (fun a5 => (SM.bnd1 sortS (SM.ret a5)))))) ()).bind fun z => if z.1 = true then
  ((SM.ret false) ()).bind fun z => R.ok z.1 else
  ((SM.pk fun t7 => (SM.map1 List.sum (SM.lc (SM.ret z1.1.2) (fun (a8 : (Int × Int × Int)) => (SM.ret true)) (fun a8 => (SM.map1 (fun (x : (Int × Int × Int)) => x.2.2) (SM.ret a8)))))) ()).bind fun z6 =>
  ((SM.pk fun t10 => (SM.map2 neB (SM.bnd1 (fun z => (_law_all z).calm) (SM.map2 Prod.mk (SM.ret z1.1.1) (SM.ret x.2))) (SM.map2 (· - ·) (SM.bnd1 (fun z => (_law_all z).calm) (SM.map2 Prod.mk (SM.ret x.1) (SM.ret x.2))) (SM.ret z6.1)))) ()).bind fun z => if z.1 = true then
  ((SM.ret false) ()).bind fun z => R.ok z.1 else
  ((SM.pk fun t11 => (SM.bnd2 (neD ((dqLst dqInt) : DQ K0 (rLst K0 rInt)).can) (SM.lc (SM.ret z1.1.2) (fun (a12 : (Int × Int × Int)) => (SM.map2 ltB (SM.map1 (fun (x : (Int × Int × Int)) => x.2.2) (SM.ret a12)) (SM.ret (1 : Int)))) (fun a12 => (SM.ret (1 : Int)))) (SM.ret ([] : (List Int))))) ()).bind fun z => if z.1 = true then
  ((SM.ret false) ()).bind fun z => R.ok z.1 else
  ((((SM.map1 enumL (SM.ret z1.1.1)) ()).bind fun z => forR (_law_settled_right_b19 x z1) () z.1).calm.bind fun o => R.ok (Oc.mp (fun (r : Bool) => r) o)).bind fun o => ocB o (fun (l13 : Unit) =>
  ((fun s => ((SM.ret (0 : Int)) s).bind fun k => (R.ofO (ixN ((fun (s : (List (List Str))) => s) k.2).length k.1)).bind fun j => ((SM.ret ("zz" : Str)) k.2).bind fun z => (R.ofO ((fun (s : (List (List Str))) => s) z.2)[j]?).bind fun xs => (appR xs z.1).bind fun r => R.ok (r.1, (fun (s : (List (List Str))) (d : (List (List Str))) => (d)) z.2 (((fun (s : (List (List Str))) => s) z.2).set j r.2))) (z1.1.1)).bind fun z20 =>
  ((fun s => (clrR ((fun (s : (List (Int × Int × Int))) => s) s)).bind fun r => R.ok (r.1, (fun (s : (List (Int × Int × Int))) (d : (List (Int × Int × Int))) => (d)) s r.2)) (z1.1.2)).bind fun z22 =>
  ((SM.ret true) ()).bind fun z => R.ok z.1) (fun r => r)
abbrev _law_settled_right_sp (K : PySem.W.Frag) : Sp := (spF (π0 := Unit) (π := Unit) noX (fun (x : ((List (List Str)) × (List (Str × Str)))) _ => [VP.at true (rLst K (rLst K rStr)) (x.1), VP.at true (rLst K (rTup K (RT.cons rStr (RT.one rStr)))) (x.2)]) (fun _ _ => []) _law_settled_right (fun (r : Bool) q => VP.at true rBl r) (fun _ _ => []) fun r q => ([] : OS))
theorem fk__law_settled_right (bi : Bi mg) (D : Dfd K mg "_law_settled_right" s__law_settled_right) (fk_settled_h : Fk P w K mg base 4 "settled" ["rows", "lines"] (settled_sp K)) (fk__law_all_h : Fk P w K mg base 2 "_law_all" ["rows", "lines"] (_law_all_sp K)) (fk__law_changed_h : Fk P w K mg base 1 "_law_changed" ["rows", "k", "at"] (_law_changed_sp K)) : Fk P w K mg base 5 "_law_settled_right" ["rows", "lines"] (_law_settled_right_sp K) :=
  mkFk D (fun fd F => fd_ok F sc__law_settled_right 7 (fun _ _ => rfl) rfl fun cdv A outer s H E B x q0 o =>
  hb_asgT (ς := Unit) (O := (fun (_ : Unit) => ([] : OS))) (hg_fk fk_settled_h o (by decide) (ha_cons (P := VP.at false (rLst K (rLst K rStr))) (hx_bor (hx_var (w := true) (r := (rLst K (rLst K rStr))) 0)) (ha_one (P := VP.at true (rLst K (rTup K (RT.cons rStr (RT.one rStr))))) (hx_var (w := true) (r := (rLst K (rTup K (RT.cons rStr (RT.one rStr))))) 1))) (by exact fun _ _ => pg_tup (pgs_c pg_ptr (pgs_c pg_ptr pgs_n))) (by exact fun _ _ => (allF_cons (allF_app allF_nwG allF_nil)))) () (fun _ _ => (htg_tupV o.calm (htgs_cons (htg_name 2 o.nd) (htgs_cons (htg_name 3 o.nd) htgs_nil)))) (fun z1 q2 =>
  hb_perm (perm_gr2 [⟨q2.2, cLst (rTup K (RT.cons rInt (RT.cons rInt (RT.one rInt)))) (z1.1.2), true⟩] (nwG (cLst rStr) (z1.1.1) q2.1) [] ([] : OS)) (hb_ifR0 (ht_pk (fun (t3 : Unit) => [some (VP.at true (rLst K (rLst K rStr)) (x.1)), none, some (VP.at false (rLst K (rLst K rStr)) (z1.1.1)), none, none, none, none, none, none]) (by exact fun _ => ⟨.same, ⟨.no, ⟨pk_grp (r := rStr) (q := q2.1.1) (ps := q2.1.2) ([⟨q2.2, cLst (rTup K (RT.cons rInt (RT.cons rInt (RT.one rInt)))) (z1.1.2), true⟩] : OS) ([] : OS), ⟨.no, ⟨.no, ⟨.no, ⟨.no, ⟨.no, ⟨.no, trivial⟩⟩⟩⟩⟩⟩⟩⟩⟩) fun _ _ => (ht_neD (hn := Nat.le_of_ble_eq_true rfl) (Ok.pk o _) (dqLst (dqLst dqStr)) (HG.frzL (f := id) (hn_lc (r := (rLst K rStr)) (Ok.pk o _) (Lcp.mk ⟨VP.at false (rLst K rStr), [4], _, (hi_list (hx_var (w := false) (r := (rLst K (rLst K rStr))) 2)), blkOk_by (own := [("row", 4)]) (by rfl), (by decide), fun _ _ _ _ _ _ a4 => (htg_name 4 (by exact o.nd)), fun _ _ _ _ _ _ a4 => hts_nil, fun _ _ _ _ _ _ a4 => (HG.frzL (f := id) (hn_sortS bi.sorted (hx_var (w := false) (r := (rLst K rStr)) 4)))⟩))) (HG.frzL (f := id) (hn_lc (r := (rLst K rStr)) (Ok.pk o _) (Lcp.mk ⟨VP.at true (rLst K rStr), [4], _, (hi_list (hx_var (w := true) (r := (rLst K (rLst K rStr))) 0)), blkOk_by (own := [("row", 4)]) (by rfl), (by decide), fun _ _ _ _ _ _ a5 => (htg_name 4 (by exact o.nd)), fun _ _ _ _ _ _ a5 => hts_nil, fun _ _ _ _ _ _ a5 => (HG.frzL (f := id) (hn_sortS bi.sorted (hx_var (w := true) (r := (rLst K rStr)) 4)))⟩))))) (
  hb_ret (ς := Unit) (O := (fun (_ : Unit) => (((⟨q2.2, cLst (rTup K (RT.cons rInt (RT.cons rInt (RT.one rInt)))) (z1.1.2), true⟩ : OE) :: (nwG (cLst rStr) (z1.1.1) q2.1 ++ ([] : OS))) : OS))) hx_bl () (fun _ => rfl) (fun z q v S H st ow pv => ⟨(), S, st, trivial, pv⟩)) (
  hb_asg (ς := Unit) (O := (fun (_ : Unit) => (((⟨q2.2, cLst (rTup K (RT.cons rInt (RT.cons rInt (RT.one rInt)))) (z1.1.2), true⟩ : OE) :: (nwG (cLst rStr) (z1.1.1) q2.1 ++ ([] : OS))) : OS))) 5 o.nd (hx_pk (fun (t7 : Unit) => [none, none, none, some (VP.at false (rLst K (rTup K (RT.cons rInt (RT.cons rInt (RT.one rInt))))) (z1.1.2)), none, none, none, none, none]) _ (by exact fun _ => ⟨.no, ⟨.no, ⟨.no, ⟨pk_lst 0, ⟨.no, ⟨.no, ⟨.no, ⟨.no, ⟨.no, trivial⟩⟩⟩⟩⟩⟩⟩⟩⟩) fun _ _ => (hx_sum (by exact o.calm) bi.sum (HG.frzL (f := id) (hn_lc (r := rInt) (Ok.pk o _) (Lcp.mk ⟨VP.at false (rTup K (RT.cons rInt (RT.cons rInt (RT.one rInt)))), [6], _, (hi_list (hx_var (w := false) (r := (rLst K (rTup K (RT.cons rInt (RT.cons rInt (RT.one rInt)))))) 3)), blkOk_by (own := [("change", 6)]) (by rfl), (by decide), fun _ _ _ _ _ _ a8 => (htg_name 6 (by exact o.nd)), fun _ _ _ _ _ _ a8 => hts_nil, fun _ _ _ _ _ _ a8 => (hx_fl ffInt (hx_tix (t := (RT.cons rInt (RT.cons rInt (RT.one rInt)))) (k := 2) (f := (fun (x : (Int × Int × Int)) => x.2.2)) (tg_s (tg_s tg_one)) (hx_var (w := false) (r := (rTup K (RT.cons rInt (RT.cons rInt (RT.one rInt))))) 6)))⟩))))) () (fun z6 q9 =>
  hb_ifR0 (ht_pk (fun (t10 : Unit) => [some (VP.at true (rLst K (rLst K rStr)) (x.1)), some (VP.at true (rLst K (rTup K (RT.cons rStr (RT.one rStr)))) (x.2)), some (VP.at false (rLst K (rLst K rStr)) (z1.1.1)), none, none, some (VP.at true rInt (z6.1)), none, none, none]) (by exact fun _ => ⟨.same, ⟨.same, ⟨pk_grp (r := rStr) (q := q2.1.1) (ps := q2.1.2) ([⟨q2.2, cLst (rTup K (RT.cons rInt (RT.cons rInt (RT.one rInt)))) (z1.1.2), true⟩] : OS) ([] : OS), ⟨.no, ⟨.no, ⟨.same, ⟨.no, ⟨.no, ⟨.no, trivial⟩⟩⟩⟩⟩⟩⟩⟩⟩) fun _ _ => (ht_ne (hg_fk fk__law_all_h (Ok.pk o _) (by decide) (ha_cons (P := VP.at false (rLst K (rLst K rStr))) (hx_var (w := false) (r := (rLst K (rLst K rStr))) 2) (ha_one (P := VP.at true (rLst K (rTup K (RT.cons rStr (RT.one rStr))))) (hx_var (w := true) (r := (rLst K (rTup K (RT.cons rStr (RT.one rStr))))) 1))) (by exact fun _ _ => pg_at) (by exact fun _ _ => allF_nil)) (hx_sub (hg_fk fk__law_all_h (Ok.pk o _) (by decide) (ha_cons (P := VP.at false (rLst K (rLst K rStr))) (hx_bor (hx_var (w := true) (r := (rLst K (rLst K rStr))) 0)) (ha_one (P := VP.at true (rLst K (rTup K (RT.cons rStr (RT.one rStr))))) (hx_var (w := true) (r := (rLst K (rTup K (RT.cons rStr (RT.one rStr))))) 1))) (by exact fun _ _ => pg_at) (by exact fun _ _ => allF_nil)) (hx_var (w := true) (r := rInt) 5)))) (
  hb_ret (ς := Unit) (O := (fun (_ : Unit) => (((⟨q2.2, cLst (rTup K (RT.cons rInt (RT.cons rInt (RT.one rInt)))) (z1.1.2), true⟩ : OE) :: (nwG (cLst rStr) (z1.1.1) q2.1 ++ ([] : OS))) : OS))) hx_bl () (fun _ => rfl) (fun z q v S H st ow pv => ⟨(), S, st, trivial, pv⟩)) (
  hb_ifR0 (ht_pk (fun (t11 : Unit) => [none, none, none, some (VP.at false (rLst K (rTup K (RT.cons rInt (RT.cons rInt (RT.one rInt))))) (z1.1.2)), none, none, none, none, none]) (by exact fun _ => ⟨.no, ⟨.no, ⟨.no, ⟨pk_lst 0, ⟨.no, ⟨.no, ⟨.no, ⟨.no, ⟨.no, trivial⟩⟩⟩⟩⟩⟩⟩⟩⟩) fun _ _ => (ht_neD (hn := Nat.le_of_ble_eq_true rfl) (Ok.pk o _) (dqLst dqInt) (HG.frzL (f := id) (hn_lc (r := rInt) (Ok.pk o _) (Lcp.mk ⟨VP.at false (rTup K (RT.cons rInt (RT.cons rInt (RT.one rInt)))), [6], _, (hi_list (hx_var (w := false) (r := (rLst K (rTup K (RT.cons rInt (RT.cons rInt (RT.one rInt)))))) 3)), blkOk_by (own := [("change", 6)]) (by rfl), (by decide), fun _ _ _ _ _ _ a12 => (htg_name 6 (by exact o.nd)), fun _ _ _ _ _ _ a12 => (hts_one (ht_lt (hx_fl ffInt (hx_tix (t := (RT.cons rInt (RT.cons rInt (RT.one rInt)))) (k := 2) (f := (fun (x : (Int × Int × Int)) => x.2.2)) (tg_s (tg_s tg_one)) (hx_var (w := false) (r := (rTup K (RT.cons rInt (RT.cons rInt (RT.one rInt))))) 6))) hx_int)), fun _ _ _ _ _ _ a12 => hx_int⟩))) (HG.frzL (f := id) (hn_nil (r := rInt))))) (
  hb_ret (ς := Unit) (O := (fun (_ : Unit) => (((⟨q2.2, cLst (rTup K (RT.cons rInt (RT.cons rInt (RT.one rInt)))) (z1.1.2), true⟩ : OE) :: (nwG (cLst rStr) (z1.1.1) q2.1 ++ ([] : OS))) : OS))) hx_bl () (fun _ => rfl) (fun z q v S H st ow pv => ⟨(), S, st, trivial, pv⟩)) (
  hb_seqY (as1 := (fun (l13 : Unit) => [some (VP.at true (rLst K (rLst K rStr)) (x.1)), some (VP.at true (rLst K (rTup K (RT.cons rStr (RT.one rStr)))) (x.2)), some (VP.ptr q2.1.1), some (VP.ptr q2.2), none, some (VP.at true rInt (z6.1)), none, none, none])) (os1 := fun _ => ((⟨q2.2, cLst (rTup K (RT.cons rInt (RT.cons rInt (RT.one rInt)))) (z1.1.2), true⟩ : OE) :: (nwG (cLst rStr) (z1.1.1) q2.1 ++ ([] : OS)))) (kr := (fun r => r)) (hs_pkR (PR := fun r => VP.at true rBl r) (fun (r : Bool) => r) (as' := [some (VP.at true (rLst K (rLst K rStr)) (x.1)), some (VP.at true (rLst K (rTup K (RT.cons rStr (RT.one rStr)))) (x.2)), some (VP.bo q2.1.1 (VP.at false (rLst K (rLst K rStr)) (z1.1.1))), some (VP.ptr q2.2), none, some (VP.at true rInt (z6.1)), none, none, none]) (as1 := (fun l13 => [some (VP.at true (rLst K (rLst K rStr)) (x.1)), some (VP.at true (rLst K (rTup K (RT.cons rStr (RT.one rStr)))) (x.2)), some (VP.bo q2.1.1 (VP.at false (rLst K (rLst K rStr)) (z1.1.1))), some (VP.ptr q2.2), none, some (VP.at true rInt (z6.1)), none, none, none])) (by exact ⟨.same, ⟨.same, ⟨pb_grp (r := rStr) (q := q2.1.1) (ps := q2.1.2) ([⟨q2.2, cLst (rTup K (RT.cons rInt (RT.cons rInt (RT.one rInt)))) (z1.1.2), true⟩] : OS) ([] : OS), ⟨.same, ⟨.no, ⟨.same, ⟨.no, ⟨.no, ⟨.no, trivial⟩⟩⟩⟩⟩⟩⟩⟩⟩) (fun _ => hs_for (ς := Unit) (O := fun _ => ([] : OS)) (P := VP.at false (rTup K (RT.cons rInt (RT.one (rLst K rStr))))) (l0 := fun _ => ()) (asL := (fun l13 => [some (VP.at true (rLst K (rLst K rStr)) (x.1)), some (VP.at true (rLst K (rTup K (RT.cons rStr (RT.one rStr)))) (x.2)), some (VP.bo q2.1.1 (VP.at false (rLst K (rLst K rStr)) (z1.1.1))), some (VP.ptr q2.2), none, some (VP.at true rInt (z6.1)), none, none, none])) (osL := fun _ => []) (f := (_law_settled_right_b19 x z1)) (Ok.pk o _) (hi_enum bi.enumerate (hx_bo (w := false) (r := (rLst K (rLst K rStr))) 2)) () (fun _ => ⟨.inr rfl, ⟨.inr rfl, ⟨.inr rfl, ⟨.inr rfl, ⟨.inl rfl, ⟨.inr rfl, ⟨.inl rfl, ⟨.inl rfl, ⟨.inl rfl, trivial⟩⟩⟩⟩⟩⟩⟩⟩⟩) (fun _ => rfl) (fun l13 a14 => (htg_tup (t := (RT.cons rInt (RT.one (rLst K rStr)))) (by exact o.calm) (htgs_cons (htg_name 7 (by exact o.nd)) (htgs_cons (htg_name 4 (by exact o.nd)) htgs_nil)))) (fun l13 a14 =>
  hb_forY (kr := (fun r => Oc.rt r)) (ς := Unit) (O := (fun (_ : Unit) => ([] : OS))) (P := VP.at true rInt) (l0 := (fun (s : Unit) => ())) (asL := (fun l16 => [some (VP.at true (rLst K (rLst K rStr)) (x.1)), some (VP.at true (rLst K (rTup K (RT.cons rStr (RT.one rStr)))) (x.2)), some (VP.bo q2.1.1 (VP.at false (rLst K (rLst K rStr)) (z1.1.1))), some (VP.ptr q2.2), some (VP.at false (rLst K rStr) (a14.2)), some (VP.at true rInt (z6.1)), none, some (VP.at false rInt (a14.1)), none])) (osL := (fun l16 => ([] : OS))) (f := (_law_settled_right_b18 x z1 a14)) (Ok.pk o _) (hi_range1 bi.range (hx_sub (hx_lenL bi.len (hx_var (w := false) (r := (rLst K rStr)) 4)) hx_int)) () (by exact fun _ => ⟨.inr rfl, ⟨.inr rfl, ⟨.inr rfl, ⟨.inr rfl, ⟨.inr rfl, ⟨.inr rfl, ⟨.inl rfl, ⟨.inr rfl, ⟨.inl rfl, trivial⟩⟩⟩⟩⟩⟩⟩⟩⟩) (fun _ => rfl) (fun l16 a17 => (htg_name 8 (by exact o.nd))) (fun l16 a17 =>
  hb_ifR0 (ht_lt (hg_fk fk__law_all_h (Ok.pk o _) (by decide) (ha_cons (P := VP.at false (rLst K (rLst K rStr))) (hx_bor (HG.frzG (f := id) (HG.nilR (nw := fun a q => nwG (cLst rStr) a q) (hg_fk fk__law_changed_h (Ok.pk o _) (by decide) (ha_cons (P := VP.at false (rLst K (rLst K rStr))) (hx_bo (w := false) (r := (rLst K (rLst K rStr))) 2) (ha_cons (P := VP.at true rInt) (hx_fl ffInt (hx_var (w := false) (r := rInt) 7)) (ha_one (P := VP.at true rInt) (hx_var (w := true) (r := rInt) 8)))) (by exact fun _ _ => pg_ptr) (by exact fun _ _ => allF_app allF_nwG allF_nil))))) (ha_one (P := VP.at true (rLst K (rTup K (RT.cons rStr (RT.one rStr))))) (hx_var (w := true) (r := (rLst K (rTup K (RT.cons rStr (RT.one rStr))))) 1))) (by exact fun _ _ => pg_at) (by exact fun _ _ => allF_nil)) (hg_fk fk__law_all_h (Ok.pk o _) (by decide) (ha_cons (P := VP.at false (rLst K (rLst K rStr))) (hx_bo (w := false) (r := (rLst K (rLst K rStr))) 2) (ha_one (P := VP.at true (rLst K (rTup K (RT.cons rStr (RT.one rStr))))) (hx_var (w := true) (r := (rLst K (rTup K (RT.cons rStr (RT.one rStr))))) 1))) (by exact fun _ _ => pg_at) (by exact fun _ _ => allF_nil))) (
  hb_ret (ς := Unit) (O := (fun (_ : Unit) => ([] : OS))) hx_bl () (fun _ => rfl) (fun z q v S H st ow pv => ⟨S, st, pv⟩)) (
  hb_endO (as' := (fun l16 => [some (VP.at true (rLst K (rLst K rStr)) (x.1)), some (VP.at true (rLst K (rTup K (RT.cons rStr (RT.one rStr)))) (x.2)), some (VP.bo q2.1.1 (VP.at false (rLst K (rLst K rStr)) (z1.1.1))), some (VP.ptr q2.2), some (VP.at false (rLst K rStr) (a14.2)), some (VP.at true rInt (z6.1)), none, some (VP.at false rInt (a14.1)), none])) (os' := (fun l16 => ([] : OS))) (l := ()) (by exact ⟨.inr rfl, ⟨.inr rfl, ⟨.inr rfl, ⟨.inr rfl, ⟨.inr rfl, ⟨.inr rfl, ⟨.inl rfl, ⟨.inr rfl, ⟨.inl rfl, trivial⟩⟩⟩⟩⟩⟩⟩⟩⟩))) (fun l16 =>
  hb_endO (as' := (fun l13 => [some (VP.at true (rLst K (rLst K rStr)) (x.1)), some (VP.at true (rLst K (rTup K (RT.cons rStr (RT.one rStr)))) (x.2)), some (VP.bo q2.1.1 (VP.at false (rLst K (rLst K rStr)) (z1.1.1))), some (VP.ptr q2.2), none, some (VP.at true rInt (z6.1)), none, none, none])) (os' := (fun l13 => ([] : OS))) (l := ()) (by exact ⟨.inr rfl, ⟨.inr rfl, ⟨.inr rfl, ⟨.inr rfl, ⟨.inl rfl, ⟨.inr rfl, ⟨.inl rfl, ⟨.inl rfl, ⟨.inl rfl, trivial⟩⟩⟩⟩⟩⟩⟩⟩⟩)))) (by exact fun l13 => ⟨.go pg_at, ⟨.go pg_at, ⟨.bo, ⟨.go pg_ptr, ⟨.no, ⟨.go pg_at, ⟨.no, ⟨.no, ⟨.no, trivial⟩⟩⟩⟩⟩⟩⟩⟩⟩) (fun _ => pg_at) (fun r v S H st ow pv => ⟨(), S, st, trivial, pv⟩)) (fun l13 =>
  hb_expr (ς := (List (List Str))) (O := (fun (s : (List (List Str))) => (((⟨q2.2, cLst (rTup K (RT.cons rInt (RT.cons rInt (RT.one rInt)))) (z1.1.2), true⟩ : OE) :: (nwG (cLst rStr) (s) q2.1 ++ ([] : OS))) : OS))) (hx_mutG (q0 := q2.1.1) (ps := q2.1.2) PySem.F.slot_list_append PySem.F.type_list_append mt_append (ov_app (rp := rStr)) 2 (fun (s : (List (List Str))) => ([⟨q2.2, cLst (rTup K (RT.cons rInt (RT.cons rInt (RT.one rInt)))) (z1.1.2), true⟩] : OS)) (fun (_ : (List (List Str))) => ([] : OS)) (fun (s : (List (List Str))) => s) (fun (s : (List (List Str))) (d : (List (List Str))) => (d)) hx_int (ha_one (P := VP.at true rStr) hx_str)) (z1.1.1) (fun z20 q21 =>
  hb_expr (ς := (List (Int × Int × Int))) (O := (fun (s : (List (Int × Int × Int))) => (((⟨q2.2, cLst (rTup K (RT.cons rInt (RT.cons rInt (RT.one rInt)))) (s), true⟩ : OE) :: (nwG (cLst rStr) (z20.2) q2.1 ++ ([] : OS))) : OS))) (hx_mutL0 PySem.F.slot_list_clear PySem.F.type_list_clear mt_clear (ov_clr (rp := (rTup K (RT.cons rInt (RT.cons rInt (RT.one rInt)))))) 3 0 (fun (s : (List (Int × Int × Int))) => s) (fun (s : (List (Int × Int × Int))) (d : (List (Int × Int × Int))) => (d))) (z1.1.2) (fun z22 q23 =>
  hb_ret (ς := Unit) (O := (fun (_ : Unit) => (((⟨q2.2, cLst (rTup K (RT.cons rInt (RT.cons rInt (RT.one rInt)))) (z22.2), true⟩ : OE) :: (nwG (cLst rStr) (z20.2) q2.1 ++ ([] : OS))) : OS))) hx_bl () (fun _ => rfl) (fun z q v S H st ow pv => ⟨(), S, st, trivial, pv⟩))))))))))) (fun _ _ _ _ _ _ us hl => match us, hl with | [_, _], _ => rfl)
abbrev s__law_least_right : Stmt := top 42
theorem sc__law_least_right : FnScope ["rows", "lines", "x", "k", "some", "line", "number", "order", "table", "costs"] ["rows", "lines", "x"] (defScope s__law_least_right) := ⟨rfl, rfl, rfl, by decide +kernel, rfl, by decide +kernel, by decide +kernel⟩
def _law_least_right (x : ((List (List Str)) × (List (Str × Str)) × Int)) : R Bool :=
  ((SM.map2 ltB (SM.map1 (fun xs => (xs.length : Int)) (SM.ret x.1)) (SM.ret (2 : Int))) ()).bind fun z => if z.1 = true then
  ((SM.ret true) ()).bind fun z => R.ok z.1 else
  ((SM.bnd2 modR (SM.ret x.2.2) (SM.map2 (· - ·) (SM.map1 (fun xs => (xs.length : Int)) (SM.ret x.1)) (SM.ret (1 : Int)))) ()).bind fun z1 =>
  ((SM.lc (SM.ret x.2.1) (fun (a4 : (Str × Str)) => (SM.map2 inL (SM.map1 (fun (x : (Str × Str)) => x.1) (SM.ret a4)) (SM.bnd2 getI (SM.ret x.1) (SM.ret z1.1)))) (fun a4 => (SM.ret a4))) ()).bind fun z3 =>
  ((SM.bnd1 (fun z => (least_order z).calm) (SM.map2 Prod.mk (SM.bnd2 getI (SM.ret x.1) (SM.ret z1.1)) (SM.map2 Prod.mk (SM.bnd2 getI (SM.ret x.1) (SM.map2 (· + ·) (SM.ret z1.1) (SM.ret (1 : Int)))) (SM.ret z3.1)))) ()).bind fun z5 =>
  ((SM.bnd1 (fun z => (_law_costs z).calm) (SM.map2 Prod.mk (SM.bnd2 getI (SM.ret x.1) (SM.ret z1.1)) (SM.map2 Prod.mk (SM.bnd2 getI (SM.ret x.1) (SM.map2 (· + ·) (SM.ret z1.1) (SM.ret (1 : Int)))) (SM.ret z3.1)))) ()).bind fun z7 =>
  ((SM.pk fun t9 => (SM.not (SM.bnd1 (fun z => (_law_closed z).calm) (SM.map2 Prod.mk (SM.ret z5.1.2.2) (SM.ret z7.1))))) ()).bind fun z => if z.1 = true then
  ((SM.ret false) ()).bind fun z => R.ok z.1 else
  ((SM.pk fun t10 => (SM.map2 neOI (SM.bnd1 (fun z => (_law_ordered z).calm) (SM.map2 Prod.mk (SM.ret z5.1.2.1) (SM.map2 Prod.mk (SM.bnd2 getI (SM.ret x.1) (SM.map2 (· + ·) (SM.ret z1.1) (SM.ret (1 : Int)))) (SM.ret z7.1)))) (SM.ret z5.1.1))) ()).bind fun z => if z.1 = true then
  ((SM.ret false) ()).bind fun z => R.ok z.1 else
  ((SM.pk fun t11 => (SM.map2 neB (SM.ret z5.1.1) (SM.bnd2 (fun d k => R.ofO (dget d k)) (SM.ret z5.1.2.2) (SM.map2 (· - ·) (SM.bnd2 shlR (SM.ret (1 : Int)) (SM.map1 (fun xs => (xs.length : Int)) (SM.ret z7.1))) (SM.ret (1 : Int)))))) ()).bind fun z => if z.1 = true then
  ((SM.ret false) ()).bind fun z => R.ok z.1 else
  ((fun s => (clrR ((fun (s : (List Str)) => s) s)).bind fun r => R.ok (r.1, (fun (s : (List Str)) (d : (List Str)) => (d)) s r.2)) (z5.1.2.1)).bind fun z12 =>
  ((fun s => R.ok ((), (fun (s : (List (Int × Int))) (d : (List (Int × Int))) => (d)) s [])) (z5.1.2.2)).bind fun z14 =>
  ((SM.ret true) ()).bind fun z => R.ok z.1
abbrev _law_least_right_sp (K : PySem.W.Frag) : Sp := (spF (π0 := Unit) (π := Unit) noX (fun (x : ((List (List Str)) × (List (Str × Str)) × Int)) _ => [VP.at true (rLst K (rLst K rStr)) (x.1), VP.at true (rLst K (rTup K (RT.cons rStr (RT.one rStr)))) (x.2.1), VP.at true rInt (x.2.2)]) (fun _ _ => []) _law_least_right (fun (r : Bool) q => VP.at true rBl r) (fun _ _ => []) fun r q => ([] : OS))
theorem fk__law_least_right (bi : Bi mg) (D : Dfd K mg "_law_least_right" s__law_least_right) (fk_least_order_h : Fk P w K mg base 3 "least_order" ["fixed", "free", "lines"] (least_order_sp K)) (fk__law_costs_h : Fk P w K mg base 2 "_law_costs" ["fixed", "free", "lines"] (_law_costs_sp K)) (fk__law_closed_h : Fk P w K mg base 2 "_law_closed" ["table", "costs"] (_law_closed_sp K)) (fk__law_ordered_h : Fk P w K mg base 1 "_law_ordered" ["order", "free", "costs"] (_law_ordered_sp K)) : Fk P w K mg base 4 "_law_least_right" ["rows", "lines", "x"] (_law_least_right_sp K) :=
  mkFk D (fun fd F => fd_ok F sc__law_least_right 7 (fun _ _ => rfl) rfl fun cdv A outer s H E B x q0 o =>
  hb_ifR0 (ht_lt (hx_lenL bi.len (hx_var (w := true) (r := (rLst K (rLst K rStr))) 0)) hx_int) (
  hb_ret (ς := Unit) (O := (fun (_ : Unit) => ([] : OS))) hx_bl () (fun _ => rfl) (fun z q v S H st ow pv => ⟨(), S, st, trivial, pv⟩)) (
  hb_asg (ς := Unit) (O := (fun (_ : Unit) => ([] : OS))) 3 o.nd (hx_mod (hx_var (w := true) (r := rInt) 2) (hx_sub (hx_lenL bi.len (hx_var (w := true) (r := (rLst K (rLst K rStr))) 0)) hx_int)) () (fun z1 q2 =>
  hb_lcF (r := (rTup K (RT.cons rStr (RT.one rStr)))) (ς := Unit) (O := (fun (_ : Unit) => ([] : OS))) 4 o (Lcp.mk ⟨VP.at true (rTup K (RT.cons rStr (RT.one rStr))), [5], _, (hi_list (hx_var (w := true) (r := (rLst K (rTup K (RT.cons rStr (RT.one rStr))))) 1)), blkOk_by (own := [("line", 5)]) (by rfl), (by decide), fun _ _ _ _ _ _ a4 => (htg_name 5 (by exact o.nd)), fun _ _ _ _ _ _ a4 => (hts_one (ht_inL frStr (hx_tix (t := (RT.cons rStr (RT.one rStr))) (k := 0) (f := (fun (x : (Str × Str)) => x.1)) tg_0 (hx_var (w := true) (r := (rTup K (RT.cons rStr (RT.one rStr)))) 5)) (hx_idx (hx_var (w := true) (r := (rLst K (rLst K rStr))) 0) (hx_var (w := true) (r := rInt) 3)))), fun _ _ _ _ _ _ a4 => (hx_var (w := true) (r := (rTup K (RT.cons rStr (RT.one rStr)))) 5)⟩) () (fun z3 =>
  hb_asgT (ς := Unit) (O := (fun (_ : Unit) => ([] : OS))) (hg_fk fk_least_order_h o (by decide) (ha_cons (P := VP.at true (rLst K rStr)) (hx_idx (hx_var (w := true) (r := (rLst K (rLst K rStr))) 0) (hx_var (w := true) (r := rInt) 3)) (ha_cons (P := VP.at true (rLst K rStr)) (hx_idx (hx_var (w := true) (r := (rLst K (rLst K rStr))) 0) (hx_add (hx_var (w := true) (r := rInt) 3) hx_int)) (ha_one (P := VP.at true (rLst K (rTup K (RT.cons rStr (RT.one rStr))))) (hx_var (w := true) (r := (rLst K (rTup K (RT.cons rStr (RT.one rStr))))) 4)))) (by exact fun _ _ => pg_tup (pgs_c pg_at (pgs_c pg_ptr (pgs_c pg_ptr pgs_n)))) (by exact fun _ _ => (allF_cons (allF_cons allF_nil)))) () (fun _ _ => (htg_tupV o.calm (htgs_cons (htg_name 6 o.nd) (htgs_cons (htg_name 7 o.nd) (htgs_cons (htg_name 8 o.nd) htgs_nil))))) (fun z5 q6 =>
  hb_asg (ς := Unit) (O := (fun (_ : Unit) => ([⟨q6.1, cLst rStr (z5.1.2.1), true⟩, ⟨q6.2, cDic kInt rInt (z5.1.2.2), true⟩] : OS))) 9 o.nd (hg_fk fk__law_costs_h o (by decide) (ha_cons (P := VP.at false (rLst K rStr)) (hx_bor (hx_idx (hx_var (w := true) (r := (rLst K (rLst K rStr))) 0) (hx_var (w := true) (r := rInt) 3))) (ha_cons (P := VP.at false (rLst K rStr)) (hx_bor (hx_idx (hx_var (w := true) (r := (rLst K (rLst K rStr))) 0) (hx_add (hx_var (w := true) (r := rInt) 3) hx_int))) (ha_one (P := VP.at true (rLst K (rTup K (RT.cons rStr (RT.one rStr))))) (hx_var (w := true) (r := (rLst K (rTup K (RT.cons rStr (RT.one rStr))))) 4)))) (by exact fun _ _ => pg_at) (by exact fun _ _ => allF_nil)) () (fun z7 q8 =>
  hb_ifR0 (ht_pk (fun (t9 : Unit) => [none, none, none, none, none, none, none, none, some (VP.at false (rDic kInt rInt) (z5.1.2.2)), some (VP.at true (rLst K (rLst K rInt)) (z7.1))]) (by exact fun _ => ⟨.no, ⟨.no, ⟨.no, ⟨.no, ⟨.no, ⟨.no, ⟨.no, ⟨.no, ⟨pk_dic 1, ⟨.same, trivial⟩⟩⟩⟩⟩⟩⟩⟩⟩⟩) fun _ _ => (ht_not (ht_val (hg_fk fk__law_closed_h (Ok.pk o _) (by decide) (ha_cons (P := VP.at false (rDic kInt rInt)) (hx_var (w := false) (r := (rDic kInt rInt)) 8) (ha_one (P := VP.at true (rLst K (rLst K rInt))) (hx_var (w := true) (r := (rLst K (rLst K rInt))) 9))) (by exact fun _ _ => pg_at) (by exact fun _ _ => allF_nil))))) (
  hb_ret (ς := Unit) (O := (fun (_ : Unit) => ([⟨q6.1, cLst rStr (z5.1.2.1), true⟩, ⟨q6.2, cDic kInt rInt (z5.1.2.2), true⟩] : OS))) hx_bl () (fun _ => rfl) (fun z q v S H st ow pv => ⟨(), S, st, trivial, pv⟩)) (
  hb_ifR0 (ht_pk (fun (t10 : Unit) => [some (VP.at true (rLst K (rLst K rStr)) (x.1)), none, none, some (VP.at true rInt (z1.1)), none, none, some (VP.at true rInt (z5.1.1)), some (VP.at false (rLst K rStr) (z5.1.2.1)), none, some (VP.at true (rLst K (rLst K rInt)) (z7.1))]) (by exact fun _ => ⟨.same, ⟨.no, ⟨.no, ⟨.same, ⟨.no, ⟨.no, ⟨.same, ⟨pk_lst 0, ⟨.no, ⟨.same, trivial⟩⟩⟩⟩⟩⟩⟩⟩⟩⟩) fun _ _ => (ht_neOI (hg_fk fk__law_ordered_h (Ok.pk o _) (by decide) (ha_cons (P := VP.at false (rLst K rStr)) (hx_var (w := false) (r := (rLst K rStr)) 7) (ha_cons (P := VP.at false (rLst K rStr)) (hx_bor (hx_idx (hx_var (w := true) (r := (rLst K (rLst K rStr))) 0) (hx_add (hx_var (w := true) (r := rInt) 3) hx_int))) (ha_one (P := VP.at true (rLst K (rLst K rInt))) (hx_var (w := true) (r := (rLst K (rLst K rInt))) 9)))) (by exact fun _ _ => pg_at) (by exact fun _ _ => allF_nil)) (hx_var (w := true) (r := rInt) 6))) (
  hb_ret (ς := Unit) (O := (fun (_ : Unit) => ([⟨q6.1, cLst rStr (z5.1.2.1), true⟩, ⟨q6.2, cDic kInt rInt (z5.1.2.2), true⟩] : OS))) hx_bl () (fun _ => rfl) (fun z q v S H st ow pv => ⟨(), S, st, trivial, pv⟩)) (
  hb_ifR0 (ht_pk (fun (t11 : Unit) => [none, none, none, none, none, none, some (VP.at true rInt (z5.1.1)), none, some (VP.at false (rDic kInt rInt) (z5.1.2.2)), some (VP.at true (rLst K (rLst K rInt)) (z7.1))]) (by exact fun _ => ⟨.no, ⟨.no, ⟨.no, ⟨.no, ⟨.no, ⟨.no, ⟨.same, ⟨.no, ⟨pk_dic 1, ⟨.same, trivial⟩⟩⟩⟩⟩⟩⟩⟩⟩⟩) fun _ _ => (ht_ne (hx_var (w := true) (r := rInt) 6) (hx_fl ffInt (hx_dget (Ok.pk o _) (hx_var (w := false) (r := (rDic kInt rInt)) 8) (hx_sub (hx_shl hx_int (hx_lenL bi.len (hx_var (w := true) (r := (rLst K (rLst K rInt))) 9))) hx_int))))) (
  hb_ret (ς := Unit) (O := (fun (_ : Unit) => ([⟨q6.1, cLst rStr (z5.1.2.1), true⟩, ⟨q6.2, cDic kInt rInt (z5.1.2.2), true⟩] : OS))) hx_bl () (fun _ => rfl) (fun z q v S H st ow pv => ⟨(), S, st, trivial, pv⟩)) (
  hb_expr (ς := (List Str)) (O := (fun (s : (List Str)) => ([⟨q6.1, cLst rStr (s), true⟩, ⟨q6.2, cDic kInt rInt (z5.1.2.2), true⟩] : OS))) (hx_mutL0 PySem.F.slot_list_clear PySem.F.type_list_clear mt_clear (ov_clr (rp := rStr)) 7 0 (fun (s : (List Str)) => s) (fun (s : (List Str)) (d : (List Str)) => (d))) (z5.1.2.1) (fun z12 q13 =>
  hb_expr (ς := (List (Int × Int))) (O := (fun (s : (List (Int × Int))) => ([⟨q6.1, cLst rStr (z12.2), true⟩, ⟨q6.2, cDic kInt rInt (s), true⟩] : OS))) (hx_dclear (kk := kInt) (r := rInt) 8 1 (fun (s : (List (Int × Int))) => s) (fun (s : (List (Int × Int))) (d : (List (Int × Int))) => (d))) (z5.1.2.2) (fun z14 q15 =>
  hb_ret (ς := Unit) (O := (fun (_ : Unit) => ([⟨q6.1, cLst rStr (z12.2), true⟩, ⟨q6.2, cDic kInt rInt (z14.2), true⟩] : OS))) hx_bl () (fun _ => rfl) (fun z q v S H st ow pv => ⟨(), S, st, trivial, pv⟩)))))))))))) (fun _ _ _ _ _ _ us hl => match us, hl with | [_, _, _], _ => rfl)
abbrev s__law_asked : Stmt := top 43
theorem sc__law_asked : FnScope ["rows", "lines", "cell", "known", "way"] ["rows", "lines", "cell", "known"] (defScope s__law_asked) := ⟨rfl, rfl, rfl, by decide +kernel, rfl, by decide +kernel, by decide +kernel⟩
def _law_asked (x : ((List (List Str)) × (List (Str × Str)) × Int × (List (Int × (List (List Str)))))) : R (Bool × (List (Int × (List (List Str))))) :=
  ((SM.bnd2 modR (SM.bnd1 (fun z => (_law_mix z).calm) (SM.map2 Prod.mk (SM.ret x.2.2.1) (SM.ret (5 : Int)))) (SM.ret (5 : Int))) ()).bind fun z1 =>
  ((SM.map2 eqB (SM.ret z1.1) (SM.ret (0 : Int))) ()).bind fun z => if z.1 = true then
  ((SM.bnd1 (fun z => (_law_counted z).calm) (SM.map2 Prod.mk (SM.ret x.1) (SM.ret x.2.1))) ()).bind fun z => R.ok ((z.1, x.2.2.2)) else
  ((SM.map2 eqB (SM.ret z1.1) (SM.ret (1 : Int))) ()).bind fun z => if z.1 = true then
  ((fun s => ((SM.map2 Prod.mk (SM.ret x.1) (SM.map2 Prod.mk (SM.ret x.2.1) (SM.map2 Prod.mk (SM.bnd2 modR (SM.bnd1 (fun z => (_law_mix z).calm) (SM.map2 Prod.mk (SM.ret x.2.2.1) (SM.ret (7 : Int)))) (SM.ret (5 : Int))) (SM.ret ())))) s).bind fun z => (_law_swept_right ((fun (z : ((List (List Str)) × (List (Str × Str)) × Int × Unit)) (s : (List (Int × (List (List Str))))) => (z.1, z.2.1, z.2.2.1, s)) z.1 z.2)).calm.bind fun r => R.ok (r.1, (fun (s : (List (Int × (List (List Str))))) (d : (List (Int × (List (List Str))))) => (d)) z.2 r.2)) (x.2.2.2)).bind fun z => R.ok ((z.1, z.2)) else
  ((SM.map2 ltB (SM.ret z1.1) (SM.ret (4 : Int))) ()).bind fun z => if z.1 = true then
  ((SM.bnd1 (fun z => (_law_settled_right z).calm) (SM.map2 Prod.mk (SM.ret x.1) (SM.ret x.2.1))) ()).bind fun z => R.ok ((z.1, x.2.2.2)) else
  ((SM.bnd1 (fun z => (_law_least_right z).calm) (SM.map2 Prod.mk (SM.ret x.1) (SM.map2 Prod.mk (SM.ret x.2.1) (SM.bnd1 (fun z => (_law_mix z).calm) (SM.map2 Prod.mk (SM.ret x.2.2.1) (SM.ret (9 : Int))))))) ()).bind fun z => R.ok ((z.1, x.2.2.2))
abbrev _law_asked_sp (K : PySem.W.Frag) : Sp := (spG (π0 := Addr) (π := Unit) noX (fun (x : ((List (List Str)) × (List (Str × Str)) × Int × (List (Int × (List (List Str)))))) q0 => [VP.at true (rLst K (rLst K rStr)) (x.1), VP.at true (rLst K (rTup K (RT.cons rStr (RT.one rStr)))) (x.2.1), VP.at true rInt (x.2.2.1), VP.ptr q0]) (fun (x : ((List (List Str)) × (List (Str × Str)) × Int × (List (Int × (List (List Str)))))) q0 => ([⟨q0, cDic kInt (rLst K (rLst K rStr)) (x.2.2.2), false⟩] : OS)) _law_asked (fun (r : Bool) q => VP.at true rBl r) (fun (d : (List (Int × (List (List Str))))) q0 => ([⟨q0, cDic kInt (rLst K (rLst K rStr)) (d), false⟩] : OS)) (fun (r : Bool) q => ([] : OS)))
theorem fk__law_asked (bi : Bi mg) (D : Dfd K mg "_law_asked" s__law_asked) (fk__law_mix_h : Fk P w K mg base 1 "_law_mix" ["cell", "k"] (_law_mix_sp K)) (fk__law_counted_h : Fk P w K mg base 4 "_law_counted" ["rows", "lines"] (_law_counted_sp K)) (fk__law_swept_right_h : Fk P w K mg base 5 "_law_swept_right" ["rows", "lines", "turns", "known"] (_law_swept_right_sp K)) (fk__law_settled_right_h : Fk P w K mg base 5 "_law_settled_right" ["rows", "lines"] (_law_settled_right_sp K)) (fk__law_least_right_h : Fk P w K mg base 4 "_law_least_right" ["rows", "lines", "x"] (_law_least_right_sp K)) : Fk P w K mg base 6 "_law_asked" ["rows", "lines", "cell", "known"] (_law_asked_sp K) :=
  mkFk D (fun fd F => fd_ok F sc__law_asked 1 (fun _ _ => rfl) rfl fun cdv A outer s H E B x q0 o =>
  hb_asg (ς := Unit) (O := (fun (_ : Unit) => ([⟨q0, cDic kInt (rLst K (rLst K rStr)) (x.2.2.2), false⟩] : OS))) 4 o.nd (hx_mod (hg_fk fk__law_mix_h o (by decide) (ha_cons (P := VP.at true rInt) (hx_var (w := true) (r := rInt) 2) (ha_one (P := VP.at true rInt) hx_int)) (by exact fun _ _ => pg_at) (by exact fun _ _ => allF_nil)) hx_int) () (fun z1 q2 =>
  hb_ifR0 (ht_eq (hx_var (w := true) (r := rInt) 4) hx_int) (
  hb_ret (ς := Unit) (O := (fun (_ : Unit) => ([⟨q0, cDic kInt (rLst K (rLst K rStr)) (x.2.2.2), false⟩] : OS))) (hg_fk fk__law_counted_h o (by decide) (ha_cons (P := VP.at true (rLst K (rLst K rStr))) (hx_var (w := true) (r := (rLst K (rLst K rStr))) 0) (ha_one (P := VP.at true (rLst K (rTup K (RT.cons rStr (RT.one rStr))))) (hx_var (w := true) (r := (rLst K (rTup K (RT.cons rStr (RT.one rStr))))) 1))) (by exact fun _ _ => pg_at) (by exact fun _ _ => allF_nil)) () (fun _ => rfl) (fun z q v S H st ow pv => ⟨(), S, st, ow, pv⟩)) (
  hb_ifR0 (ht_eq (hx_var (w := true) (r := rInt) 4) hx_int) (
  hb_ret (ς := (List (Int × (List (List Str))))) (O := (fun (s : (List (Int × (List (List Str))))) => ([⟨q0, cDic kInt (rLst K (rLst K rStr)) (s), false⟩] : OS))) (hg_fkG fk__law_swept_right_h o (by decide) q0 (fun (z : ((List (List Str)) × (List (Str × Str)) × Int × Unit)) (s : (List (Int × (List (List Str))))) => (z.1, z.2.1, z.2.2.1, s)) (fun (s : (List (Int × (List (List Str))))) (d : (List (Int × (List (List Str))))) => (d)) (fun (s : (List (Int × (List (List Str))))) => ([⟨q0, cDic kInt (rLst K (rLst K rStr)) (s), false⟩] : OS)) (fun (s : (List (Int × (List (List Str))))) => ([] : OS)) (fun (d : (List (Int × (List (List Str))))) => ([⟨q0, cDic kInt (rLst K (rLst K rStr)) (d), false⟩] : OS)) (ha_cons (P := VP.at true (rLst K (rLst K rStr))) (hx_var (w := true) (r := (rLst K (rLst K rStr))) 0) (ha_cons (P := VP.at true (rLst K (rTup K (RT.cons rStr (RT.one rStr))))) (hx_var (w := true) (r := (rLst K (rTup K (RT.cons rStr (RT.one rStr))))) 1) (ha_cons (P := VP.at true rInt) (hx_mod (hg_fk fk__law_mix_h o (by decide) (ha_cons (P := VP.at true rInt) (hx_var (w := true) (r := rInt) 2) (ha_one (P := VP.at true rInt) hx_int)) (by exact fun _ _ => pg_at) (by exact fun _ _ => allF_nil)) hx_int) (ha_one (hx_ptr 3))))) (fun s => (perm_ix (F := ([⟨q0, cDic kInt (rLst K (rLst K rStr)) (s), false⟩] : OS)) [0] (by exact (by decide : ([0] : List Nat).Perm (List.range 1))))) (fun s d => List.Perm.symm (perm_ix (F := ([⟨q0, cDic kInt (rLst K (rLst K rStr)) (d), false⟩] : OS)) [0] (by exact (by decide : ([0] : List Nat).Perm (List.range 1))))) (hf0 := fun _ _ => (ff_cons ff_nil)) (hB := (by exact fun _ _ => pg_at)) (hf := (by exact fun _ _ => allF_nil))) (x.2.2.2) (fun _ => rfl) (fun z q v S H st ow pv => ⟨(), S, st, ow, pv⟩)) (
  hb_ifR0 (ht_lt (hx_var (w := true) (r := rInt) 4) hx_int) (
  hb_ret (ς := Unit) (O := (fun (_ : Unit) => ([⟨q0, cDic kInt (rLst K (rLst K rStr)) (x.2.2.2), false⟩] : OS))) (hg_fk fk__law_settled_right_h o (by decide) (ha_cons (P := VP.at true (rLst K (rLst K rStr))) (hx_var (w := true) (r := (rLst K (rLst K rStr))) 0) (ha_one (P := VP.at true (rLst K (rTup K (RT.cons rStr (RT.one rStr))))) (hx_var (w := true) (r := (rLst K (rTup K (RT.cons rStr (RT.one rStr))))) 1))) (by exact fun _ _ => pg_at) (by exact fun _ _ => allF_nil)) () (fun _ => rfl) (fun z q v S H st ow pv => ⟨(), S, st, ow, pv⟩)) (
  hb_ret (ς := Unit) (O := (fun (_ : Unit) => ([⟨q0, cDic kInt (rLst K (rLst K rStr)) (x.2.2.2), false⟩] : OS))) (hg_fk fk__law_least_right_h o (by decide) (ha_cons (P := VP.at true (rLst K (rLst K rStr))) (hx_var (w := true) (r := (rLst K (rLst K rStr))) 0) (ha_cons (P := VP.at true (rLst K (rTup K (RT.cons rStr (RT.one rStr))))) (hx_var (w := true) (r := (rLst K (rTup K (RT.cons rStr (RT.one rStr))))) 1) (ha_one (P := VP.at true rInt) (hg_fk fk__law_mix_h o (by decide) (ha_cons (P := VP.at true rInt) (hx_var (w := true) (r := rInt) 2) (ha_one (P := VP.at true rInt) hx_int)) (by exact fun _ _ => pg_at) (by exact fun _ _ => allF_nil))))) (by exact fun _ _ => pg_at) (by exact fun _ _ => allF_nil)) () (fun _ => rfl) (fun z q v S H st ow pv => ⟨(), S, st, ow, pv⟩)))))) (fun _ _ _ _ _ _ us hl => match us, hl with | [_, _, _, _], _ => rfl)
abbrev s_law : Stmt := top 44
theorem sc_law : FnScope ["script", "some", "row", "mark", "lines", "k", "kept", "rows", "one", "known", "cell", "turn"] ["script"] (defScope s_law) := ⟨rfl, rfl, rfl, by decide +kernel, rfl, by decide +kernel, by decide +kernel⟩
def law_t28 (s26 : (List (List (Int × (List (List Str)))))) : R (Oc (List (List (Int × (List (List Str))))) Bool) :=
  ((SM.ret false) ()).bind fun z => R.ok ((Oc.rt z.1))
def law_e29 (s6 : (List (List (List Str)))) (z7 : (List (List (Str × Str))) × Unit) (z10 : ((List (List (List Str))) × (List (List (Str × Str)))) × Unit) (s26 : (List (List (Int × (List (List Str)))))) : R (Oc (List (List (Int × (List (List Str))))) Bool) :=
  ((SM.pk fun t27 => (SM.bnd2 (neD ((dqLsH (dtCons (dqLst (dqLst (dqLst dqStr))) (dtOne (dqLst (dqLst (dqTup (dtCons dqStr (dtOne dqStr)))))))) : DQ K0 (rLsH K0 (RT.cons (rLst K0 (rLst K0 (rLst K0 rStr))) (RT.one (rLst K0 (rLst K0 (rTup K0 (RT.cons rStr (RT.one rStr))))))))).can) (SM.map2 Prod.mk (SM.ret s6) (SM.ret z7.1)) (SM.ret z10.1))) ()).bind fun z => if z.1 = true then
  ((SM.ret false) ()).bind fun z => R.ok ((Oc.rt z.1)) else
  R.ok (Oc.nx (s26))
def law_b30 (s6 : (List (List (List Str)))) (z7 : (List (List (Str × Str))) × Unit) (z10 : ((List (List (List Str))) × (List (List (Str × Str)))) × Unit) (a20 : Int) (z21 : Int × Unit) (l24 : (List (List (Int × (List (List Str)))))) (a25 : Int) : R (Oc (List (List (Int × (List (List Str))))) Bool) :=
  ((SM.not (fun s => ((SM.map2 Prod.mk (fun s => ((SM.ret z21.1) s).bind fun z => (getI ((fun (s : (List (List (Int × (List (List Str)))))) => s6) z.2) z.1).bind fun y => R.ok (y, z.2)) (SM.map2 Prod.mk (SM.bnd2 getI (SM.ret z7.1) (SM.ret z21.1)) (SM.map2 Prod.mk (SM.ret a20) (fun s => ((SM.ret z21.1) s).bind fun k => (R.ofO (ixN ((fun (s : (List (List (Int × (List (List Str)))))) => s) k.2).length k.1)).bind fun j => R.ok (j, k.2))))) s).bind fun z => (R.ofO ((fun (s : (List (List (Int × (List (List Str)))))) => s) z.2)[(fun (z : ((List (List Str)) × (List (Str × Str)) × Int × Nat)) => z.2.2.2) z.1]?).bind fun d => (_law_asked ((fun (z : ((List (List Str)) × (List (Str × Str)) × Int × Nat)) (d : (List (Int × (List (List Str))))) => (z.1, z.2.1, z.2.2.1, d)) z.1 d)).calm.bind fun r => R.ok (r.1, (fun (s : (List (List (Int × (List (List Str)))))) (d : (List (List (Int × (List (List Str)))))) => (d)) z.2 (((fun (s : (List (List (Int × (List (List Str)))))) => s) z.2).set ((fun (z : ((List (List Str)) × (List (Str × Str)) × Int × Nat)) => z.2.2.2) z.1) r.2)))) (l24)).bind fun z => if z.1 = true then law_t28 z.2 else (law_e29 s6 z7 z10) z.2
def law_b31 (s6 : (List (List (List Str)))) (z7 : (List (List (Str × Str))) × Unit) (z10 : ((List (List (List Str))) × (List (List (Str × Str)))) × Unit) (l19 : (List (List (Int × (List (List Str)))))) (a20 : Int) : R (Oc (List (List (Int × (List (List Str))))) Bool) :=
  ((SM.bnd2 modR (SM.bnd1 (fun z => (_law_mix z).calm) (SM.map2 Prod.mk (SM.ret a20) (SM.ret (3 : Int)))) (SM.ret (2 : Int))) ()).bind fun z21 =>
  ((SM.bnd1 rng1 (SM.ret (2 : Int))) ()).bind fun z23 => (forR (law_b30 s6 z7 z10 a20 z21) (l19) z23.1).bind fun o => ocB o (fun (l24 : (List (List (Int × (List (List Str)))))) =>
  R.ok (Oc.nx (l24))) (fun r => Oc.rt r)
def law (x : (List Int)) : R Bool :=
  ((SM.bnd1 dispR (SM.map2 List.cons (SM.bnd1 (fun z => (_law_rows z).calm) (SM.bnd1 (fun z => (_law_cell_at z).calm) (SM.map2 Prod.mk (SM.ret x) (SM.ret (0 : Int))))) (SM.map2 List.cons (SM.bnd1 (fun z => (_law_rows z).calm) (SM.bnd1 (fun z => (_law_cell_at z).calm) (SM.map2 Prod.mk (SM.ret x) (SM.ret (1 : Int))))) (SM.ret [])))) ()).bind fun z1 =>
  ((SM.bnd2 catL (SM.map3 cutL (SM.pk fun t3 => (SM.lc (SM.bnd2 getI (SM.ret t3) (SM.ret (1 : Int))) (fun (a4 : (List Str)) => (SM.ret true)) (fun a4 => (SM.lc (SM.ret a4) (fun (a5 : Str) => (SM.ret true)) (fun a5 => (SM.bnd2 catS (SM.ret ("-" : Str)) (SM.ret a5))))))) (SM.ret none) (SM.map1 some (SM.ret (3 : Int)))) (SM.bnd1 dispR (SM.map2 List.cons (SM.bnd2 getI (fun s => ((SM.ret (0 : Int)) s).bind fun z => (getI ((fun (s : (List (List (List Str)))) => s) z.2) z.1).bind fun y => R.ok (y, z.2)) (SM.map1 (fun i => -i) (SM.ret (1 : Int)))) (SM.ret [])))) (z1.1)).bind fun z32 => ((SM.ret (1 : Int)) z32.2).bind fun y33 => (setR ((fun (s : (List (List (List Str)))) => s) y33.2) y33.1 z32.1).bind fun l34 => (fun (s6 : (List (List (List Str)))) =>
  ((SM.lc (SM.bnd1 rng1 (SM.ret (2 : Int))) (fun (a9 : Int) => (SM.ret true)) (fun a9 => (SM.bnd1 (fun z => (_law_lines z).calm) (SM.map2 Prod.mk (SM.bnd2 getI (SM.ret s6) (SM.ret a9)) (SM.map3 cutL (SM.ret x) (SM.map1 some (SM.map2 (· + ·) (SM.ret (3 : Int)) (SM.bnd2 mulR (SM.ret (10 : Int)) (SM.ret a9)))) (SM.map1 some (SM.map2 (· + ·) (SM.ret (13 : Int)) (SM.bnd2 mulR (SM.ret (10 : Int)) (SM.ret a9))))))))) ()).calm.bind fun z7 =>
  ((SM.map2 Prod.mk (SM.pk fun t11 => (SM.lc (SM.ret s6) (fun (a12 : (List (List Str))) => (SM.ret true)) (fun a12 => (SM.lc (SM.ret a12) (fun (a13 : (List Str)) => (SM.ret true)) (fun a13 => (SM.map1 id (SM.ret a13))))))) (SM.lc (SM.ret z7.1) (fun (a14 : (List (Str × Str))) => (SM.ret true)) (fun a14 => (SM.map1 id (SM.ret a14))))) ()).bind fun z10 =>
  ((SM.ret ([[], []] : (List (List (Int × (List (List Str))))))) ()).bind fun z16 =>
  ((SM.bnd2 catL (SM.map3 cutL (SM.ret x) (SM.map1 some (SM.ret (23 : Int))) (SM.map1 some (SM.ret (33 : Int)))) (SM.bnd1 dispR (SM.map2 List.cons (SM.bnd1 (fun z => (_law_cell_at z).calm) (SM.map2 Prod.mk (SM.ret x) (SM.ret (2 : Int)))) (SM.map2 List.cons (SM.ret (5 : Int)) (SM.map2 List.cons (SM.ret (6 : Int)) (SM.ret [])))))) ()).bind fun z18 => (forR (law_b31 s6 z7 z10) (z16.1) z18.1).bind fun o => ocB o (fun (l19 : (List (List (Int × (List (List Str)))))) =>
  ((SM.ret true) ()).bind fun z => R.ok z.1) (fun r => r)) (l34)
abbrev law_sp (K : PySem.W.Frag) : Sp := (spF (π0 := Unit) (π := Unit) noX (fun (x : (List Int)) _ => [VP.at true (rLst K rInt) (x)]) (fun _ _ => []) law (fun (r : Bool) q => VP.at true rBl r) (fun _ _ => []) fun r q => ([] : OS))
theorem fk_law (bi : Bi mg) (D : Dfd K mg "law" s_law) (fk__law_rows_h : Fk P w K mg base 2 "_law_rows" ["first"] (_law_rows_sp K)) (fk__law_cell_at_h : Fk P w K mg base 1 "_law_cell_at" ["script", "k"] (_law_cell_at_sp K)) (fk__law_lines_h : Fk P w K mg base 2 "_law_lines" ["rows", "cells"] (_law_lines_sp K)) (fk__law_mix_h : Fk P w K mg base 1 "_law_mix" ["cell", "k"] (_law_mix_sp K)) (fk__law_asked_h : Fk P w K mg base 6 "_law_asked" ["rows", "lines", "cell", "known"] (_law_asked_sp K)) : FkL P w K mg base 7 "law" ["script"] (law_sp K) :=
  mkFkL D (fun fd F => fd_ok F sc_law 11 (fun _ _ => rfl) rfl fun cdv A outer s H E B x q0 o =>
  hb_asg (ς := Unit) (O := (fun (_ : Unit) => ([] : OS))) 1 o.nd (hn_lstD (hl_cons (hg_fk fk__law_rows_h o (by decide) (ha_one (P := VP.at true rInt) (hg_fk fk__law_cell_at_h o (by decide) (ha_cons (P := VP.at true (rLst K rInt)) (hx_var (w := true) (r := (rLst K rInt)) 0) (ha_one (P := VP.at true rInt) hx_int)) (by exact fun _ _ => pg_at) (by exact fun _ _ => allF_nil))) (by exact fun _ _ => pg_at) (by exact fun _ _ => allF_nil)) (hl_cons (hg_fk fk__law_rows_h o (by decide) (ha_one (P := VP.at true rInt) (hg_fk fk__law_cell_at_h o (by decide) (ha_cons (P := VP.at true (rLst K rInt)) (hx_var (w := true) (r := (rLst K rInt)) 0) (ha_one (P := VP.at true rInt) hx_int)) (by exact fun _ _ => pg_at) (by exact fun _ _ => allF_nil))) (by exact fun _ _ => pg_at) (by exact fun _ _ => allF_nil)) (hl_nil)))) () (fun z1 q2 =>
  hb_setL (rp := (rLst K (rLst K rStr))) (ς := (List (List (List Str)))) (O := (fun (s : (List (List (List Str)))) => ([⟨q2, cLst (rLst K (rLst K rStr)) (s), true⟩] : OS))) (kk := fun (s6 : (List (List (List Str)))) => _) 1 0 (fun (s : (List (List (List Str)))) => s) (fun (s : (List (List (List Str)))) (d : (List (List (List Str)))) => (d)) (HG.frzL (f := id) (hn_catL (HG.frzL (f := id) (hn_cut (HG.frzL (f := id) (hn_pk (fun (t3 : (List (List (List Str)))) => [none, some (VP.at false (rLst K (rLst K (rLst K rStr))) (t3)), none, none, none, none, none, none, none, none, none, none]) _ (by exact fun _ => ⟨.no, ⟨pk_lst 0, ⟨.no, ⟨.no, ⟨.no, ⟨.no, ⟨.no, ⟨.no, ⟨.no, ⟨.no, ⟨.no, ⟨.no, trivial⟩⟩⟩⟩⟩⟩⟩⟩⟩⟩⟩⟩) fun _ _ => (hn_lc (r := (rLst K rStr)) (Ok.pk o _) (Lcp.mk ⟨VP.at false (rLst K rStr), [2], _, (hi_list (hx_idx (hx_var (w := false) (r := (rLst K (rLst K (rLst K rStr)))) 1) hx_int)), blkOk_by (own := [("row", 2)]) (by rfl), (by decide), fun _ _ _ _ _ _ a4 => (htg_name 2 (by exact o.nd)), fun _ _ _ _ _ _ a4 => hts_nil, fun _ _ _ _ _ _ a4 => (HG.frzL (f := id) (hn_lc (r := rStr) (Ok.blk (Ok.pk o _)) (Lcp.mk ⟨VP.at false rStr, [3], _, (hi_list (hx_var (w := false) (r := (rLst K rStr)) 2)), blkOk_by (own := [("mark", 3)]) (by rfl), (by decide), fun _ _ _ _ _ _ a5 => (htg_name 3 (by exact o.nd)), fun _ _ _ _ _ _ a5 => hts_nil, fun _ _ _ _ _ _ a5 => (hx_cat hx_str (hx_fl ffStr (hx_var (w := false) (r := rStr) 3)))⟩)))⟩)))) ho_none (ho_some hx_int))) (HG.frzL (f := id) (hn_lstD (hl_cons (hx_idx (hx_idxO 1 0 (fun (s : (List (List (List Str)))) => s) hx_int) (hx_neg hx_int)) (hl_nil)))))) hx_int (z1.1) (fun s6 =>
  hb_lcP (r := (rLst K (rTup K (RT.cons rStr (RT.one rStr))))) 4 o [some (VP.at true (rLst K rInt) (x)), some (VP.at false (rLst K (rLst K (rLst K rStr))) (s6)), none, none, none, none, none, none, none, none, none, none] (by exact ⟨.same, ⟨pk_lst 0, ⟨.no, ⟨.no, ⟨.no, ⟨.no, ⟨.no, ⟨.no, ⟨.no, ⟨.no, ⟨.no, ⟨.no, trivial⟩⟩⟩⟩⟩⟩⟩⟩⟩⟩⟩⟩) (fun _ => (Lcp.mk ⟨VP.at true rInt, [5], _, (hi_range1 bi.range hx_int), blkOk_by (own := [("k", 5)]) (by rfl), (by decide), fun _ _ _ _ _ _ a9 => (htg_name 5 (by exact o.nd)), fun _ _ _ _ _ _ a9 => hts_nil, fun _ _ _ _ _ _ a9 => (hg_fk fk__law_lines_h (Ok.blk (Ok.pk o _)) (by decide) (ha_cons (P := VP.at false (rLst K (rLst K rStr))) (hx_idx (hx_var (w := false) (r := (rLst K (rLst K (rLst K rStr)))) 1) (hx_var (w := true) (r := rInt) 5)) (ha_one (P := VP.at true (rLst K rInt)) (HG.frzL (f := id) (hn_cut (hx_var (w := true) (r := (rLst K rInt)) 0) (ho_some (hx_add hx_int (hx_mul hx_int (hx_var (w := true) (r := rInt) 5)))) (ho_some (hx_add hx_int (hx_mul hx_int (hx_var (w := true) (r := rInt) 5)))))))) (by exact fun _ _ => pg_at) (by exact fun _ _ => allF_nil))⟩)) (fun z7 =>
  hb_asg (ς := Unit) (O := (fun (_ : Unit) => ([⟨q2, cLst (rLst K (rLst K rStr)) (s6), true⟩] : OS))) 6 o.nd (hx_lsH (t := (RT.cons (rLst K (rLst K (rLst K rStr))) (RT.one (rLst K (rLst K (rTup K (RT.cons rStr (RT.one rStr)))))))) (hn := Nat.le_of_ble_eq_true rfl) (ha_cons (P := VP.at true (rLst K (rLst K (rLst K rStr)))) (HG.frzL (f := id) (hn_pk (fun (t11 : Unit) => [none, some (VP.at false (rLst K (rLst K (rLst K rStr))) (s6)), none, none, none, none, none, none, none, none, none, none]) _ (by exact fun _ => ⟨.no, ⟨pk_lst 0, ⟨.no, ⟨.no, ⟨.no, ⟨.no, ⟨.no, ⟨.no, ⟨.no, ⟨.no, ⟨.no, ⟨.no, trivial⟩⟩⟩⟩⟩⟩⟩⟩⟩⟩⟩⟩) fun _ _ => (hn_lc (r := (rLst K (rLst K rStr))) (Ok.pk o _) (Lcp.mk ⟨VP.at false (rLst K (rLst K rStr)), [7], _, (hi_list (hx_var (w := false) (r := (rLst K (rLst K (rLst K rStr)))) 1)), blkOk_by (own := [("rows", 7)]) (by rfl), (by decide), fun _ _ _ _ _ _ a12 => (htg_name 7 (by exact o.nd)), fun _ _ _ _ _ _ a12 => hts_nil, fun _ _ _ _ _ _ a12 => (HG.frzL (f := id) (hn_lc (r := (rLst K rStr)) (Ok.blk (Ok.pk o _)) (Lcp.mk ⟨VP.at false (rLst K rStr), [2], _, (hi_list (hx_var (w := false) (r := (rLst K (rLst K rStr))) 7)), blkOk_by (own := [("row", 2)]) (by rfl), (by decide), fun _ _ _ _ _ _ a13 => (htg_name 2 (by exact o.nd)), fun _ _ _ _ _ _ a13 => hts_nil, fun _ _ _ _ _ _ a13 => (HG.frzL (f := id) (hn_listF ffStr bi.list (hx_var (w := false) (r := (rLst K rStr)) 2)))⟩)))⟩)))) (ha_one (P := VP.at true (rLst K (rLst K (rTup K (RT.cons rStr (RT.one rStr)))))) (HG.frzL (f := id) (hn_lc (r := (rLst K (rTup K (RT.cons rStr (RT.one rStr))))) o (Lcp.mk ⟨VP.at true (rLst K (rTup K (RT.cons rStr (RT.one rStr)))), [8], _, (hi_list (hx_var (w := true) (r := (rLst K (rLst K (rTup K (RT.cons rStr (RT.one rStr)))))) 4)), blkOk_by (own := [("one", 8)]) (by rfl), (by decide), fun _ _ _ _ _ _ a14 => (htg_name 8 (by exact o.nd)), fun _ _ _ _ _ _ a14 => hts_nil, fun _ _ _ _ _ _ a14 => (HG.frzL (f := id) (hn_list bi.list (hx_var (w := true) (r := (rLst K (rTup K (RT.cons rStr (RT.one rStr))))) 8)))⟩)))))) () (fun z10 q15 =>
  hb_asg (ς := Unit) (O := (fun (_ : Unit) => ([⟨q2, cLst (rLst K (rLst K rStr)) (s6), true⟩] : OS))) 9 o.nd (hg_dd (kk := kInt) (r := (rLst K (rLst K rStr)))) () (fun z16 q17 =>
  hb_perm (perm_gr (nwG (cDic kInt (rLst K (rLst K rStr))) (z16.1) q17) [⟨q2, cLst (rLst K (rLst K rStr)) (s6), true⟩] ([] : OS)) (hb_forY (kr := (fun r => r)) (ς := Unit) (O := (fun (_ : Unit) => (((⟨q2, cLst (rLst K (rLst K rStr)) (s6), true⟩ : OE) :: (nwG (cDic kInt (rLst K (rLst K rStr))) (z16.1) q17 ++ ([] : OS))) : OS))) (P := VP.at true rInt) (l0 := (fun (s : Unit) => (z16.1))) (asL := (fun l19 => [some (VP.at true (rLst K rInt) (x)), some (VP.ptr q2), none, none, some (VP.at true (rLst K (rLst K (rTup K (RT.cons rStr (RT.one rStr))))) (z7.1)), none, some (VP.at true (rLsH K (RT.cons (rLst K (rLst K (rLst K rStr))) (RT.one (rLst K (rLst K (rTup K (RT.cons rStr (RT.one rStr)))))))) (z10.1)), none, none, some (VP.ptr q17.1), none, none])) (osL := (fun l19 => (((⟨q2, cLst (rLst K (rLst K rStr)) (s6), true⟩ : OE) :: (nwG (cDic kInt (rLst K (rLst K rStr))) (l19) q17 ++ ([] : OS))) : OS))) (f := (law_b31 s6 z7 z10)) o (hi_list (HG.frzL (f := id) (hn_catL (HG.frzL (f := id) (hn_cut (hx_var (w := true) (r := (rLst K rInt)) 0) (ho_some hx_int) (ho_some hx_int))) (HG.frzL (f := id) (hn_lstD (hl_cons (hg_fk fk__law_cell_at_h o (by decide) (ha_cons (P := VP.at true (rLst K rInt)) (hx_var (w := true) (r := (rLst K rInt)) 0) (ha_one (P := VP.at true rInt) hx_int)) (by exact fun _ _ => pg_at) (by exact fun _ _ => allF_nil)) (hl_cons hx_int (hl_cons hx_int (hl_nil))))))))) () (by exact fun _ => ⟨.inr rfl, ⟨.inr rfl, ⟨.inl rfl, ⟨.inl rfl, ⟨.inr rfl, ⟨.inl rfl, ⟨.inr rfl, ⟨.inl rfl, ⟨.inl rfl, ⟨.inr rfl, ⟨.inl rfl, ⟨.inl rfl, trivial⟩⟩⟩⟩⟩⟩⟩⟩⟩⟩⟩⟩) (fun _ => rfl) (fun l19 a20 => (htg_name 10 (by exact o.nd))) (fun l19 a20 =>
  hb_asg (ς := Unit) (O := (fun (_ : Unit) => (((⟨q2, cLst (rLst K (rLst K rStr)) (s6), true⟩ : OE) :: (nwG (cDic kInt (rLst K (rLst K rStr))) (l19) q17 ++ ([] : OS))) : OS))) 8 o.nd (hx_mod (hg_fk fk__law_mix_h o (by decide) (ha_cons (P := VP.at true rInt) (hx_var (w := true) (r := rInt) 10) (ha_one (P := VP.at true rInt) hx_int)) (by exact fun _ _ => pg_at) (by exact fun _ _ => allF_nil)) hx_int) () (fun z21 q22 =>
  hb_forY (kr := (fun r => Oc.rt r)) (ς := Unit) (O := (fun (_ : Unit) => (((⟨q2, cLst (rLst K (rLst K rStr)) (s6), true⟩ : OE) :: (nwG (cDic kInt (rLst K (rLst K rStr))) (l19) q17 ++ ([] : OS))) : OS))) (P := VP.at true rInt) (l0 := (fun (s : Unit) => (l19))) (asL := (fun l24 => [some (VP.at true (rLst K rInt) (x)), some (VP.ptr q2), none, none, some (VP.at true (rLst K (rLst K (rTup K (RT.cons rStr (RT.one rStr))))) (z7.1)), none, some (VP.at true (rLsH K (RT.cons (rLst K (rLst K (rLst K rStr))) (RT.one (rLst K (rLst K (rTup K (RT.cons rStr (RT.one rStr)))))))) (z10.1)), none, some (VP.at true rInt (z21.1)), some (VP.ptr q17.1), some (VP.at true rInt (a20)), none])) (osL := (fun l24 => (((⟨q2, cLst (rLst K (rLst K rStr)) (s6), true⟩ : OE) :: (nwG (cDic kInt (rLst K (rLst K rStr))) (l24) q17 ++ ([] : OS))) : OS))) (f := (law_b30 s6 z7 z10 a20 z21)) o (hi_range1 bi.range hx_int) () (by exact fun _ => ⟨.inr rfl, ⟨.inr rfl, ⟨.inl rfl, ⟨.inl rfl, ⟨.inr rfl, ⟨.inl rfl, ⟨.inr rfl, ⟨.inl rfl, ⟨.inr rfl, ⟨.inr rfl, ⟨.inr rfl, ⟨.inl rfl, trivial⟩⟩⟩⟩⟩⟩⟩⟩⟩⟩⟩⟩) (fun _ => rfl) (fun l24 a25 => (htg_name 11 (by exact o.nd))) (fun l24 a25 =>
  hb_ifR (ς := (List (List (Int × (List (List Str)))))) (O := (fun (s : (List (List (Int × (List (List Str)))))) => (((⟨q2, cLst (rLst K (rLst K rStr)) (s6), true⟩ : OE) :: (nwG (cDic kInt (rLst K (rLst K rStr))) (s) q17 ++ ([] : OS))) : OS))) (ma := law_t28) (mr := (law_e29 s6 z7 z10)) (ht_not (ht_val (hg_fkE (q0 := q17.1) (pp := q17.2) fk__law_asked_h o (by decide) (fun (s : (List (List (Int × (List (List Str)))))) => ([⟨q2, cLst (rLst K (rLst K rStr)) (s6), true⟩] : OS)) (fun (_ : (List (List (Int × (List (List Str)))))) => ([] : OS)) (fun (s : (List (List (Int × (List (List Str)))))) => s) (fun (s : (List (List (Int × (List (List Str)))))) (d : (List (List (Int × (List (List Str)))))) => (d)) (fun (z : ((List (List Str)) × (List (Str × Str)) × Int × Nat)) => z.2.2.2) (fun (z : ((List (List Str)) × (List (Str × Str)) × Int × Nat)) (d : (List (Int × (List (List Str))))) => (z.1, z.2.1, z.2.2.1, d)) (ha_cons (P := VP.at true (rLst K (rLst K rStr))) (hx_idxO 1 0 (fun (s : (List (List (Int × (List (List Str)))))) => s6) (hx_var (w := true) (r := rInt) 8)) (ha_cons (P := VP.at true (rLst K (rTup K (RT.cons rStr (RT.one rStr))))) (hx_idx (hx_var (w := true) (r := (rLst K (rLst K (rTup K (RT.cons rStr (RT.one rStr)))))) 4) (hx_var (w := true) (r := rInt) 8)) (ha_cons (P := VP.at true rInt) (hx_var (w := true) (r := rInt) 10) (ha_one (hx_idxG (ct := cDic kInt (rLst K (rLst K rStr))) (q0 := q17.1) (ps := q17.2) 9 (fun (s : (List (List (Int × (List (List Str)))))) => ([⟨q2, cLst (rLst K (rLst K rStr)) (s6), true⟩] : OS)) (fun (_ : (List (List (Int × (List (List Str)))))) => ([] : OS)) (fun (s : (List (List (Int × (List (List Str)))))) => s) (hx_var (w := true) (r := rInt) 8)))))) (fun _ => rfl) (fun _ _ _ => rfl) (hB := (by exact fun _ _ => pg_at)) (hf := (by exact fun _ _ => allF_nil))))) (l24) (fun s26 =>
  hb_ret (ς := Unit) (O := (fun (_ : Unit) => (((⟨q2, cLst (rLst K (rLst K rStr)) (s6), true⟩ : OE) :: (nwG (cDic kInt (rLst K (rLst K rStr))) (s26) q17 ++ ([] : OS))) : OS))) hx_bl () (fun _ => rfl) (fun z q v S H st ow pv => ⟨(), S, st, trivial, pv⟩)) (fun s26 =>
  hb_ifR0 (ht_pk (fun (t27 : Unit) => [none, some (VP.at false (rLst K (rLst K (rLst K rStr))) (s6)), none, none, some (VP.at true (rLst K (rLst K (rTup K (RT.cons rStr (RT.one rStr))))) (z7.1)), none, some (VP.at true (rLsH K (RT.cons (rLst K (rLst K (rLst K rStr))) (RT.one (rLst K (rLst K (rTup K (RT.cons rStr (RT.one rStr)))))))) (z10.1)), none, none, none, none, none]) (by exact fun _ => ⟨.no, ⟨pk_lst 0, ⟨.no, ⟨.no, ⟨.same, ⟨.no, ⟨.same, ⟨.no, ⟨.no, ⟨.no, ⟨.no, ⟨.no, trivial⟩⟩⟩⟩⟩⟩⟩⟩⟩⟩⟩⟩) fun _ _ => (ht_neD (hn := Nat.le_of_ble_eq_true rfl) (Ok.pk o _) (dqLsH (dtCons (dqLst (dqLst (dqLst dqStr))) (dtOne (dqLst (dqLst (dqTup (dtCons dqStr (dtOne dqStr)))))))) (hx_lsH (t := (RT.cons (rLst K (rLst K (rLst K rStr))) (RT.one (rLst K (rLst K (rTup K (RT.cons rStr (RT.one rStr)))))))) (hn := Nat.le_of_ble_eq_true rfl) (ha_cons (P := VP.at false (rLst K (rLst K (rLst K rStr)))) (hx_var (w := false) (r := (rLst K (rLst K (rLst K rStr)))) 1) (ha_one (P := VP.at false (rLst K (rLst K (rTup K (RT.cons rStr (RT.one rStr)))))) (hx_bor (hx_var (w := true) (r := (rLst K (rLst K (rTup K (RT.cons rStr (RT.one rStr)))))) 4))))) (hx_var (w := true) (r := (rLsH K (RT.cons (rLst K (rLst K (rLst K rStr))) (RT.one (rLst K (rLst K (rTup K (RT.cons rStr (RT.one rStr))))))))) 6))) (
  hb_ret (ς := Unit) (O := (fun (_ : Unit) => (((⟨q2, cLst (rLst K (rLst K rStr)) (s6), true⟩ : OE) :: (nwG (cDic kInt (rLst K (rLst K rStr))) (s26) q17 ++ ([] : OS))) : OS))) hx_bl () (fun _ => rfl) (fun z q v S H st ow pv => ⟨(), S, st, trivial, pv⟩)) (
  hb_endO (as' := (fun l24 => [some (VP.at true (rLst K rInt) (x)), some (VP.ptr q2), none, none, some (VP.at true (rLst K (rLst K (rTup K (RT.cons rStr (RT.one rStr))))) (z7.1)), none, some (VP.at true (rLsH K (RT.cons (rLst K (rLst K (rLst K rStr))) (RT.one (rLst K (rLst K (rTup K (RT.cons rStr (RT.one rStr)))))))) (z10.1)), none, some (VP.at true rInt (z21.1)), some (VP.ptr q17.1), some (VP.at true rInt (a20)), none])) (os' := (fun l24 => (((⟨q2, cLst (rLst K (rLst K rStr)) (s6), true⟩ : OE) :: (nwG (cDic kInt (rLst K (rLst K rStr))) (l24) q17 ++ ([] : OS))) : OS))) (l := (s26)) (by exact ⟨.inr rfl, ⟨.inr rfl, ⟨.inl rfl, ⟨.inl rfl, ⟨.inr rfl, ⟨.inl rfl, ⟨.inr rfl, ⟨.inl rfl, ⟨.inr rfl, ⟨.inr rfl, ⟨.inr rfl, ⟨.inl rfl, trivial⟩⟩⟩⟩⟩⟩⟩⟩⟩⟩⟩⟩)))) (fun l24 =>
  hb_endO (as' := (fun l19 => [some (VP.at true (rLst K rInt) (x)), some (VP.ptr q2), none, none, some (VP.at true (rLst K (rLst K (rTup K (RT.cons rStr (RT.one rStr))))) (z7.1)), none, some (VP.at true (rLsH K (RT.cons (rLst K (rLst K (rLst K rStr))) (RT.one (rLst K (rLst K (rTup K (RT.cons rStr (RT.one rStr)))))))) (z10.1)), none, none, some (VP.ptr q17.1), none, none])) (os' := (fun l19 => (((⟨q2, cLst (rLst K (rLst K rStr)) (s6), true⟩ : OE) :: (nwG (cDic kInt (rLst K (rLst K rStr))) (l19) q17 ++ ([] : OS))) : OS))) (l := (l24)) (by exact ⟨.inr rfl, ⟨.inr rfl, ⟨.inl rfl, ⟨.inl rfl, ⟨.inr rfl, ⟨.inl rfl, ⟨.inr rfl, ⟨.inl rfl, ⟨.inl rfl, ⟨.inr rfl, ⟨.inl rfl, ⟨.inl rfl, trivial⟩⟩⟩⟩⟩⟩⟩⟩⟩⟩⟩⟩)))) (fun l19 =>
  hb_ret (ς := Unit) (O := (fun (_ : Unit) => (((⟨q2, cLst (rLst K (rLst K rStr)) (s6), true⟩ : OE) :: (nwG (cDic kInt (rLst K (rLst K rStr))) (l19) q17 ++ ([] : OS))) : OS))) hx_bl () (fun _ => rfl) (fun z q v S H st ow pv => ⟨(), S, st, trivial, pv⟩))))))))) (fun _ _ _ _ _ _ us hl => match us, hl with | [_], _ => rfl)
end
end K56

/-! Plain laws of k57: dicts, places, ends, costs, members. -/
namespace Y
section
variable {κ α : Type} [DecidableEq κ]
theorem dget_nil (k : κ) : dget ([] : List (κ × α)) k = none := rfl
theorem dget_cons (e : κ × α) (d : List (κ × α)) (k : κ) : dget (e :: d) k = if e.1 = k then some e.2 else dget d k := by
  by_cases h : e.1 = k
  · simp [dget, List.find?_cons, h]
  · simp [dget, List.find?_cons, h]
theorem dget_append (d e : List (κ × α)) (k : κ) : dget (d ++ e) k = (dget d k).or (dget e k) := by
  induction d with
  | nil => rw [List.nil_append, dget_nil]; rfl
  | cons a d ih =>
    rw [List.cons_append, dget_cons, dget_cons, ih]
    split <;> rfl
theorem dget_map (d : List (κ × α)) (k k' : κ) (v : α) : dget (d.map fun e => if e.1 = k then (e.1, v) else e) k' = if k' = k then (dget d k').map (fun _ => v) else dget d k' := by
  induction d with
  | nil => simp [dget_nil]
  | cons a d ih =>
    rw [List.map_cons, dget_cons, ih, dget_cons]
    by_cases h1 : a.1 = k
    · rw [if_pos h1]
      by_cases h2 : k' = k
      · subst h2; simp [h1]
      · rw [if_neg h2, if_neg h2]
        have h3 : ¬ a.1 = k' := fun z => h2 (z.symm.trans h1)
        rw [if_neg h3, if_neg h3]
    · rw [if_neg h1]
      by_cases h3 : a.1 = k'
      · rw [if_pos h3]
        have h2 : ¬ k' = k := fun z => h1 (h3.trans z)
        rw [if_neg h2, if_pos h3]
      · rw [if_neg h3, if_neg h3]
theorem dget_some_any {d : List (κ × α)} {k : κ} : (d.any fun e => decide (e.1 = k)) = (dget d k).isSome := by
  induction d with
  | nil => rfl
  | cons a d ih =>
    rw [List.any_cons, dget_cons, ih]
    by_cases h : a.1 = k <;> simp [h]
theorem dget_put (d : List (κ × α)) (k k' : κ) (v : α) : dget (dput d k v) k' = if k' = k then some v else dget d k' := by
  unfold dput
  rw [dget_some_any]
  cases h : dget d k with
  | none =>
    rw [if_neg (by simp), dget_append, dget_cons, dget_nil]
    by_cases h2 : k' = k
    · subst h2; rw [h]; simp
    · rw [if_neg h2, if_neg (fun z => h2 z.symm)]; cases dget d k' <;> rfl
  | some a =>
    rw [if_pos (by simp), dget_map]
    by_cases h2 : k' = k
    · subst h2; rw [h]; simp
    · rw [if_neg h2, if_neg h2]
theorem dput_length (d : List (κ × α)) (k : κ) (v : α) : (dput d k v).length ≤ d.length + 1 := by
  unfold dput
  split <;> simp
theorem dput_new {d : List (κ × α)} {k : κ} (v : α) (h : dget d k = none) : dput d k v = d ++ [(k, v)] := by
  unfold dput
  rw [dget_some_any, h, if_neg (by simp)]
end
theorem enumL_get' {α : Type} {xs : List α} {i : Nat} {x : α} (h : xs[i]? = some x) : (enumL xs)[i]? = some ((i : Int), x) := by
  have hi := (List.getElem?_eq_some_iff.mp h).1
  unfold enumL
  rw [List.getElem?_zipWith, List.getElem?_range hi, h]
theorem getI_nat {α : Type} {xs : List α} {i : Nat} {x : α} (h : xs[i]? = some x) : getI xs (i : Int) = .ok x := by
  unfold getI
  have e : L2.atI xs (i : Int) = some x := L2.atI_nat h
  rw [e]; rfl
theorem idxR_of {α : Type} [DecidableEq α] {xs : List α} {x : α} (h : x ∈ xs) : idxR xs x = .ok (xs.idxOf x : Int) := by
  unfold idxR
  have e : (xs.findIdx? fun z => decide (z = x)) = some (xs.idxOf x) := by
    rw [List.findIdx?_eq_some_iff_getElem]
    have hl := List.idxOf_lt_length_of_mem h
    refine ⟨hl, by simp [List.getElem_idxOf hl], fun j hj => ?_⟩
    have z := List.not_of_lt_findIdx (xs := xs) (p := fun z => z == x) (i := j) hj
    simpa using z
  rw [e]; rfl
theorem nodup_idx {α : Type} [DecidableEq α] {xs : List α} (hn : xs.Nodup) {i : Nat} {x : α} (h : xs[i]? = some x) : xs.idxOf x = i := by
  obtain ⟨hi, e⟩ := List.getElem?_eq_some_iff.mp h
  subst e
  exact hn.idxOf_getElem i hi
end Y
namespace K57
open PySem PySem.Spec PyProof.Rows L2 Y
theorem places_ok {xs : List Str} (hn : xs.Nodup) (hl : xs.length ≤ 16777216) : ∃ d, places_of xs = .ok d ∧ ∀ x ∈ xs, dget d x = some (xs.idxOf x : Int) := by
  obtain ⟨d, h1, h2⟩ := foldR_inv (f := places_of_b10) (fun n d => d.length ≤ n ∧ ∀ i < n, ∀ x, xs[i]? = some x → dget d x = some (i : Int)) (enumL xs) 0 [] ⟨Nat.le_refl _, fun i h => absurd h (Nat.not_lt_zero _)⟩ fun i l a ⟨g1, g2⟩ ha => by
    obtain ⟨e1, e2⟩ := enumL_get ha
    have hi := (List.getElem?_eq_some_iff.mp e1).1
    rw [Nat.zero_add] at g1 g2 ⊢
    refine ⟨dput l a.2 a.1, ?_, Nat.le_trans (dput_length _ _ _) (by omega), fun j hj x hx => ?_⟩
    · unfold places_of_b10
      simp only [sm_ret, R.bind_ok, dputR]
      rw [R.guard_true (by omega)]
      simp only [R.bind_ok]
    · rw [dget_put]
      by_cases hq : x = a.2
      · subst hq
        rw [if_pos rfl, e2]
        have u1 := nodup_idx hn hx
        have u2 := nodup_idx hn e1
        rw [← u1, u2]
      · rw [if_neg hq]
        refine g2 j ?_ x hx
        rcases Nat.lt_succ_iff_lt_or_eq.mp hj with h | h
        · exact h
        · subst h; rw [e1] at hx; exact (hq (Option.some.inj hx).symm).elim
  refine ⟨d, ?_, fun x hx => ?_⟩
  · unfold places_of
    simp only [sm_ret, sm_map1, R.bind_ok]
    rw [h1]; rfl
  · have hlt := List.idxOf_lt_length_of_mem hx
    exact h2.2 (xs.idxOf x) (by rw [enumL_len]; omega) x (by rw [List.getElem?_eq_getElem hlt, List.getElem_idxOf hlt])
/-- the places of the lines at a mark -/
def endsM (fixed : List Str) (lines : List (Str × Str)) (m : Str) : List Int := (lines.filter fun z => decide (z.2 = m)).map fun z => (fixed.idxOf z.1 : Int)
theorem ends_ok {fixed free : List Str} {lines : List (Str × Str)} (hn : fixed.Nodup) (hf : fixed.length ≤ 16777216) (hm : free.length ≤ 16777216) (hl : lines.length ≤ 16777216) (hin : ∀ z ∈ lines, z.1 ∈ fixed) : ends_of (fixed, free, lines) = .ok (free.map (endsM fixed lines)) := by
  obtain ⟨d, h1, h2⟩ := places_ok hn hf
  unfold ends_of
  simp only [sm_ret, sm_map1, sm_map2, sm_bnd1, sm_bnd2, R.bind_ok, R.bind_assoc, h1, R.calm_ok]
  rw [lc_ok (p := fun _ => true) (g := endsM fixed lines) (xs := free) (s' := ()) rfl (fun _ _ => rfl) (fun m _ _ => ?_) hm]
  · simp [filter_tt]
  · rw [lc_ok (p := fun z => eqS z.2 m) (g := fun z => (fixed.idxOf z.1 : Int)) (xs := lines) (s' := ()) rfl (fun _ _ => rfl) (fun z hz _ => ?_) hl]
    · rfl
    · simp [h2 z.1 (hin z hz)]
/-- of two rows of places, the pairs that cross -/
def cst (A B : List Int) : Int := (A.map fun x => ((B.filter fun y => decide (y < x)).length : Int)).sum
theorem cost_ok {ends : List (List Int)} {a b : Nat} {A B : List Int} (ha : ends[a]? = some A) (hb : ends[b]? = some B) (lA : A.length ≤ 16777216) (lB : B.length ≤ 16777216) : cost (ends, (a : Int), (b : Int)) = .ok (cst A B) := by
  unfold cost
  simp only [sm_ret, sm_map1, sm_map2, sm_bnd1, sm_bnd2, R.bind_ok, R.bind_assoc]
  rw [lc_ok (p := fun _ => true) (g := fun x => ((B.filter fun y => decide (y < x)).length : Int)) (xs := A) (s' := ()) (by simp [getI_nat ha]) (fun _ _ => rfl) (fun x _ _ => ?_) lA]
  · simp [filter_tt]
    rfl
  · rw [sm_map1, lc_ok (p := fun y => ltB y x) (g := fun y => y) (xs := B) (s' := ()) (by simp [getI_nat hb]) (fun _ _ => rfl) (fun y _ _ => rfl) lB]
    simp only [R.bind_ok, List.map_id']
    rfl
/-- the members of a set -/
def mem (N s : Nat) : List Nat := (List.range N).filter fun h => s.testBit h
theorem shr_test (s h : Nat) : Builtin.bitAnd ((s : Int) / 2 ^ h) 1 = if s.testBit h then 1 else 0 := by
  have e : ((s : Int) / 2 ^ h) = ((s / 2 ^ h : Nat) : Int) := by push_cast; rfl
  rw [e, bitAnd_m1]
  rw [Nat.testBit_eq_decide_div_mod_eq]
  by_cases q : s / 2 ^ h % 2 = 1
  · rw [decide_eq_true q, if_pos rfl]; omega
  · rw [decide_eq_false q, if_neg (by simp)]; omega
theorem members_ok {N s : Nat} (hN : N ≤ 64) : members ((s : Int), (N : Int)) = .ok ((mem N s).map fun (h : Nat) => (h : Int)) := by
  unfold members
  simp only [sm_ret, sm_map1, sm_map2, sm_bnd1, sm_bnd2, R.bind_ok, R.bind_assoc]
  rw [lc_ok (p := fun h => eqB (Builtin.bitAnd ((s : Int) / 2 ^ h.toNat) 1) 1) (g := fun h => h) (xs := rangeL 0 (N : Int)) (s' := ()) ?_ (fun h hh => ?_) (fun _ _ _ => rfl) (by rw [rangeL_len]; omega)]
  · simp only [R.bind_ok]
    have e : rangeL 0 (N : Int) = (List.range N).map fun (h : Nat) => (h : Int) := by
      unfold rangeL
      simp
    rw [e, List.map_id']
    unfold mem
    rw [List.filter_map]
    congr 2
    apply List.filter_congr
    intro h _
    show eqB (Builtin.bitAnd ((s : Int) / 2 ^ ((h : Int)).toNat) 1) 1 = s.testBit h
    rw [Int.toNat_natCast, shr_test]
    cases s.testBit h <;> rfl
  · simp only [sm_bnd1, sm_ret, R.bind_ok]
    rw [rng1_ok (by omega) (by omega), R.bind_ok]
  · have h0 : 0 ≤ h := by
      unfold rangeL at hh
      obtain ⟨k, _, e⟩ := List.mem_map.mp hh
      omega
    simp only [sm_map2, sm_bnd2, sm_ret, R.bind_ok, shrR]
    rw [R.guard_true h0]
    rfl
end K57

/-! k57: the table of least costs. -/
namespace K57
open PySem PySem.Spec PyProof.Rows L2 Y
def bits8 : Bool := (List.range 256).all fun s => (List.range 8).all fun l => !s.testBit l || (decide (2 ^ l ≤ s) && (List.range 8).all fun h => (s - 2 ^ l).testBit h == (s.testBit h && (h != l)))
theorem bits8_t : bits8 = true := by decide +kernel
theorem bit_sub {s l : Nat} (hs : s < 256) (hl : l < 8) (h : s.testBit l = true) : 2 ^ l ≤ s ∧ ∀ k < 8, (s - 2 ^ l).testBit k = (s.testBit k && (k != l)) := by
  have z := List.all_eq_true.mp bits8_t s (List.mem_range.mpr hs)
  have z := List.all_eq_true.mp z l (List.mem_range.mpr hl)
  rw [h, Bool.not_true, Bool.false_or, Bool.and_eq_true] at z
  refine ⟨of_decide_eq_true z.1, fun k hk => ?_⟩
  exact eq_of_beq (List.all_eq_true.mp z.2 k (List.mem_range.mpr hk))
theorem mem_lt {N s h : Nat} (m : h ∈ mem N s) : h < N ∧ s.testBit h = true := by
  unfold mem at m
  rw [List.mem_filter, List.mem_range] at m
  exact m
theorem mem_sub {N s l : Nat} (hN : N ≤ 8) (hs : s < 256) (m : l ∈ mem N s) : mem N (s - 2 ^ l) = (mem N s).filter fun h => h != l := by
  obtain ⟨h1, h2⟩ := mem_lt m
  obtain ⟨_, hb⟩ := bit_sub hs (by omega) h2
  unfold mem
  rw [List.filter_filter]
  apply List.filter_congr
  intro h hh
  rw [List.mem_range] at hh
  rw [hb h (by omega), Bool.and_comm]
theorem mem_ne {N s : Nat} (hs : s < 2 ^ N) (h0 : s ≠ 0) : mem N s ≠ [] := fun e => by
  have all : ∀ h < N, s.testBit h = false := fun h hh => by
    cases q : s.testBit h with
    | false => rfl
    | true =>
      have : h ∈ mem N s := by unfold mem; rw [List.mem_filter, List.mem_range]; exact ⟨hh, q⟩
      rw [e] at this; cases this
  refine h0 (Nat.eq_of_testBit_eq fun i => ?_)
  rw [Nat.zero_testBit]
  by_cases hi : i < N
  · exact all i hi
  · exact Nat.testBit_lt_two_pow (Nat.lt_of_lt_of_le hs (Nat.pow_le_pow_right (by decide) (by omega)))
def minD : List Int → Int
  | [] => 0
  | x :: xs => xs.foldl (fun a b => if b < a then b else a) x
theorem minL_ok {xs : List Int} (h : xs ≠ []) : minL xs = .ok (minD xs) := by
  cases xs with
  | nil => exact (h rfl).elim
  | cons x xs => rfl
theorem minD_mem {xs : List Int} (h : xs ≠ []) : minD xs ∈ xs := by
  cases xs with
  | nil => exact (h rfl).elim
  | cons x xs => exact (min_fold xs x).1
section
variable (c : Nat → Nat → Int) (N : Nat)
/-- what the set s costs, l the last one, T the table so far -/
def entT (T : List Int) (s l : Nat) : Int := T.getD (s - 2 ^ l) 0 + ((mem N (s - 2 ^ l)).map fun g => c g l).sum
def tabL : Nat → List Int
  | 0 => []
  | a + 1 => tabL a ++ [if a = 0 then 0 else minD ((mem N a).map (entT c N (tabL a) a))]
def tt (s : Nat) : Int := (tabL c N (s + 1)).getD s 0
def ent (s l : Nat) : Int := tt c N (s - 2 ^ l) + ((mem N (s - 2 ^ l)).map fun g => c g l).sum
theorem tabL_succ (a : Nat) : tabL c N (a + 1) = tabL c N a ++ [if a = 0 then 0 else minD ((mem N a).map (entT c N (tabL c N a) a))] := rfl
theorem tabL_len : ∀ a, (tabL c N a).length = a
  | 0 => rfl
  | a + 1 => by unfold tabL; rw [List.length_append, tabL_len a]; rfl
theorem tabL_get : ∀ {a s : Nat}, s < a → (tabL c N a).getD s 0 = tt c N s
  | a + 1, s, h => by
    by_cases e : s = a
    · subst e; rfl
    · have h' : s < a := by omega
      unfold tabL
      rw [List.getD_eq_getElem?_getD, List.getElem?_append_left (by rw [tabL_len]; exact h'), ← List.getD_eq_getElem?_getD]
      exact tabL_get h'
theorem tt_zero : tt c N 0 = 0 := rfl
theorem tt_pos {s : Nat} (hN : N ≤ 8) (hs : s < 256) (h0 : s ≠ 0) : tt c N s = minD ((mem N s).map (ent c N s)) := by
  have e : tt c N s = minD ((mem N s).map (entT c N (tabL c N s) s)) := by
    show (tabL c N (s + 1)).getD s 0 = _
    rw [tabL_succ, List.getD_eq_getElem?_getD, List.getElem?_append_right (by rw [tabL_len]; exact Nat.le_refl _), tabL_len, Nat.sub_self, if_neg h0]
    rfl
  rw [e]
  congr 1
  apply List.map_congr_left
  intro l hl
  obtain ⟨h1, h2⟩ := mem_lt hl
  obtain ⟨hb, _⟩ := bit_sub hs (by omega) h2
  have hp : 0 < 2 ^ l := Nat.pow_pos (by decide)
  unfold entT ent
  rw [tabL_get c N (by omega)]
def dic (a : Nat) : List (Int × Int) := (List.range a).map fun (s : Nat) => ((s : Int), tt c N s)
theorem dic_len (a : Nat) : (dic c N a).length = a := by unfold dic; rw [List.length_map, List.length_range]
theorem dic_succ (a : Nat) : dic c N (a + 1) = dic c N a ++ [((a : Int), tt c N a)] := by
  unfold dic
  rw [List.range_succ, List.map_append]
  rfl
theorem dic_get : ∀ {a s : Nat}, s < a → dget (dic c N a) (s : Int) = some (tt c N s)
  | a + 1, s, h => by
    rw [dic_succ, dget_append]
    by_cases e : s < a
    · rw [dic_get e]; rfl
    · have e2 : s = a := by omega
      subst e2
      have none : dget (dic c N s) (s : Int) = none := by
        unfold dic
        cases q : dget ((List.range s).map fun (s : Nat) => ((s : Int), tt c N s)) (s : Int) with
        | none => rfl
        | some v =>
          have m : ((s : Int), v) ∈ (List.range s).map fun (s : Nat) => ((s : Int), tt c N s) := by
            unfold dget at q
            obtain ⟨e, he, hv⟩ := Option.map_eq_some_iff.mp q
            have e1 := List.mem_of_find?_eq_some he
            have e2 := List.find?_some he
            have e2 : e.1 = (s : Int) := by simpa using e2
            rw [← e2, ← hv]
            exact e1
          obtain ⟨k, hk, ek⟩ := List.mem_map.mp m
          rw [List.mem_range] at hk
          have := congrArg Prod.fst ek
          simp at this
          omega
      rw [none, dget_cons, if_pos rfl]
      rfl
theorem dic_new (a : Nat) : dget (dic c N a) (a : Int) = none := by
  cases q : dget (dic c N a) (a : Int) with
  | none => rfl
  | some v =>
    unfold dic dget at q
    obtain ⟨e, he, hv⟩ := Option.map_eq_some_iff.mp q
    have e1 := List.mem_of_find?_eq_some he
    have e2 := List.find?_some he
    have e2 : e.1 = (a : Int) := by simpa using e2
    obtain ⟨k, hk, ek⟩ := List.mem_map.mp e1
    rw [List.mem_range] at hk
    rw [← ek] at e2
    have e2 : (k : Int) = (a : Int) := e2
    omega
end
/-- the costs of the marks' places -/
def cc (E : List (List Int)) (a b : Nat) : Int := cst (E.getD a []) (E.getD b [])
theorem cost_cc {E : List (List Int)} {a b : Nat} (ha : a < E.length) (hb : b < E.length) (hl : ∀ A ∈ E, A.length ≤ 16777216) : cost (E, (a : Int), (b : Int)) = .ok (cc E a b) := by
  unfold cc
  rw [List.getD_eq_getElem?_getD, List.getD_eq_getElem?_getD, List.getElem?_eq_getElem ha, List.getElem?_eq_getElem hb]
  exact cost_ok (List.getElem?_eq_getElem ha) (List.getElem?_eq_getElem hb) (hl _ (List.getElem_mem ha)) (hl _ (List.getElem_mem hb))
theorem sub_pow {s l : Nat} (h : 2 ^ l ≤ s) : (s : Int) - ((2 ^ l : Nat) : Int) = ((s - 2 ^ l : Nat) : Int) := by omega
theorem entry_ok {T : List (Int × Int)} {E : List (List Int)} {s l a : Nat} (hN : E.length ≤ 8) (hs : s < 256) (hm : l ∈ mem E.length s) (hl : ∀ A ∈ E, A.length ≤ 16777216) (hT : ∀ k < a, dget T (k : Int) = some (tt (cc E) E.length k)) (ha : s ≤ a) : entry (T, E, (s : Int), (l : Int)) = .ok (ent (cc E) E.length s l) := by
  obtain ⟨h1, h2⟩ := mem_lt hm
  obtain ⟨hb, _⟩ := bit_sub hs (by omega) h2
  have hp : 0 < 2 ^ l := Nat.pow_pos (by decide)
  unfold entry
  simp only [sm_ret, sm_map1, sm_map2, sm_bnd1, sm_bnd2, R.bind_ok, R.bind_assoc]
  rw [shlR_ok (by omega)]
  simp only [R.bind_ok, sub_pow hb]
  rw [members_ok (by omega)]
  simp only [R.bind_ok, R.calm_ok]
  rw [hT _ (by omega)]
  simp only [R.ofO_some, R.bind_ok]
  rw [lc_ok (p := fun _ => true) (g := fun g => cc E g.toNat l) (xs := (mem E.length (s - 2 ^ l)).map fun (h : Nat) => (h : Int)) (s' := ()) (by simp) (fun _ _ => by simp) (fun g hg _ => ?hf) ?hl]
  · simp only [R.bind_ok, filter_tt, List.map_map]
    rfl
  case hf =>
    obtain ⟨k, hk, e⟩ := List.mem_map.mp hg
    subst e
    obtain ⟨k1, _⟩ := mem_lt hk
    simp only [sm_ret, sm_map2, sm_bnd1, R.bind_ok, Int.toNat_natCast]
    rw [cost_cc k1 h1 hl]
    simp
  case hl =>
    rw [List.length_map]
    have : (mem E.length (s - 2 ^ l)).length ≤ E.length := by
      unfold mem
      exact Nat.le_trans (List.length_filter_le _ _) (by rw [List.length_range]; exact Nat.le_refl _)
    omega
end K57

/-! k57: least_order. -/
namespace K57
open PySem PySem.Spec PyProof.Rows L2 Y
theorem psum {xs ys : List Int} (h : xs.Perm ys) : xs.sum = ys.sum := by
  induction h with
  | nil => rfl
  | cons x _ ih => simp [ih]
  | swap x y l => simp; omega
  | trans _ _ h1 h2 => exact h1.trans h2
section
variable (c : Nat → Nat → Int) (N : Nat)
def picks (s : Nat) : List Nat := (mem N s).filter fun h => decide (ent c N s h = tt c N s)
def pick (s : Nat) : Nat := (picks c N s).headD 0
theorem picks_ne {s : Nat} (hN : N ≤ 8) (hs : s < 2 ^ N) (h0 : s ≠ 0) : picks c N s ≠ [] := fun e => by
  have h256 : s < 256 := Nat.lt_of_lt_of_le hs (Nat.pow_le_pow_right (by decide) hN)
  have hm := mem_ne hs h0
  have z := minD_mem (xs := (mem N s).map (ent c N s)) (by simpa using hm)
  rw [← tt_pos c N hN h256 h0] at z
  obtain ⟨l, hl, el⟩ := List.mem_map.mp z
  have : l ∈ picks c N s := by
    unfold picks
    rw [List.mem_filter]
    exact ⟨hl, decide_eq_true el⟩
  rw [e] at this; cases this
theorem pick_mem {s : Nat} (hN : N ≤ 8) (hs : s < 2 ^ N) (h0 : s ≠ 0) : pick c N s ∈ mem N s ∧ ent c N s (pick c N s) = tt c N s ∧ (picks c N s)[0]? = some (pick c N s) := by
  have hne := picks_ne c N hN hs h0
  cases e : picks c N s with
  | nil => exact (hne e).elim
  | cons x xs =>
    have hp : pick c N s = x := by unfold pick; rw [e]; rfl
    have hm : x ∈ picks c N s := by rw [e]; exact List.mem_cons_self
    unfold picks at hm
    rw [List.mem_filter] at hm
    rw [hp]
    exact ⟨hm.1, of_decide_eq_true hm.2, rfl⟩
def chain : Nat → Nat → List Nat
  | 0, _ => []
  | k + 1, s => if s = 0 then [] else chain k (s - 2 ^ pick c N s) ++ [pick c N s]
/-- all pairs, the first one ahead -/
def pairS : List Nat → Int
  | [] => 0
  | x :: xs => (xs.map (c x)).sum + pairS xs
theorem pairS_snoc (l : Nat) : ∀ xs : List Nat, pairS c (xs ++ [l]) = pairS c xs + (xs.map fun g => c g l).sum
  | [] => by simp [pairS]
  | x :: xs => by
    simp only [List.cons_append, pairS, List.map_append, List.sum_append, List.map_cons, List.map_nil, List.sum_cons, List.sum_nil, pairS_snoc l xs]
    omega
theorem chain_ok (hN : N ≤ 8) : ∀ (k s : Nat), s < 2 ^ N → s < k → (chain c N k s).Perm (mem N s) ∧ pairS c (chain c N k s) = tt c N s
  | k + 1, s, hs, hk => by
    unfold chain
    by_cases h0 : s = 0
    · subst h0
      rw [if_pos rfl]
      refine ⟨?_, rfl⟩
      have : mem N 0 = [] := by
        unfold mem
        rw [List.filter_eq_nil_iff]
        intro a _
        rw [Nat.zero_testBit]; decide
      rw [this]
    · rw [if_neg h0]
      obtain ⟨h1, h2, _⟩ := pick_mem c N hN hs h0
      obtain ⟨m1, m2⟩ := mem_lt h1
      have h256 : s < 256 := Nat.lt_of_lt_of_le hs (Nat.pow_le_pow_right (by decide) hN)
      obtain ⟨hb, _⟩ := bit_sub h256 (by omega) m2
      have hp : 0 < 2 ^ pick c N s := Nat.pow_pos (by decide)
      obtain ⟨g1, g2⟩ := chain_ok hN k (s - 2 ^ pick c N s) (by omega) (by omega)
      refine ⟨?_, ?_⟩
      · rw [mem_sub hN h256 h1] at g1
        have hnd : (mem N s).Nodup := List.nodup_range.sublist List.filter_sublist
        have e : (mem N s).filter (fun h => h != pick c N s) = (mem N s).erase (pick c N s) := by
          rw [hnd.erase_eq_filter]
        rw [e] at g1
        exact ((g1.append_right _).trans List.perm_append_comm).trans (List.perm_cons_erase h1).symm
      · rw [pairS_snoc, g2, ← h2]
        unfold ent
        congr 1
        exact psum (g1.map _)
theorem chain_mem {k s h : Nat} (hN : N ≤ 8) (hs : s < 2 ^ N) (hk : s < k) (m : h ∈ chain c N k s) : h < N := (mem_lt (((chain_ok c N hN k s hs hk).1).mem_iff.mp m)).1
end
theorem rangeL_get' {lo hi : Int} {i : Nat} {a : Int} (h : (rangeL lo hi)[i]? = some a) : i < (hi - lo).toNat ∧ a = lo + (i : Int) := rangeL_get h
theorem mem_len (N s : Nat) : (mem N s).length ≤ N := by
  unfold mem
  exact Nat.le_trans (List.length_filter_le _ _) (by rw [List.length_range]; exact Nat.le_refl _)
theorem pow_le256 {N : Nat} (h : N ≤ 8) : 2 ^ N ≤ 256 := Nat.pow_le_pow_right (by decide) h
section
variable {E : List (List Int)} (hN : E.length ≤ 8) (hl : ∀ A ∈ E, A.length ≤ 16777216)
include hN hl
theorem table_ok : foldR (least_order_b16 ((E.length : Int), ()) (E, ())) [(0, 0)] (rangeL 1 ((2 ^ E.length : Nat) : Int)) = .ok (dic (cc E) E.length (2 ^ E.length)) := by
  have h256 := pow_le256 hN
  have hp : 0 < 2 ^ E.length := Nat.pow_pos (by decide)
  obtain ⟨d, h1, h2⟩ := foldR_inv (f := least_order_b16 ((E.length : Int), ()) (E, ())) (fun n d => d = dic (cc E) E.length (n + 1)) (rangeL 1 ((2 ^ E.length : Nat) : Int)) 0 [(0, 0)] rfl fun i l a hI ha => by
    obtain ⟨g1, g2⟩ := rangeL_get ha
    rw [Nat.zero_add] at hI ⊢
    subst hI
    have e2 : a = ((i + 1 : Nat) : Int) := by rw [g2]; omega
    subst e2
    have hs : i + 1 < 2 ^ E.length := by omega
    refine ⟨_, ?_, rfl⟩
    unfold least_order_b16
    simp only [sm_ret, sm_map1, sm_map2, sm_bnd1, sm_bnd2, sm_pk, R.bind_ok, R.bind_assoc]
    rw [lc_ok (p := fun _ => true) (g := fun h => ent (cc E) E.length (i + 1) h.toNat) (xs := (mem E.length (i + 1)).map fun (h : Nat) => (h : Int)) (s' := ()) ?hm (fun _ _ => by simp) (fun h hh _ => ?hf) ?hl]
    case hm =>
      simp only [sm_ret, sm_map2, sm_bnd1, R.bind_ok]
      rw [members_ok (by omega)]
      simp
    case hf =>
      obtain ⟨k, hk, e⟩ := List.mem_map.mp hh
      subst e
      simp only [sm_ret, sm_map2, sm_bnd1, R.bind_ok, Int.toNat_natCast]
      rw [entry_ok (a := i + 1) hN (by omega) hk hl (fun k hk => dic_get _ _ hk) (Nat.le_refl _)]
      simp
    case hl =>
      rw [List.length_map]
      have := mem_len E.length (i + 1)
      omega
    simp only [R.bind_ok, R.calm_ok, filter_tt, List.map_map]
    have hne := mem_ne hs (by omega)
    rw [minL_ok (by simpa using hne)]
    simp only [R.bind_ok, R.calm_ok, dputR]
    rw [R.guard_true (by rw [dic_len]; omega)]
    simp only [R.bind_ok]
    rw [dput_new _ (dic_new _ _ _), dic_succ _ _ (i + 1), tt_pos (cc E) E.length hN (by omega) (by omega)]
    rfl
  rw [h1, h2]
  congr 2
  rw [rangeL_len]
  omega
theorem walk_ok {fixed free : List Str} {lines : List (Str × Str)} (hf : free.length = E.length) : ∀ (k s : Nat) (acc : List Str), s < 2 ^ E.length → s < k →
    (mem E.length s).length + acc.length ≤ 1000000 →
    whileR (fun l => least_order_c34 l ()) (fun l (_ : Unit) => least_order_w33 (fixed, free, lines) ((E.length : Int), ()) (E, ()) (dic (cc E) E.length (2 ^ E.length)) l) k ((s : Int), acc) = .ok (((0 : Int), (chain (cc E) E.length k s).map (fun h => free.getD h ⟨#[]⟩) ++ acc), ())
  | k + 1, s, acc, hs, hk, hz => by
    have h256 := pow_le256 hN
    unfold whileR
    have ec : least_order_c34 ((s : Int), acc) () = .ok (gtB (s : Int) 0, ()) := by unfold least_order_c34; simp
    simp only [ec, R.bind_ok]
    unfold chain
    by_cases h0 : s = 0
    · subst h0
      rw [if_pos rfl, if_neg (by decide)]
      rfl
    · rw [if_neg h0, if_pos (by unfold gtB; simp; omega)]
      obtain ⟨p1, p2, p3⟩ := pick_mem (cc E) E.length hN hs h0
      obtain ⟨m1, m2⟩ := mem_lt p1
      obtain ⟨hb, _⟩ := bit_sub (by omega) (by omega) m2
      have hp : 0 < 2 ^ pick (cc E) E.length s := Nat.pow_pos (by decide)
      have hf2 : free[pick (cc E) E.length s]? = some (free.getD (pick (cc E) E.length s) ⟨#[]⟩) := by
        rw [List.getD_eq_getElem?_getD, List.getElem?_eq_getElem (by omega)]; rfl
      have ew : least_order_w33 (fixed, free, lines) ((E.length : Int), ()) (E, ()) (dic (cc E) E.length (2 ^ E.length)) ((s : Int), acc) = .ok (((s - 2 ^ pick (cc E) E.length s : Nat) : Int), free.getD (pick (cc E) E.length s) ⟨#[]⟩ :: acc) := by
        unfold least_order_w33
        simp only [sm_ret, sm_map1, sm_map2, sm_bnd1, sm_bnd2, sm_pk, R.bind_ok, R.bind_assoc]
        rw [lc_ok (p := fun h => decide (ent (cc E) E.length s h.toNat = tt (cc E) E.length s)) (g := fun h => h) (xs := (mem E.length s).map fun (h : Nat) => (h : Int)) (s' := ()) ?hm (fun h hh => ?hf) (fun _ _ _ => by simp) ?hl]
        case hm =>
          simp only [sm_ret, sm_map2, sm_bnd1, R.bind_ok]
          rw [members_ok (by omega)]
          simp
        case hf =>
          obtain ⟨k, hk, e⟩ := List.mem_map.mp hh
          subst e
          simp only [sm_ret, sm_map2, sm_bnd1, sm_bnd2, R.bind_ok, Int.toNat_natCast]
          rw [entry_ok (a := 2 ^ E.length) hN (by omega) hk hl (fun k hk => dic_get _ _ hk) (by omega), dic_get _ _ hs]
          simp [eqB]
        case hl =>
          rw [List.length_map]
          have := mem_len E.length s
          omega
        simp only [R.bind_ok, R.calm_ok, List.map_id']
        have ep : ((mem E.length s).map fun (h : Nat) => (h : Int)).filter (fun h => decide (ent (cc E) E.length s h.toNat = tt (cc E) E.length s)) = (picks (cc E) E.length s).map fun (h : Nat) => (h : Int) := by
          rw [List.filter_map]
          rfl
        rw [ep]
        have g0 : getI ((picks (cc E) E.length s).map fun (h : Nat) => (h : Int)) ((0 : Nat) : Int) = .ok (pick (cc E) E.length s : Int) := getI_nat (by rw [List.getElem?_map, p3]; rfl)
        rw [show (0 : Int) = ((0 : Nat) : Int) from rfl, g0]
        simp only [R.bind_ok, R.calm_ok]
        rw [getI_nat hf2]
        simp only [R.bind_ok, insR]
        rw [R.guard_true (by refine ⟨by omega, by decide, by rw [p63]; decide⟩)]
        simp only [R.bind_ok]
        rw [shlR_ok (by omega)]
        simp only [R.bind_ok, sub_pow hb]
        rfl
      rw [ew, R.bind_ok]
      have hz' : (mem E.length (s - 2 ^ pick (cc E) E.length s)).length + 1 ≤ (mem E.length s).length := by
        rw [mem_sub hN (by omega) p1]
        have hnd : (mem E.length s).Nodup := List.nodup_range.sublist List.filter_sublist
        have e : (mem E.length s).filter (fun h => h != pick (cc E) E.length s) = (mem E.length s).erase (pick (cc E) E.length s) := by
          rw [hnd.erase_eq_filter]
        rw [e, List.length_erase_of_mem p1]
        have := List.length_pos_of_mem p1
        omega
      rw [walk_ok hf k (s - 2 ^ pick (cc E) E.length s) _ (by omega) (by omega) (by rw [List.length_cons]; omega)]
      simp
/-- what least_order tells -/
def ordM (E : List (List Int)) (free : List Str) : List Str := (chain (cc E) E.length (2 ^ E.length) (2 ^ E.length - 1)).map fun h => free.getD h ⟨#[]⟩
end
theorem least_ok {fixed free : List Str} {lines : List (Str × Str)} (hn : fixed.Nodup) (hf : fixed.length ≤ 16777216) (h8 : free.length ≤ 8) (hl : lines.length ≤ 16777216) (hin : ∀ z ∈ lines, z.1 ∈ fixed) :
    least_order (fixed, free, lines) = .ok (tt (cc (free.map (endsM fixed lines))) free.length (2 ^ free.length - 1), ordM (free.map (endsM fixed lines)) free, dic (cc (free.map (endsM fixed lines))) free.length (2 ^ free.length)) := by
  have hE : (free.map (endsM fixed lines)).length = free.length := List.length_map ..
  have hp : 0 < 2 ^ free.length := Nat.pow_pos (by decide)
  have h256 := pow_le256 h8
  have hA : ∀ A ∈ free.map (endsM fixed lines), A.length ≤ 16777216 := fun A m => by
    obtain ⟨x, _, e⟩ := List.mem_map.mp m
    subst e
    unfold endsM
    rw [List.length_map]
    exact Nat.le_trans (List.length_filter_le _ _) hl
  have t := table_ok (E := free.map (endsM fixed lines)) (by rw [hE]; exact h8) hA
  have wk := walk_ok (E := free.map (endsM fixed lines)) (by rw [hE]; exact h8) hA (fixed := fixed) (lines := lines) (free := free) hE.symm (2 ^ free.length) (2 ^ free.length - 1) [] (by rw [hE]; omega) (by omega) (by have := mem_len (free.map (endsM fixed lines)).length (2 ^ free.length - 1); rw [hE] at this ⊢; simp; omega)
  rw [hE] at t wk
  unfold least_order
  simp only [sm_ret, sm_map1, sm_map2, sm_bnd1, sm_bnd2, sm_pk, R.bind_ok, R.bind_assoc]
  rw [if_neg (by unfold gtB; simp; omega)]
  rw [ends_ok hn hf (by omega) hl hin]
  simp only [R.bind_ok, R.calm_ok]
  rw [shlR_ok (by omega)]
  simp only [R.bind_ok]
  rw [rng2_ok (by decide) (by decide) (by omega) (by omega)]
  simp only [R.bind_ok]
  rw [t]
  simp only [R.bind_ok]
  have e1 : ((2 ^ free.length : Nat) : Int) - 1 = ((2 ^ free.length - 1 : Nat) : Int) := by omega
  rw [e1, dic_get _ _ (by omega)]
  simp only [R.ofO_some, R.bind_ok, Int.toNat_natCast, whileR0]
  rw [show 2 ^ free.length - 1 + 1 = 2 ^ free.length by omega, wk]
  simp only [R.bind_ok, List.append_nil]
  unfold ordM
  rw [hE]
  simp only [R.calm_ok, R.bind_ok]
end K57

/-! k57: sums over pairs of lines. -/
namespace K57
open PySem PySem.Spec PyProof.Rows L2 Y
section sums
variable {α β : Type}
def S (xs : List α) (f : α → Int) : Int := (xs.map f).sum
theorem S_nil (f : α → Int) : S [] f = 0 := rfl
theorem S_cons (x : α) (xs : List α) (f : α → Int) : S (x :: xs) f = f x + S xs f := by simp [S]
theorem S_append (xs ys : List α) (f : α → Int) : S (xs ++ ys) f = S xs f + S ys f := by simp [S]
theorem S_add (xs : List α) (f g : α → Int) : S xs (fun x => f x + g x) = S xs f + S xs g := by
  induction xs with
  | nil => rfl
  | cons x xs ih => rw [S_cons, S_cons, S_cons, ih]; omega
theorem S_zero (xs : List α) : S xs (fun _ => 0) = 0 := by
  induction xs with
  | nil => rfl
  | cons x xs ih => rw [S_cons, ih]; rfl
theorem S_congr {xs : List α} {f g : α → Int} (h : ∀ x ∈ xs, f x = g x) : S xs f = S xs g := by
  unfold S
  rw [List.map_congr_left h]
theorem S_comm (xs : List α) (ys : List β) (f : α → β → Int) : S xs (fun x => S ys (f x)) = S ys fun y => S xs fun x => f x y := by
  induction xs with
  | nil => rw [S_nil, ← S_zero ys]; rfl
  | cons x xs ih =>
    rw [S_cons, ih, ← S_add]
    exact S_congr fun y _ => (S_cons x xs fun x => f x y).symm
theorem S_filter (xs : List α) (p : α → Bool) (f : α → Int) : S (xs.filter p) f = S xs fun x => if p x = true then f x else 0 := by
  induction xs with
  | nil => rfl
  | cons x xs ih =>
    rw [S_cons, List.filter_cons]
    by_cases h : p x = true
    · rw [if_pos h, if_pos h, S_cons, ih]
    · rw [if_neg h, if_neg h, ih]; omega
theorem S_map (xs : List α) (g : α → β) (f : β → Int) : S (xs.map g) f = S xs fun x => f (g x) := by
  unfold S
  rw [List.map_map]
  rfl
theorem len_S (xs : List α) (p : α → Bool) : ((xs.filter p).length : Int) = S xs fun x => if p x = true then 1 else 0 := by
  induction xs with
  | nil => rfl
  | cons x xs ih =>
    rw [S_cons, List.filter_cons]
    by_cases h : p x = true
    · rw [if_pos h, if_pos h, ← ih, List.length_cons]; omega
    · rw [if_neg h, if_neg h, ← ih]; omega
theorem S_ite (xs : List α) (c : Prop) [Decidable c] (f : α → Int) : S xs (fun x => if c then f x else 0) = if c then S xs f else 0 := by
  by_cases h : c
  · simp only [if_pos h]
  · simp only [if_neg h]; exact S_zero xs
end sums
section
variable (fixed : List Str) (lines : List (Str × Str))
def topI (l : Str × Str) : Int := (fixed.idxOf l.1 : Int)
/-- the cost of two marks -/
def cs (m m' : Str) : Int := cst (endsM fixed lines m) (endsM fixed lines m')
theorem cs_S (m m' : Str) : cs fixed lines m m' = S lines fun l => S lines fun l' => if l.2 = m ∧ l'.2 = m' ∧ topI fixed l' < topI fixed l then 1 else 0 := by
  unfold cs cst
  show S (endsM fixed lines m) _ = _
  unfold endsM
  rw [S_map, S_filter]
  refine S_congr fun l _ => ?_
  by_cases h : l.2 = m
  · rw [if_pos (by simpa using h), List.filter_map, List.length_map, List.filter_filter, len_S]
    refine S_congr fun l' _ => ?_
    by_cases h2 : l'.2 = m' <;> by_cases h3 : topI fixed l' < topI fixed l <;> simp [topI, h, h2] at h3 ⊢ <;> simp [h3]
  · rw [if_neg (by simpa using h)]
    refine (S_zero lines).symm.trans (S_congr fun l' _ => ?_)
    rw [if_neg fun z => h z.1]
/-- which pairs cross, by an order of the marks -/
def wO (o : List Str) (l l' : Str × Str) : Int := if l.2 ∈ o ∧ l'.2 ∈ o ∧ o.idxOf l.2 < o.idxOf l'.2 ∧ topI fixed l' < topI fixed l then 1 else 0
def pairT (c : Str → Str → Int) : List Str → Int
  | [] => 0
  | x :: xs => S xs (c x) + pairT c xs
theorem ind_mem {o : List Str} (hn : o.Nodup) (m : Str) : (if m ∈ o then (1 : Int) else 0) = S o fun x => if m = x then 1 else 0 := by
  induction o with
  | nil => rfl
  | cons y o ih =>
    rw [List.nodup_cons] at hn
    rw [S_cons, ← ih hn.2]
    by_cases h : m = y
    · subst h
      rw [if_pos List.mem_cons_self, if_pos rfl, if_neg hn.1]; rfl
    · rw [if_neg h]
      by_cases h2 : m ∈ o
      · rw [if_pos (List.mem_cons_of_mem _ h2), if_pos h2]; rfl
      · rw [if_neg (by simp [h, h2]), if_neg h2]; rfl
theorem pairT_S {o : List Str} (hn : o.Nodup) : pairT (cs fixed lines) o = S lines fun l => S lines fun l' => wO fixed o l l' := by
  induction o with
  | nil =>
    show (0 : Int) = _
    rw [← S_zero lines]
    refine S_congr fun l _ => ?_
    rw [← S_zero lines]
    refine S_congr fun l' _ => ?_
    unfold wO
    rw [if_neg (by simp)]
  | cons m o ih =>
    have hn' := List.nodup_cons.mp hn
    show S o (cs fixed lines m) + pairT (cs fixed lines) o = _
    rw [ih hn'.2]
    have e1 : S o (cs fixed lines m) = S lines fun l => S lines fun l' => if l.2 = m ∧ l'.2 ∈ o ∧ topI fixed l' < topI fixed l then 1 else 0 := by
      rw [S_congr fun m' _ => cs_S fixed lines m m', S_comm]
      refine S_congr fun l _ => ?_
      rw [S_comm]
      refine S_congr fun l' _ => ?_
      by_cases h1 : l.2 = m
      · by_cases h3 : topI fixed l' < topI fixed l
        · have e := ind_mem hn'.2 l'.2
          simp only [h1, h3, true_and, and_true]
          exact e.symm
        · simp only [h3, and_false, if_false]; exact S_zero o
      · simp only [h1, false_and, if_false]; exact S_zero o
    rw [e1, ← S_add]
    refine S_congr fun l _ => ?_
    rw [← S_add]
    refine S_congr fun l' _ => ?_
    unfold wO
    have q1 : (m :: o).idxOf m = 0 := by simp
    have qs : ∀ x, x ≠ m → (m :: o).idxOf x = o.idxOf x + 1 := fun x hx => by
      rw [List.idxOf_cons]
      have e : (m == x) = false := beq_false_of_ne (Ne.symm hx)
      rw [e]
      rfl
    by_cases h1 : l.2 = m
    · have n1 : l.2 ∉ o := by rw [h1]; exact hn'.1
      by_cases h2 : l'.2 = m
      · have n2 : l'.2 ∉ o := by rw [h2]; exact hn'.1
        simp [h1, h2, hn'.1]
      · have h2' : l'.2 ≠ m := h2
        simp only [h1, q1, qs _ h2', List.mem_cons, true_or, h2, false_or, true_and, Nat.zero_lt_succ]
        rw [if_neg (c := m ∈ o ∧ _) fun z => hn'.1 z.1]
        omega
    · have h1' : l.2 ≠ m := h1
      by_cases h2 : l'.2 = m
      · simp [h1, h2, hn'.1]
      · have h2' : l'.2 ≠ m := h2
        simp only [h1, qs _ h1', qs _ h2', List.mem_cons, h2, false_or, false_and, if_false, Nat.add_lt_add_iff_right]
        omega
end
end K57

/-! k57: crossings, the law's own costs and table. -/
namespace K57
open PySem PySem.Spec PyProof.Rows L2 Y
theorem cutL_take {α : Type} {xs : List α} {k : Nat} : cutL xs none (some (k : Int)) = xs.take k := by
  unfold cutL
  show (xs.drop 0).take (HT.sIx xs.length xs.length (some (k : Int)) - 0) = _
  rw [HT.sIx_nat, List.drop_zero, Nat.sub_zero]
  by_cases h : k ≤ xs.length
  · rw [Nat.min_eq_left h]
  · rw [Nat.min_eq_right (by omega), List.take_length, List.take_of_length_le (by omega)]
theorem cutL_drop {α : Type} {xs : List α} {k : Nat} : cutL xs (some (k : Int)) none = xs.drop k := by
  unfold cutL
  show (xs.drop (HT.sIx xs.length 0 (some (k : Int)))).take (xs.length - HT.sIx xs.length 0 (some (k : Int))) = _
  rw [HT.sIx_nat]
  by_cases h : k ≤ xs.length
  · rw [Nat.min_eq_left h, List.take_of_length_le (by rw [List.length_drop]; exact Nat.le_refl _)]
  · rw [Nat.min_eq_right (by omega), List.drop_of_length_le (Nat.le_refl _), List.drop_of_length_le (by omega)]
    simp
section
variable {fixed : List Str} {lines : List (Str × Str)} {o : List Str}
/-- the crossings of pairs, in both orders -/
def xO (fixed o : List Str) (l l' : Str × Str) : Int := wO fixed o l l' + wO fixed o l' l
theorem cross_ok {tops lows : List (Str × Int)} {l l' : Str × Str} (h1 : dget tops l.1 = some (topI fixed l)) (h2 : dget tops l'.1 = some (topI fixed l')) (h3 : dget lows l.2 = some (o.idxOf l.2 : Int)) (h4 : dget lows l'.2 = some (o.idxOf l'.2 : Int)) (m : l.2 ∈ o) (m' : l'.2 ∈ o) :
    ∃ b, cross (l, l', tops, lows) = .ok b ∧ (if b = true then (1 : Int) else 0) = xO fixed o l l' := by
  unfold cross
  simp only [sm_ret, sm_map1, sm_map2, sm_bnd1, sm_bnd2, sm_and, sm_or, R.bind_ok, R.bind_assoc, h1, h2, h3, h4, R.ofO_some]
  unfold xO wO ltB gtB
  generalize topI fixed l = a
  generalize topI fixed l' = b
  have e : ∀ x y : Nat, ((x : Int) - (y : Int) < 0 ↔ x < y) := fun x y => by omega
  generalize o.idxOf l.2 = p
  generalize o.idxOf l'.2 = q
  simp only [m, m', true_and]
  by_cases c1 : a - b < 0
  · rw [if_pos (by simpa using c1)]
    simp only [R.bind_ok]
    by_cases c2 : (0 : Int) < (p : Int) - (q : Int)
    · rw [if_pos (by simpa using c2)]
      refine ⟨true, rfl, ?_⟩
      rw [if_pos rfl, if_neg (by omega), if_pos (by omega)]; rfl
    · rw [if_neg (by simpa using c2), if_neg (by simp; omega)]
      refine ⟨false, rfl, ?_⟩
      rw [if_neg (by decide), if_neg (by omega), if_neg (by omega)]; rfl
  · rw [if_neg (by simpa using c1)]
    simp only [R.bind_ok]
    rw [if_neg (by decide)]
    by_cases c3 : (0 : Int) < a - b
    · rw [if_pos (by simpa using c3)]
      refine ⟨decide ((p : Int) - (q : Int) < 0), rfl, ?_⟩
      by_cases c4 : (p : Int) - (q : Int) < 0
      · rw [if_pos (by simpa using c4), if_pos (by omega), if_neg (by omega)]; rfl
      · rw [if_neg (by simpa using c4), if_neg (by omega), if_neg (by omega)]; rfl
    · rw [if_neg (by simpa using c3)]
      refine ⟨false, rfl, ?_⟩
      rw [if_neg (by decide), if_neg (by omega), if_neg (by omega)]; rfl
theorem wO_self (l : Str × Str) : wO fixed o l l = 0 := by
  unfold wO
  rw [if_neg (by omega)]
theorem S_snoc2 (xs : List (Str × Str)) (l : Str × Str) : S (xs ++ [l]) (fun a => S (xs ++ [l]) (wO fixed o a)) = S xs (fun a => S xs (wO fixed o a)) + S xs (fun b => xO fixed o l b) := by
  rw [S_append, S_cons, S_nil, S_append, S_cons, S_nil, wO_self]
  have e1 : S xs (fun a => S (xs ++ [l]) (wO fixed o a)) = S xs (fun a => S xs (wO fixed o a)) + S xs fun a => wO fixed o a l := by
    rw [← S_add]
    refine S_congr fun a _ => ?_
    rw [S_append, S_cons, S_nil]; omega
  have e2 : S xs (fun b => xO fixed o l b) = S xs (wO fixed o l) + S xs fun a => wO fixed o a l := by
    unfold xO
    exact S_add xs (wO fixed o l) fun a => wO fixed o a l
  rw [e1, e2]
  omega
theorem crossings_ok (hn : fixed.Nodup) (ho : o.Nodup) (lf : fixed.length ≤ 16777216) (lo : o.length ≤ 16777216) (hin : ∀ z ∈ lines, z.1 ∈ fixed ∧ z.2 ∈ o) : crossings (fixed, o, lines) = .ok (S lines fun a => S lines (wO fixed o a)) := by
  obtain ⟨tops, t1, t2⟩ := places_ok hn lf
  obtain ⟨lows, l1, l2⟩ := places_ok ho lo
  unfold crossings
  simp only [sm_ret, sm_map1, sm_map2, sm_bnd1, sm_bnd2, R.bind_ok, R.bind_assoc, t1, l1, R.calm_ok]
  obtain ⟨r, r1, r2⟩ := foldR_inv (f := crossings_b17 (fixed, o, lines) (tops, ()) (lows, ())) (fun k acc => acc = S (lines.take k) fun a => S (lines.take k) (wO fixed o a)) (enumL lines) 0 0 rfl fun i acc a hI ha => by
    obtain ⟨g1, g2⟩ := enumL_get ha
    rw [Nat.zero_add] at hI ⊢
    obtain ⟨hi, ei⟩ := List.getElem?_eq_some_iff.mp g1
    obtain ⟨r, r1, r2⟩ := foldR_inv (f := crossings_b16 (tops, ()) (lows, ()) a) (fun k acc' => acc' = acc + S ((lines.take i).take k) fun b => xO fixed o a.2 b) (lines.take i) 0 acc (by show acc = acc + 0; omega) fun j ac x hJ hx => by
      rw [Nat.zero_add] at hJ ⊢
      have hx0 : x ∈ lines := List.mem_of_mem_take (List.mem_of_getElem? hx)
      have ha0 : a.2 ∈ lines := List.mem_of_getElem? g1
      obtain ⟨b, b1, b2⟩ := cross_ok (fixed := fixed) (o := o) (tops := tops) (lows := lows) (l := a.2) (l' := x) (t2 _ (hin _ ha0).1) (t2 _ (hin _ hx0).1) (l2 _ (hin _ ha0).2) (l2 _ (hin _ hx0).2) (hin _ ha0).2 (hin _ hx0).2
      refine ⟨ac + (if b = true then 1 else 0), ?_, ?_⟩
      · unfold crossings_b16
        simp only [sm_ret, sm_map1, sm_map2, sm_bnd1, sm_bnd2, R.bind_ok, R.bind_assoc, b1, R.calm_ok]
        cases b
        · simp
        · simp
      · rw [hJ, b2]
        have : ((lines.take i).take (j + 1)) = (lines.take i).take j ++ [x] := by
          rw [List.take_add_one, hx]; rfl
        rw [this, S_append, S_cons, S_nil]
        omega
    refine ⟨r, ?_, ?_⟩
    · unfold crossings_b17
      simp only [sm_ret, sm_map1, sm_map2, sm_map3, sm_bnd1, sm_bnd2, R.bind_ok, R.bind_assoc, g2]
      rw [cutL_take, r1, R.bind_ok]
    · rw [r2, Nat.zero_add, List.take_of_length_le (Nat.le_refl _), hI]
      have : lines.take (i + 1) = lines.take i ++ [a.2] := by
        rw [List.take_add_one, g1]; rfl
      rw [this, S_snoc2]
  rw [r1, r2, R.bind_ok, Nat.zero_add, enumL_len, List.take_of_length_le (Nat.le_refl _)]
end
end K57

/-! orders by tables: shared. -/
namespace K57
open PySem PySem.Spec PyProof.Rows L2 Y
section
variable {fixed marks : List Str} {lines : List (Str × Str)}
theorem endsD (h : Nat) (hh : h < marks.length) : (marks.map (endsM fixed lines)).getD h [] = endsM fixed lines (marks.getD h ⟨#[]⟩) := by
  rw [List.getD_eq_getElem?_getD, List.getD_eq_getElem?_getD, List.getElem?_map, List.getElem?_eq_getElem hh]
  rfl
theorem cc_cs {k j : Nat} (hk : k < marks.length) (hj : j < marks.length) : cc (marks.map (endsM fixed lines)) k j = cs fixed lines (marks.getD k ⟨#[]⟩) (marks.getD j ⟨#[]⟩) := by
  unfold cc cs
  rw [endsD k hk, endsD j hj]
theorem getD_of {k : Nat} {m : Str} (h : marks[k]? = some m) : marks.getD k ⟨#[]⟩ = m := by
  rw [List.getD_eq_getElem?_getD, h]; rfl
theorem full_mem (n : Nat) : mem n (2 ^ n - 1) = List.range n := by
  unfold mem
  rw [List.filter_eq_self]
  intro i hi
  rw [Nat.testBit_two_pow_sub_one]
  exact decide_eq_true (List.mem_range.mp hi)
theorem map_getD (xs : List Str) : (List.range xs.length).map (fun h => xs.getD h ⟨#[]⟩) = xs := by
  apply List.ext_getElem
  · simp
  · intro i h1 h2
    rw [List.getElem_map, List.getElem_range, List.getD_eq_getElem?_getD, List.getElem?_eq_getElem h2]
    rfl
theorem ord_perm (h8 : marks.length ≤ 8) : (ordM (marks.map (endsM fixed lines)) marks).Perm marks ∧ pairT (cs fixed lines) (ordM (marks.map (endsM fixed lines)) marks) = tt (cc (marks.map (endsM fixed lines))) marks.length (2 ^ marks.length - 1) := by
  have hE : (marks.map (endsM fixed lines)).length = marks.length := List.length_map ..
  have hp : 0 < 2 ^ marks.length := Nat.pow_pos (by decide)
  unfold ordM
  rw [hE]
  obtain ⟨h1, h2⟩ := chain_ok (cc (marks.map (endsM fixed lines))) marks.length h8 (2 ^ marks.length) (2 ^ marks.length - 1) (by omega) (by omega)
  refine ⟨?_, ?_⟩
  · have z := h1.map fun h => marks.getD h ⟨#[]⟩
    rw [full_mem, map_getD] at z
    exact z
  · rw [← h2]
    have all : ∀ h ∈ chain (cc (marks.map (endsM fixed lines))) marks.length (2 ^ marks.length) (2 ^ marks.length - 1), h < marks.length := fun h m => chain_mem _ _ h8 (by omega) (by omega) m
    generalize chain (cc (marks.map (endsM fixed lines))) marks.length (2 ^ marks.length) (2 ^ marks.length - 1) = ch at all
    induction ch with
    | nil => rfl
    | cons x xs ih =>
      rw [List.map_cons]
      show S _ _ + pairT _ _ = (xs.map (cc (marks.map (endsM fixed lines)) x)).sum + pairS _ xs
      rw [ih fun h m => all h (List.mem_cons_of_mem _ m), S_map]
      congr 1
      exact S_congr fun y hy => (cc_cs (all x List.mem_cons_self) (all y (List.mem_cons_of_mem _ hy))).symm
theorem sort_eq {xs ys : List Str} (h : xs.Perm ys) : xs.mergeSort leT = ys.mergeSort leT :=
  List.Perm.eq_of_pairwise (fun a b _ _ => leT_anti) (List.pairwise_mergeSort leT_trans leT_tot xs) (List.pairwise_mergeSort leT_trans leT_tot ys) (((List.mergeSort_perm xs leT).trans h).trans (List.mergeSort_perm ys leT).symm)
end
end K57

/-! k56: neighbours that change places. -/
namespace K56
open PySem PySem.Spec PyProof.Rows L2 Y K57
section
variable {α : Type} [DecidableEq α]
theorem idxOf_app {p : List α} {x : α} (q : List α) : (p ++ q).idxOf x = if x ∈ p then p.idxOf x else p.length + q.idxOf x := by
  by_cases h : x ∈ p
  · rw [if_pos h, List.idxOf_append, if_pos h]
  · rw [if_neg h, List.idxOf_append, if_neg h]; omega
theorem idxOf_cns {x y : α} {q : List α} (h : y ≠ x) : (y :: q).idxOf x = q.idxOf x + 1 := by
  rw [List.idxOf_cons]
  have : (y == x) = false := by simpa using h
  rw [this]; rfl
theorem idx_sw {p r : List α} {a b : α} (hn : (p ++ a :: b :: r).Nodup) (m : α) :
    (p ++ a :: b :: r).idxOf a = p.length ∧ (p ++ a :: b :: r).idxOf b = p.length + 1 ∧
    (p ++ b :: a :: r).idxOf m = if m = a then p.length + 1 else if m = b then p.length else (p ++ a :: b :: r).idxOf m := by
  have h1 := List.nodup_append.mp hn
  have ha : a ∉ p := fun m => h1.2.2 a m a List.mem_cons_self rfl
  have hb : b ∉ p := fun m => h1.2.2 b m b (List.mem_cons_of_mem _ List.mem_cons_self) rfl
  have hab : a ≠ b := fun z => (List.nodup_cons.mp h1.2.1).1 (by rw [z]; exact List.mem_cons_self)
  refine ⟨?_, ?_, ?_⟩
  · rw [idxOf_app, if_neg ha, List.idxOf_cons_self]; omega
  · rw [idxOf_app, if_neg hb, idxOf_cns hab, List.idxOf_cons_self]
  · by_cases e1 : m = a
    · subst e1
      rw [if_pos rfl, idxOf_app, if_neg ha, idxOf_cns (fun z => hab z.symm), List.idxOf_cons_self]
    · rw [if_neg e1]
      by_cases e2 : m = b
      · subst e2
        rw [if_pos rfl, idxOf_app, if_neg hb, List.idxOf_cons_self]; omega
      · rw [if_neg e2, idxOf_app, idxOf_app]
        split
        · rfl
        · rw [idxOf_cns (fun z => e2 z.symm), idxOf_cns (fun z => e1 z.symm), idxOf_cns (fun z => e1 z.symm), idxOf_cns (fun z => e2 z.symm)]
theorem idx_far {p r : List α} {a b : α} (hn : (p ++ a :: b :: r).Nodup) {m : α} (e1 : m ≠ a) (e2 : m ≠ b) : (p ++ a :: b :: r).idxOf m < p.length ∨ p.length + 1 < (p ++ a :: b :: r).idxOf m := by
  rw [idxOf_app]
  by_cases h : m ∈ p
  · rw [if_pos h]
    exact .inl (List.idxOf_lt_length_of_mem h)
  · rw [if_neg h, idxOf_cns (fun z => e1 z.symm), idxOf_cns (fun z => e2 z.symm)]
    omega
theorem lt_sw {p r : List α} {a b : α} (hn : (p ++ a :: b :: r).Nodup) (m m' : α) :
    ((p ++ b :: a :: r).idxOf m < (p ++ b :: a :: r).idxOf m') ↔ if m = a ∧ m' = b then False else if m = b ∧ m' = a then True else (p ++ a :: b :: r).idxOf m < (p ++ a :: b :: r).idxOf m' := by
  obtain ⟨ia, ib, im⟩ := idx_sw hn m
  obtain ⟨_, _, im'⟩ := idx_sw hn m'
  have h1 := List.nodup_append.mp hn
  have hab : a ≠ b := fun z => (List.nodup_cons.mp h1.2.1).1 (by rw [z]; exact List.mem_cons_self)
  rw [im, im']
  by_cases a1 : m = a
  · have n1 : m ≠ b := fun z => hab (a1.symm.trans z)
    have n2 : ¬ (m = b ∧ m' = a) := fun z => n1 z.1
    by_cases b2 : m' = b
    · have n3 : m' ≠ a := fun z => hab (z.symm.trans b2)
      have n4 : m = a ∧ m' = b := ⟨a1, b2⟩
      rw [if_pos a1, if_neg n3, if_pos b2, if_pos n4]
      exact ⟨fun h => by omega, fun h => h.elim⟩
    · have n4 : ¬ (m = a ∧ m' = b) := fun z => b2 z.2
      rw [if_neg n4, if_neg n2, if_pos a1]
      by_cases a2 : m' = a
      · rw [if_pos a2, a1, a2]; exact ⟨fun h => by omega, fun h => by omega⟩
      · rw [if_neg a2, if_neg b2, a1, ia]
        have := idx_far hn a2 b2
        omega
  · have n4 : ¬ (m = a ∧ m' = b) := fun z => a1 z.1
    rw [if_neg n4, if_neg a1]
    by_cases b1 : m = b
    · by_cases a2 : m' = a
      · have n5 : m = b ∧ m' = a := ⟨b1, a2⟩
        rw [if_pos n5, if_pos b1, if_pos a2]
        exact ⟨fun _ => trivial, fun _ => by omega⟩
      · have n5 : ¬ (m = b ∧ m' = a) := fun z => a2 z.2
        rw [if_neg n5, if_pos b1, if_neg a2]
        by_cases b2 : m' = b
        · rw [if_pos b2, b1, b2]; exact ⟨fun h => by omega, fun h => by omega⟩
        · rw [if_neg b2, b1, ib]
          have := idx_far hn a2 b2
          omega
    · have n5 : ¬ (m = b ∧ m' = a) := fun z => b1 z.1
      rw [if_neg n5, if_neg b1]
      have h0 := idx_far hn a1 b1
      by_cases a2 : m' = a
      · rw [if_pos a2, a2, ia]; omega
      · rw [if_neg a2]
        by_cases b2 : m' = b
        · rw [if_pos b2, b2, ib]; omega
        · rw [if_neg b2]
end
/-- crossings of two rows -/
def XX (U L : List Str) (ls : List (Str × Str)) : Int := S ls fun x => S ls (wO U L x)
def lessQ (p q : Int) : Int := b2n (decide (q < p)) - b2n (decide (p < q))
/-- what neighbours save -/
def CL (ps qs : List Int) : Int := S ps fun p => S qs fun q => lessQ p q
theorem S_sub {α : Type} (xs : List α) (f g : α → Int) : S xs (fun x => f x - g x) = S xs f - S xs g := by
  induction xs with
  | nil => rfl
  | cons x xs ih => rw [S_cons, S_cons, S_cons, ih]; omega
theorem S_two {α : Type} (xs : List α) (p q : α → Bool) (f : α → α → Int) : (S (xs.filter p) fun x => S (xs.filter q) (f x)) = S xs fun x => S xs fun y => if p x = true ∧ q y = true then f x y else 0 := by
  rw [S_filter]
  refine S_congr fun x _ => ?_
  by_cases h : p x = true
  · rw [if_pos h, S_filter]
    refine S_congr fun y _ => ?_
    by_cases k : q y = true
    · rw [if_pos k, if_pos ⟨h, k⟩]
    · rw [if_neg k, if_neg fun z => k z.2]
  · rw [if_neg h]
    rw [S_congr (g := fun _ => 0) fun y _ => if_neg fun z => h z.1, S_zero]
section
variable {U L p r : List Str} {ls : List (Str × Str)} {a b : Str}
theorem topI_lt (U : List Str) (l l' : Str × Str) : (topI U l < topI U l') ↔ U.idxOf l.1 < U.idxOf l'.1 := by unfold topI; omega
theorem wO_in {l l' : Str × Str} (h : l.2 ∈ L) (h' : l'.2 ∈ L) : wO U L l l' = if L.idxOf l.2 < L.idxOf l'.2 ∧ U.idxOf l'.1 < U.idxOf l.1 then 1 else 0 := by
  unfold wO
  by_cases c : L.idxOf l.2 < L.idxOf l'.2 ∧ U.idxOf l'.1 < U.idxOf l.1
  · rw [if_pos c, if_pos ⟨h, h', c.1, (topI_lt U l' l).mpr c.2⟩]
  · rw [if_neg c, if_neg fun z => c ⟨z.2.2.1, (topI_lt U l' l).mp z.2.2.2⟩]
theorem b2n_ite (c : Prop) [Decidable c] : b2n (decide c) = if c then 1 else 0 := by
  unfold b2n
  by_cases h : c <;> simp [h]
/-- neighbours of the lower row -/
theorem XX_low (hn : (p ++ a :: b :: r).Nodup) (hin : ∀ z ∈ ls, z.2 ∈ p ++ a :: b :: r) :
    XX U (p ++ a :: b :: r) ls - XX U (p ++ b :: a :: r) ls = CL (endsM U ls a) (endsM U ls b) := by
  have hm : ∀ m, m ∈ p ++ b :: a :: r ↔ m ∈ p ++ a :: b :: r := fun m => by
    simp only [List.mem_append, List.mem_cons]
    constructor
    · rintro (h | h | h | h)
      · exact .inl h
      · exact .inr (.inr (.inl h))
      · exact .inr (.inl h)
      · exact .inr (.inr (.inr h))
    · rintro (h | h | h | h)
      · exact .inl h
      · exact .inr (.inr (.inl h))
      · exact .inr (.inl h)
      · exact .inr (.inr (.inr h))
  have h1 := List.nodup_append.mp hn
  have hab : a ≠ b := fun z => (List.nodup_cons.mp h1.2.1).1 (by rw [z]; exact List.mem_cons_self)
  have key : ∀ x ∈ ls, ∀ y ∈ ls, wO U (p ++ a :: b :: r) x y - wO U (p ++ b :: a :: r) x y = (if x.2 = a ∧ y.2 = b then b2n (decide (U.idxOf y.1 < U.idxOf x.1)) else 0) - (if x.2 = b ∧ y.2 = a then b2n (decide (U.idxOf y.1 < U.idxOf x.1)) else 0) := fun x hx y hy => by
    rw [wO_in (hin x hx) (hin y hy), wO_in ((hm _).mpr (hin x hx)) ((hm _).mpr (hin y hy)), b2n_ite]
    obtain ⟨ia, ib, _⟩ := idx_sw hn a
    have hl := lt_sw hn x.2 y.2
    by_cases c1 : x.2 = a ∧ y.2 = b
    · rw [if_pos c1] at hl
      have c2 : ¬ (x.2 = b ∧ y.2 = a) := fun z => hab (c1.1.symm.trans z.1)
      rw [if_pos c1, if_neg c2, if_neg (fun z : _ ∧ _ => hl.mp z.1)]
      rw [c1.1, c1.2, ia, ib]
      by_cases d : U.idxOf y.1 < U.idxOf x.1
      · rw [if_pos ⟨by omega, d⟩, if_pos d]
      · rw [if_neg (fun z => d z.2), if_neg d]
    · rw [if_neg c1] at hl
      by_cases c2 : x.2 = b ∧ y.2 = a
      · rw [if_pos c2] at hl
        have hl : (p ++ b :: a :: r).idxOf x.2 < (p ++ b :: a :: r).idxOf y.2 := hl.mpr trivial
        rw [if_neg c1, if_pos c2]
        by_cases d : U.idxOf y.1 < U.idxOf x.1
        · have o : ¬ ((p ++ a :: b :: r).idxOf x.2 < (p ++ a :: b :: r).idxOf y.2 ∧ U.idxOf y.1 < U.idxOf x.1) := fun z => by
            have z := z.1
            rw [c2.1, c2.2, ia, ib] at z
            omega
          rw [if_neg o, if_pos ⟨hl, d⟩, if_pos d]
        · rw [if_neg (fun z => d z.2), if_neg (fun z => d z.2), if_neg d]
      · rw [if_neg c2] at hl
        rw [if_neg c1, if_neg c2]
        have e : ((p ++ b :: a :: r).idxOf x.2 < (p ++ b :: a :: r).idxOf y.2 ∧ U.idxOf y.1 < U.idxOf x.1) ↔ ((p ++ a :: b :: r).idxOf x.2 < (p ++ a :: b :: r).idxOf y.2 ∧ U.idxOf y.1 < U.idxOf x.1) := and_congr hl Iff.rfl
        by_cases d : (p ++ a :: b :: r).idxOf x.2 < (p ++ a :: b :: r).idxOf y.2 ∧ U.idxOf y.1 < U.idxOf x.1
        · rw [if_pos d, if_pos (e.mpr d)]; rfl
        · rw [if_neg d, if_neg (fun z => d (e.mp z))]
  unfold XX
  let A : (Str × Str) → (Str × Str) → Int := fun x y => if x.2 = a ∧ y.2 = b then b2n (decide (U.idxOf y.1 < U.idxOf x.1)) else 0
  let B : (Str × Str) → (Str × Str) → Int := fun x y => if x.2 = b ∧ y.2 = a then b2n (decide (U.idxOf y.1 < U.idxOf x.1)) else 0
  have e1 : (S ls fun x => S ls (wO U (p ++ a :: b :: r) x)) - (S ls fun x => S ls (wO U (p ++ b :: a :: r) x)) = S ls fun x => S ls fun y => A x y - B y x := by
    rw [← S_sub]
    have e2 : (S ls fun x => S ls (wO U (p ++ a :: b :: r) x) - S ls (wO U (p ++ b :: a :: r) x)) = S ls fun x => S ls (A x) - S ls (B x) := S_congr fun x hx => by
      rw [← S_sub, ← S_sub]
      exact S_congr fun y hy => key x hx y hy
    rw [e2, S_sub, S_comm ls ls B, ← S_sub]
    exact S_congr fun x _ => (S_sub ls _ _).symm
  rw [e1]
  have e3 : CL (endsM U ls a) (endsM U ls b) = S (ls.filter fun z => decide (z.2 = a)) fun x => S (ls.filter fun z => decide (z.2 = b)) fun y => lessQ (U.idxOf x.1 : Int) (U.idxOf y.1 : Int) := by
    unfold CL endsM
    rw [S_map]
    exact S_congr fun x _ => S_map _ _ _
  rw [e3, S_two]
  refine S_congr fun x _ => ?_
  refine S_congr fun y _ => ?_
  show (if x.2 = a ∧ y.2 = b then b2n (decide (U.idxOf y.1 < U.idxOf x.1)) else 0) - (if y.2 = b ∧ x.2 = a then b2n (decide (U.idxOf x.1 < U.idxOf y.1)) else 0) = _
  unfold lessQ
  by_cases c : x.2 = a ∧ y.2 = b
  · rw [if_pos c, if_pos ⟨c.2, c.1⟩, if_pos ⟨decide_eq_true c.1, decide_eq_true c.2⟩]
    simp
  · rw [if_neg c, if_neg (fun z => c ⟨z.2, z.1⟩), if_neg (fun z => c ⟨of_decide_eq_true z.1, of_decide_eq_true z.2⟩)]
    rfl
end
end K56

/-! k56: rows and lines, their crossings. -/
namespace K56
open PySem PySem.Spec PyProof.Rows L2 Y K57
abbrev Lns := List (Str × Str)
def endsU (L : List Str) (ls : Lns) (a : Str) : List Int := (ls.filter fun z => decide (z.1 = a)).map fun z => (L.idxOf z.2 : Int)
theorem XX_symm {U L : List Str} {ls : Lns} (hin : ∀ z ∈ ls, z.1 ∈ U ∧ z.2 ∈ L) : XX U L ls = XX L U (ls.map fun z => (z.2, z.1)) := by
  unfold XX
  have e : (S (ls.map fun z => (z.2, z.1)) fun x => S (ls.map fun z => (z.2, z.1)) (wO L U x)) = S ls fun x => S ls fun y => wO L U (x.2, x.1) (y.2, y.1) := by
    rw [S_map]
    exact S_congr fun x _ => S_map _ _ _
  rw [e, S_comm ls ls fun x y => wO L U (x.2, x.1) (y.2, y.1)]
  refine S_congr fun x hx => S_congr fun y hy => ?_
  rw [wO_in (hin x hx).2 (hin y hy).2, wO_in (show (y.2, y.1).2 ∈ U from (hin y hy).1) (show (x.2, x.1).2 ∈ U from (hin x hx).1)]
  by_cases c : L.idxOf x.2 < L.idxOf y.2 ∧ U.idxOf y.1 < U.idxOf x.1
  · rw [if_pos c, if_pos ⟨c.2, c.1⟩]
  · rw [if_neg c, if_neg fun z => c ⟨z.2, z.1⟩]
theorem XX_up {L p r : List Str} {ls : Lns} {a b : Str} (hn : (p ++ a :: b :: r).Nodup) (hin : ∀ z ∈ ls, z.1 ∈ p ++ a :: b :: r ∧ z.2 ∈ L) :
    XX (p ++ a :: b :: r) L ls - XX (p ++ b :: a :: r) L ls = CL (endsU L ls a) (endsU L ls b) := by
  have hm : ∀ m, m ∈ p ++ a :: b :: r → m ∈ p ++ b :: a :: r := fun m => by
    simp only [List.mem_append, List.mem_cons]
    rintro (h | h | h | h)
    · exact .inl h
    · exact .inr (.inr (.inl h))
    · exact .inr (.inl h)
    · exact .inr (.inr (.inr h))
  rw [XX_symm hin, XX_symm (U := p ++ b :: a :: r) fun z m => ⟨hm _ (hin z m).1, (hin z m).2⟩]
  have h := XX_low (U := L) (ls := ls.map fun z => (z.2, z.1)) hn (fun z m => by
    obtain ⟨y, my, ey⟩ := List.mem_map.mp m
    rw [← ey]; exact (hin y my).1)
  rw [h]
  have e : ∀ c, endsM L (ls.map fun z => (z.2, z.1)) c = endsU L ls c := fun c => by
    unfold endsM endsU
    rw [List.filter_map, List.map_map]
    rfl
  rw [e, e]
abbrev Rws := List (List Str)
def row (rows : Rws) (k : Nat) : List Str := rows.getD k []
def btw (rows : Rws) (lines : Lns) (k : Nat) : Lns := lines.filter fun z => decide (z.1 ∈ row rows k) && decide (z.2 ∈ row rows (k + 1))
/-- the crossings of all -/
def AA (rows : Rws) (lines : Lns) : Int := S (List.range (rows.length - 1)) fun k => XX (row rows k) (row rows (k + 1)) (btw rows lines k)
structure RL (rows : Rws) (lines : Lns) : Prop where
  n1 : 1 ≤ rows.length
  n4 : rows.length ≤ 60
  sz : ∀ k, (row rows k).length ≤ 60
  nd : ∀ k, (row rows k).Nodup
  one : ∀ j k m, m ∈ row rows j → m ∈ row rows k → j = k
  ok : ∀ k, ∀ m ∈ row rows k, PyData.strOk m = true
  ll : lines.length ≤ 100
  ln : ∀ z ∈ lines, ∃ k, k + 1 < rows.length ∧ z.1 ∈ row rows k ∧ z.2 ∈ row rows (k + 1)
theorem row_get {rows : Rws} {k : Nat} (h : k < rows.length) : rows[k]? = some (row rows k) := by
  unfold row
  rw [List.getD_eq_getElem?_getD, List.getElem?_eq_getElem h]; rfl
theorem row_getI {rows : Rws} {k : Nat} (h : k < rows.length) : getI rows (k : Int) = .ok (row rows k) := getI_nat (row_get h)
section
variable {rows : Rws} {lines : Lns}
theorem btw_in {k : Nat} : ∀ z ∈ btw rows lines k, z.1 ∈ row rows k ∧ z.2 ∈ row rows (k + 1) := fun z m => by
  unfold btw at m
  have h := (List.mem_filter.mp m).2
  rw [Bool.and_eq_true, decide_eq_true_iff, decide_eq_true_iff] at h
  exact h
theorem btw_len {k : Nat} : (btw rows lines k).length ≤ lines.length := List.length_filter_le _ _
theorem between_ok {k : Nat} (hl : lines.length ≤ 100) (hk : k + 1 < rows.length) : between (rows, (k : Int), lines) = .ok (btw rows lines k) := by
  unfold between
  rw [lc_ok (p := fun z => decide (z.1 ∈ row rows k) && decide (z.2 ∈ row rows (k + 1))) (g := fun z => z) (xs := lines) (s' := ()) (by simp) (fun z _ => ?_) (fun z _ _ => by simp) (by omega)]
  · simp only [R.bind_ok, List.map_id']
    rfl
  · have e1 : ((k : Int) + 1) = ((k + 1 : Nat) : Int) := by push_cast; rfl
    simp only [sm_and, sm_map2, sm_map1, sm_ret, sm_bnd2, R.bind_ok, row_getI (show k < rows.length by omega), e1, row_getI hk, inL]
    by_cases h : z.1 ∈ row rows k
    · rw [decide_eq_true h, if_pos rfl]; rfl
    · rw [decide_eq_false h, if_neg (by decide)]; rfl
theorem cross_ok' (h : RL rows lines) {k : Nat} {ls : Lns} (hl : ls.length ≤ 100) (hin : ∀ z ∈ ls, z.1 ∈ row rows k ∧ z.2 ∈ row rows (k + 1)) : crossings (row rows k, row rows (k + 1), ls) = .ok (XX (row rows k) (row rows (k + 1)) ls) :=
  crossings_ok (h.nd k) (h.nd (k + 1)) (Nat.le_trans (h.sz _) (by decide)) (Nat.le_trans (h.sz _) (by decide)) hin
theorem rangeL0 (n : Nat) : rangeL 0 (n : Int) = (List.range n).map fun (k : Nat) => (k : Int) := by
  unfold rangeL
  simp
theorem all_ok (h : RL rows lines) : all_crossings (rows, lines) = .ok (AA rows lines) := by
  unfold all_crossings
  have e0 : ((rows.length : Int) - 1) = ((rows.length - 1 : Nat) : Int) := by have := h.n1; omega
  have hn4 := h.n4
  have hr : rng1 ((rows.length : Int) - 1) = .ok ((List.range (rows.length - 1)).map fun (k : Nat) => (k : Int)) := by
    rw [rng1_ok (by omega) (by omega), e0, rangeL0]
  rw [sm_map1, lc_ok (p := fun _ => true) (g := fun (a : Int) => XX (row rows a.toNat) (row rows (a.toNat + 1)) (btw rows lines a.toNat)) (xs := (List.range (rows.length - 1)).map fun (k : Nat) => (k : Int)) (s' := ()) (by simp [hr]) (fun _ _ => by simp) (fun a ha _ => ?_) (by simp; omega)]
  · simp only [R.bind_ok, filter_tt, List.map_map]
    rfl
  · obtain ⟨k, hk, rfl⟩ := List.mem_map.mp ha
    have hk := List.mem_range.mp hk
    have e1 : ((k : Int) + 1) = ((k + 1 : Nat) : Int) := by push_cast; rfl
    simp only [sm_map2, sm_ret, sm_bnd2, sm_bnd1, R.bind_ok, row_getI (show k < rows.length by omega), e1, row_getI (show k + 1 < rows.length by omega), between_ok h.ll (show k + 1 < rows.length by omega), R.calm_ok, cross_ok' h (Nat.le_trans btw_len h.ll) btw_in, Int.toNat_natCast]
/-- the law's own count -/
theorem two_ok {U L : List Str} (hu : U.length ≤ 60) (hL : L.length ≤ 60) (hl : lines.length ≤ 100) : _law_two (U, L, lines) = .ok (XX U L (lines.filter fun z => decide (z.1 ∈ U) && decide (z.2 ∈ L))) := by
  let ls := lines.filter fun z => decide (z.1 ∈ U) && decide (z.2 ∈ L)
  have hin : ∀ z ∈ ls, z.1 ∈ U ∧ z.2 ∈ L := fun z m => by
    have h := (List.mem_filter.mp m).2
    rw [Bool.and_eq_true, decide_eq_true_iff, decide_eq_true_iff] at h
    exact h
  have lsl : ls.length ≤ 100 := Nat.le_trans (List.length_filter_le _ _) hl
  let pr : Str × Str → Int × Int := fun z => ((U.idxOf z.1 : Int), (L.idxOf z.2 : Int))
  unfold _law_two
  rw [lc_ok (p := fun z => decide (z.1 ∈ U) && decide (z.2 ∈ L)) (g := pr) (xs := lines) (s' := ()) (by simp) (fun z _ => ?_) (fun z _ hz => ?_) (by omega)]
  · have fold : ∀ (xs : Lns) (acc : Int), (∀ z ∈ xs, z ∈ ls) → foldR (_law_two_b11 (U, L, lines) (ls.map pr, ())) acc (xs.map pr) = .ok (acc + S xs fun x => S ls fun y => if U.idxOf x.1 < U.idxOf y.1 ∧ L.idxOf y.2 < L.idxOf x.2 then 1 else 0) := by
      intro xs
      induction xs with
      | nil => intro acc _; rw [S_nil, Int.add_zero]; rfl
      | cons x xs ih =>
        intro acc hx
        rw [List.map_cons, S_cons]
        unfold foldR
        have e : _law_two_b11 (U, L, lines) (ls.map pr, ()) acc (pr x) = .ok (acc + S ls fun y => if U.idxOf x.1 < U.idxOf y.1 ∧ L.idxOf y.2 < L.idxOf x.2 then 1 else 0) := by
          unfold _law_two_b11
          rw [sm_map2, sm_ret, R.bind_ok, sm_map1, lc_ok (p := fun y => decide ((pr x).1 < y.1) && decide (y.2 < (pr x).2)) (g := fun y => y) (xs := ls.map pr) (s' := ()) (by simp) (fun y _ => ?_) (fun y _ _ => by simp) (by simp; omega)]
          · simp only [R.bind_ok, List.map_id']
            congr 2
            rw [List.filter_map, List.length_map, len_S]
            refine S_congr fun y _ => ?_
            show (if (decide ((U.idxOf x.1 : Int) < (U.idxOf y.1 : Int)) && decide ((L.idxOf y.2 : Int) < (L.idxOf x.2 : Int))) = true then (1 : Int) else 0) = _
            by_cases c : U.idxOf x.1 < U.idxOf y.1 ∧ L.idxOf y.2 < L.idxOf x.2
            · rw [if_pos c, if_pos (by rw [Bool.and_eq_true, decide_eq_true_iff, decide_eq_true_iff]; exact ⟨by omega, by omega⟩)]
            · rw [if_neg c, if_neg (by rw [Bool.and_eq_true, decide_eq_true_iff, decide_eq_true_iff]; exact fun z => c ⟨by omega, by omega⟩)]
          · simp only [sm_and, sm_map2, sm_map1, sm_ret, R.bind_ok, ltB, gtB]
            by_cases c : (pr x).1 < y.1
            · rw [decide_eq_true c, if_pos rfl]; rfl
            · rw [decide_eq_false c, if_neg (by decide)]; rfl
        rw [e, R.bind_ok, ih _ fun z m => hx z (List.mem_cons_of_mem _ m), Int.add_assoc]
    have f0 := fold ls 0 fun _ m => m
    rw [Int.zero_add] at f0
    have f0 : foldR (_law_two_b11 (U, L, lines) ((lines.filter fun z => decide (z.1 ∈ U) && decide (z.2 ∈ L)).map pr, ())) 0 ((lines.filter fun z => decide (z.1 ∈ U) && decide (z.2 ∈ L)).map pr) = _ := f0
    simp only [R.bind_ok, sm_ret]
    rw [f0, R.bind_ok]
    congr 1
    show _ = XX U L ls
    unfold XX
    rw [S_comm]
    refine S_congr fun y hy => S_congr fun x hx => ?_
    rw [wO_in (hin y hy).2 (hin x hx).2]
    by_cases c : U.idxOf x.1 < U.idxOf y.1 ∧ L.idxOf y.2 < L.idxOf x.2
    · rw [if_pos c, if_pos ⟨c.2, c.1⟩]
    · rw [if_neg c, if_neg fun z => c ⟨z.2, z.1⟩]
  · simp only [sm_and, sm_map2, sm_ret, R.bind_ok, inL]
    by_cases c : z.1 ∈ U
    · rw [decide_eq_true c, if_pos rfl]; rfl
    · rw [decide_eq_false c, if_neg (by decide)]; rfl
  · have hz : (decide (z.1 ∈ U) && decide (z.2 ∈ L)) = true := hz
    rw [Bool.and_eq_true, decide_eq_true_iff, decide_eq_true_iff] at hz
    simp only [sm_map2, sm_bnd2, sm_ret, R.bind_ok, idxR_of hz.1, idxR_of hz.2]
    rfl
theorem lawall_ok (h : RL rows lines) : _law_all (rows, lines) = .ok (AA rows lines) := by
  unfold _law_all
  have e0 : ((rows.length : Int) - 1) = ((rows.length - 1 : Nat) : Int) := by have := h.n1; omega
  have hn4 := h.n4
  have hr : rng1 ((rows.length : Int) - 1) = .ok ((List.range (rows.length - 1)).map fun (k : Nat) => (k : Int)) := by
    rw [rng1_ok (by omega) (by omega), e0, rangeL0]
  rw [sm_map1, lc_ok (p := fun _ => true) (g := fun (a : Int) => XX (row rows a.toNat) (row rows (a.toNat + 1)) (btw rows lines a.toNat)) (xs := (List.range (rows.length - 1)).map fun (k : Nat) => (k : Int)) (s' := ()) (by simp [hr]) (fun _ _ => by simp) (fun a ha _ => ?_) (by simp; omega)]
  · simp only [R.bind_ok, filter_tt, List.map_map]
    rfl
  · obtain ⟨k, hk, rfl⟩ := List.mem_map.mp ha
    have hk := List.mem_range.mp hk
    have e1 : ((k : Int) + 1) = ((k + 1 : Nat) : Int) := by push_cast; rfl
    simp only [sm_map2, sm_ret, sm_bnd2, sm_bnd1, R.bind_ok, row_getI (show k < rows.length by omega), e1, row_getI (show k + 1 < rows.length by omega), R.calm_ok, two_ok (h.sz k) (h.sz (k + 1)) h.ll, Int.toNat_natCast]
    rfl
end
end K56

/-! k56: rows with the same marks; sweeps. -/
namespace K56
open PySem PySem.Spec PyProof.Rows L2 Y K57
/-- the same marks in each row -/
structure RP (rows rows' : Rws) : Prop where
  len : rows'.length = rows.length
  pm : ∀ k, (row rows' k).Perm (row rows k)
theorem RP.refl (rows : Rws) : RP rows rows := ⟨rfl, fun _ => .refl _⟩
theorem RP.trans {a b c : Rws} (h : RP a b) (k : RP b c) : RP a c := ⟨k.len.trans h.len, fun i => (k.pm i).trans (h.pm i)⟩
theorem RP.symm {a b : Rws} (h : RP a b) : RP b a := ⟨h.len.symm, fun i => (h.pm i).symm⟩
theorem RL.of {rows rows' : Rws} {lines : Lns} (h : RL rows lines) (p : RP rows rows') : RL rows' lines where
  n1 := by rw [p.len]; exact h.n1
  n4 := by rw [p.len]; exact h.n4
  sz := fun k => by rw [(p.pm k).length_eq]; exact h.sz k
  nd := fun k => (p.pm k).nodup_iff.mpr (h.nd k)
  one := fun j k m hj hk => h.one j k m ((p.pm j).mem_iff.mp hj) ((p.pm k).mem_iff.mp hk)
  ok := fun k m hm => h.ok k m ((p.pm k).mem_iff.mp hm)
  ll := h.ll
  ln := fun z hz => by
    obtain ⟨k, h1, h2, h3⟩ := h.ln z hz
    exact ⟨k, by rw [p.len]; exact h1, (p.pm k).mem_iff.mpr h2, (p.pm (k + 1)).mem_iff.mpr h3⟩
theorem row_set {rows : Rws} {k j : Nat} {r : List Str} (h : k < rows.length) : row (rows.set k r) j = if j = k then r else row rows j := by
  unfold row
  rw [List.getD_eq_getElem?_getD, List.getD_eq_getElem?_getD]
  by_cases e : j = k
  · subst e
    rw [if_pos rfl, List.getElem?_set_self h]; rfl
  · rw [if_neg e, List.getElem?_set_ne (fun z => e z.symm)]
theorem RP.set {rows : Rws} {k : Nat} {r : List Str} (h : k < rows.length) (p : r.Perm (row rows k)) : RP rows (rows.set k r) := ⟨List.length_set .., fun j => by
  rw [row_set h]
  by_cases e : j = k
  · subst e; rw [if_pos rfl]; exact p
  · rw [if_neg e]⟩
theorem setR_ok {α : Type} {xs : List α} {k : Nat} {x : α} (h : k < xs.length) : setR xs (k : Int) x = .ok (xs.set k x) := by
  unfold setR
  have e : ixN xs.length (k : Int) = some k := by
    unfold ixN
    simp
    omega
  rw [e]; rfl
theorem insR_ok {α : Type} {xs : List α} {k : Nat} {x : α} (h : xs.length < 16777216) (hk : k < 1000000) : insR xs ((k : Int), x) = .ok ((), xs.take k ++ [x] ++ xs.drop k) := by
  unfold insR
  rw [R.guard_true (by rw [p63]; exact ⟨h, by show (0 : Int) ≤ (k : Int); omega, by show (k : Int) < _; omega⟩), R.bind_ok]
  simp
theorem popR_ok {α : Type} {xs : List α} {k : Nat} {x : α} (h : xs[k]? = some x) (hk : k < 1000000) : popR xs (k : Int) = .ok (x, xs.eraseIdx k) := by
  unfold popR
  have hl := (List.getElem?_eq_some_iff.mp h).1
  rw [R.guard_true (by rw [p63]; exact ⟨by omega, by omega⟩), R.bind_ok]
  have e : seqIndex? (k : Int) xs.length = some k := by
    unfold seqIndex?
    simp
    omega
  rw [e, R.ofO_some, R.bind_ok, h]; rfl
section
variable {row0 beside : List Str} {pairs : Lns}
abbrev Md := List (Str × (Int × Int))
def MdOk (l : Md) : Prop := ∀ e ∈ l, 0 ≤ e.2.2 ∧ e.2.2 ≤ 1000000
theorem srt_while {x : (List Str) × (List Str) × Lns} {l6 : Md} {m : Int × Int} (hm : 0 ≤ m.2 ∧ m.2 ≤ 1000000) (hl : MdOk l6) (h60 : l6.length ≤ 1000) :
    ∀ (n at0 : Nat), at0 ≤ l6.length → l6.length < n + at0 → ∃ at1 : Nat, at1 ≤ l6.length ∧ whileR0 (sorted_row_c17 x l6 (m, ())) sorted_row_w16 n (at0 : Int) = .ok (at1 : Int) := by
  intro n
  induction n with
  | zero => intro at0 h1 h2; omega
  | succ n ih =>
    intro at0 h1 h2
    have c : ∃ b, sorted_row_c17 x l6 (m, ()) (at0 : Int) () = .ok (b, ()) ∧ (b = true → at0 < l6.length) := by
      unfold sorted_row_c17
      simp only [sm_pk, sm_and, sm_map2, sm_map1, sm_ret, R.bind_ok, ltB]
      by_cases h : at0 < l6.length
      · rw [decide_eq_true (by omega : (at0 : Int) < (l6.length : Int)), if_pos rfl]
        have hg : l6[at0]? = some l6[at0] := List.getElem?_eq_getElem h
        have he := hl _ (List.getElem_mem h)
        simp only [sm_bnd2, sm_map1, sm_ret, R.bind_ok, getI_nat hg]
        rw [mulR_ok (.inr (by omega)), R.bind_ok, mulR_ok (.inr (by omega)), R.bind_ok]
        exact ⟨_, rfl, fun _ => h⟩
      · rw [decide_eq_false (by omega), if_neg (by decide)]
        exact ⟨false, rfl, fun z => by cases z⟩
    obtain ⟨b, hb, hb2⟩ := c
    unfold whileR0 whileR
    rw [hb, R.bind_ok]
    cases b with
    | false =>
      rw [if_neg (by decide), R.bind_ok]
      exact ⟨at0, h1, rfl⟩
    | true =>
      rw [if_pos rfl]
      have h := hb2 rfl
      obtain ⟨a1, g1, g2⟩ := ih (at0 + 1) (by omega) (by omega)
      refine ⟨a1, g1, ?_⟩
      have e : sorted_row_w16 (at0 : Int) = .ok ((at0 + 1 : Nat) : Int) := by
        unfold sorted_row_w16
        simp only [sm_map1, sm_ret, R.bind_ok]
        push_cast; rfl
      rw [e, R.bind_ok]
      exact g2
theorem sorted_ok (hb : beside.Nodup) (lb : beside.length ≤ 60) (lr : row0.length ≤ 60) (lp : pairs.length ≤ 100) (hin : ∀ z ∈ pairs, z.2 ∈ beside) : ∃ r, sorted_row (row0, beside, pairs) = .ok r ∧ r.Perm row0 := by
  obtain ⟨d, h1, h2⟩ := places_ok hb (by omega)
  unfold sorted_row
  simp only [sm_bnd1, sm_ret, sm_map1, R.bind_ok, h1, R.calm_ok]
  obtain ⟨l, g1, g2⟩ := foldR_inv (f := sorted_row_b20 (row0, beside, pairs) (d, ())) (fun n (l : Md) => l.length = n ∧ (l.map (·.1)).Perm (row0.take n) ∧ MdOk l) (enumL row0) 0 [] ⟨rfl, by simp, fun e m => by cases m⟩ fun i l a ⟨e1, e2, e3⟩ ha => by
    obtain ⟨q1, q2⟩ := enumL_get ha
    have hi := (List.getElem?_eq_some_iff.mp q1).1
    rw [Nat.zero_add] at e1 e2
    have lc : SM.lc (SM.ret pairs) (fun (a9 : Str × Str) => SM.map2 eqS (SM.ret a9.1) (SM.ret a.2)) (fun a9 => SM.bnd2 (fun d k => R.ofO (dget d k)) (SM.ret d) (SM.ret a9.2)) () = .ok ((pairs.filter fun z => eqS z.1 a.2).map fun z => (beside.idxOf z.2 : Int), ()) :=
      lc_ok (by simp) (fun _ _ => by simp) (fun z hz _ => by simp [h2 z.2 (hin z hz)]) (by omega)
    have mid : ∃ m : Int × Int, middle_of (a.2, a.1, (pairs.filter fun z => eqS z.1 a.2).map fun z => (beside.idxOf z.2 : Int)) = .ok m ∧ 0 ≤ m.2 ∧ m.2 ≤ 1000000 := by
      unfold middle_of
      simp only [sm_bnd2, sm_ret, R.bind_ok, eqD]
      rw [R.guard_true ⟨List.all_eq_true.mpr fun _ _ => rfl, rfl⟩]
      simp only [R.bind_ok]
      split
      · simp only [sm_map2, sm_ret, R.bind_ok]
        exact ⟨_, rfl, (by show (0 : Int) ≤ 1; decide), (by show (1 : Int) ≤ 1000000; decide)⟩
      · simp only [sm_map2, sm_map1, sm_ret, R.bind_ok]
        refine ⟨_, rfl, by show (0 : Int) ≤ (List.length _ : Nat); omega, ?_⟩
        have := List.length_filter_le (fun z => eqS z.1 a.2) pairs
        show ((List.length _ : Nat) : Int) ≤ _
        rw [List.length_map]; omega
    obtain ⟨m, m1, m2⟩ := mid
    obtain ⟨at1, w1, w2⟩ := srt_while (x := (row0, beside, pairs)) (l6 := l) (m := m) m2 e3 (by omega) (l.length + 1) 0 (Nat.zero_le _) (by omega)
    refine ⟨l.take at1 ++ [(a.2, m)] ++ l.drop at1, ?_, ?_, ?_, ?_⟩
    · unfold sorted_row_b20
      simp only [sm_bnd1, sm_map2, sm_ret, R.bind_ok, lc, m1, R.calm_ok]
      have w2 : whileR0 (sorted_row_c17 (row0, beside, pairs) l (m, ())) sorted_row_w16 (l.length + 1) 0 = .ok (at1 : Int) := w2
      rw [w2]
      simp only [R.bind_ok]
      rw [insR_ok (by omega) (by omega)]
      rfl
    · simp only [List.length_append, List.length_cons, List.length_nil, List.length_take, List.length_drop]; omega
    · rw [Nat.zero_add, List.take_add_one, q1]
      have p1 : (l.take at1 ++ [(a.2, m)] ++ l.drop at1).Perm (l ++ [(a.2, m)]) := by
        rw [List.append_assoc]
        refine (List.perm_append_comm.append_left _).trans ?_
        rw [← List.append_assoc, List.take_append_drop]
      refine (p1.map _).trans ?_
      rw [List.map_append]
      exact e2.append_right _
    · intro e me
      have me : e ∈ l ∨ e = (a.2, m) := by
        simp only [List.mem_append, List.mem_cons, List.not_mem_nil, or_false] at me
        rcases me with (me | me) | me
        · exact .inl (List.mem_of_mem_take me)
        · exact .inr me
        · exact .inl (List.mem_of_mem_drop me)
      rcases me with me | me
      · exact e3 e me
      · subst me; exact m2
  rw [g1]
  simp only [R.bind_ok, sm_pk]
  rw [Nat.zero_add, enumL_len] at g2
  rw [lc_ok (p := fun _ => true) (g := fun (z : Str × (Int × Int)) => z.1) (xs := l) (s' := ()) (by simp) (fun _ _ => by simp) (fun _ _ _ => by simp) (by omega)]
  simp only [R.calm_ok, R.bind_ok, filter_tt]
  refine ⟨_, rfl, ?_⟩
  have := g2.2.1
  rw [List.take_of_length_le (Nat.le_refl _)] at this
  exact this
end
end K56

/-! k56: sweeps. -/
namespace K56
open PySem PySem.Spec PyProof.Rows L2 Y K57
section
variable {rows : Rws} {lines : Lns}
theorem copy_ok {α : Type} {xs : List α} (h : xs.length ≤ 16777216) : SM.lc (SM.ret xs) (fun (_ : α) => SM.ret true) (fun a => SM.map1 id (SM.ret a)) () = .ok (xs, ()) := by
  rw [lc_ok (p := fun _ => true) (g := fun z => z) (xs := xs) (s' := ()) (by simp) (fun _ _ => by simp) (fun _ _ _ => by simp) h]
  simp [filter_tt]
theorem down_ok (h : RL rows lines) : ∃ r, swept_down (rows, lines) = .ok r ∧ RP rows r := by
  have hn4 := h.n4
  unfold swept_down
  simp only [copy_ok (show rows.length ≤ 16777216 by omega), R.bind_ok, sm_bnd2, sm_ret, sm_map1]
  rw [rng2_ok (by decide) (by decide) (by omega) (by omega)]
  simp only [R.bind_ok]
  obtain ⟨r, g1, g2⟩ := foldR_inv (f := swept_down_b15 (rows, lines)) (fun _ l => RP rows l) (rangeL 1 (rows.length : Int)) 0 rows (.refl _) fun i l a hl ha => by
    obtain ⟨q1, q2⟩ := rangeL_get ha
    have hk : i + 1 < rows.length := by omega
    have e1 : a = ((i + 1 : Nat) : Int) := by omega
    subst e1
    have e2 : ((i + 1 : Nat) : Int) - 1 = (i : Int) := by omega
    have hk2 : i + 1 < l.length := by rw [hl.len]; exact hk
    have h2 := h.of hl
    obtain ⟨r, s1, s2⟩ := sorted_ok (row0 := row l (i + 1)) (beside := row l i) (pairs := (btw l lines i).map fun z => (z.2, z.1)) (h2.nd i) (h2.sz i) (h2.sz (i + 1)) (by rw [List.length_map]; exact Nat.le_trans btw_len h.ll) (fun z m => by
      obtain ⟨y, my, ey⟩ := List.mem_map.mp m
      rw [← ey]; exact (btw_in y my).1)
    refine ⟨l.set (i + 1) r, ?_, hl.trans (RP.set hk2 s2)⟩
    unfold swept_down_b15
    rw [lc_ok (p := fun _ => true) (g := fun (z : Str × Str) => (z.2, z.1)) (xs := btw l lines i) (s' := ()) (by simp only [sm_bnd1, sm_map2, sm_ret, R.bind_ok, e2, between_ok h.ll hk2, R.calm_ok]) (fun _ _ => by simp) (fun _ _ _ => by simp) (Nat.le_trans btw_len (Nat.le_trans h.ll (by decide)))]
    simp only [R.calm_ok, R.bind_ok, sm_pk, sm_bnd1, sm_map2, sm_bnd2, sm_ret, filter_tt, e2, row_getI hk2, row_getI (show i < l.length by omega), s1]
    rw [setR_ok hk2]
    rfl
  rw [g1]
  exact ⟨r, rfl, g2⟩
theorem up_ok (h : RL rows lines) : ∃ r, swept_up (rows, lines) = .ok r ∧ RP rows r := by
  have hn4 := h.n4
  have hn1 := h.n1
  unfold swept_up
  simp only [copy_ok (show rows.length ≤ 16777216 by omega), R.bind_ok, sm_bnd1, sm_map2, sm_ret, sm_map1]
  have hr : rngD ((rows.length : Int) - 2, -1, -1) = .ok (downL ((rows.length : Int) - 2) (-1)) := by
    unfold rngD
    rw [R.guard_true (by rw [p62]; exact ⟨rfl, by show _ ≤ (rows.length : Int) - 2; omega, by show (rows.length : Int) - 2 < _; omega, by show _ ≤ (-1 : Int); decide, by show (-1 : Int) < _; decide⟩)]
    rfl
  rw [hr]
  simp only [R.bind_ok]
  obtain ⟨r, g1, g2⟩ := foldR_inv (f := swept_up_b12 (rows, lines)) (fun _ l => RP rows l) (downL ((rows.length : Int) - 2) (-1)) 0 rows (.refl _) fun i l a hl ha => by
    obtain ⟨q1, q2⟩ := downL_get ha
    obtain ⟨k, hk⟩ : ∃ k : Nat, a = (k : Int) := ⟨a.toNat, by omega⟩
    subst hk
    have hk : k + 1 < rows.length := by omega
    have hk2 : k + 1 < l.length := by rw [hl.len]; exact hk
    have h2 := h.of hl
    have e1 : ((k : Int) + 1) = ((k + 1 : Nat) : Int) := by push_cast; rfl
    obtain ⟨r, s1, s2⟩ := sorted_ok (row0 := row l k) (beside := row l (k + 1)) (pairs := btw l lines k) (h2.nd (k + 1)) (h2.sz (k + 1)) (h2.sz k) (Nat.le_trans btw_len h.ll) (fun z m => (btw_in z m).2)
    refine ⟨l.set k r, ?_, hl.trans (RP.set (by omega) s2)⟩
    unfold swept_up_b12
    simp only [R.bind_ok, sm_pk, sm_bnd1, sm_map2, sm_bnd2, sm_ret, e1, row_getI hk2, row_getI (show k < l.length by omega), between_ok h.ll hk2, R.calm_ok, s1]
    rw [setR_ok (by omega)]
    rfl
  rw [g1]
  exact ⟨r, rfl, g2⟩
theorem swept_ok (h : RL rows lines) {t : Nat} (ht : t ≤ 100) : ∃ r, swept (rows, lines, (t : Int)) = .ok r ∧ RP rows r ∧ AA r lines ≤ AA rows lines := by
  have hn4 := h.n4
  unfold swept
  simp only [copy_ok (show rows.length ≤ 16777216 by omega), R.bind_ok, sm_bnd1, sm_map2, sm_ret, sm_map1, all_ok h, R.calm_ok]
  rw [rng1_ok (by omega) (by omega)]
  simp only [R.bind_ok]
  obtain ⟨r, g1, g2⟩ := foldR_inv (f := swept_b30 (rows, lines, (t : Int))) (fun _ (l : Rws × Rws × Int) => RP rows l.1 ∧ RP rows l.2.1 ∧ l.2.2 = AA l.2.1 lines ∧ AA l.2.1 lines ≤ AA rows lines) (rangeL 0 (t : Int)) 0 (rows, rows, AA rows lines) ⟨.refl _, .refl _, rfl, Int.le_refl _⟩ fun i l a ⟨h1, h2, h3, h4⟩ ha => by
    obtain ⟨q1, q2⟩ := rangeL_get ha
    have nx : ∃ r, (if eqB (a % 2) 0 = true then ((SM.bnd1 (fun z => (swept_down z).calm) (SM.map2 Prod.mk (SM.ret l.1) (SM.ret lines))) ()).bind (fun z15 => R.ok (z15.1)) else ((SM.bnd1 (fun z => (swept_up z).calm) (SM.map2 Prod.mk (SM.ret l.1) (SM.ret lines))) ()).bind (fun z17 => R.ok (z17.1))) = .ok r ∧ RP rows r := by
      obtain ⟨d, d1, d2⟩ := down_ok (h.of h1)
      obtain ⟨u, u1, u2⟩ := up_ok (h.of h1)
      by_cases c : eqB (a % 2) 0 = true
      · rw [if_pos c]
        simp only [sm_bnd1, sm_map2, sm_ret, R.bind_ok, d1, R.calm_ok]
        exact ⟨d, rfl, h1.trans d2⟩
      · rw [if_neg c]
        simp only [sm_bnd1, sm_map2, sm_ret, R.bind_ok, u1, R.calm_ok]
        exact ⟨u, rfl, h1.trans u2⟩
    obtain ⟨r, r1, r2⟩ := nx
    by_cases c : AA r lines < l.2.2
    · refine ⟨(r, r, AA r lines), ?_, r2, r2, rfl, by show AA r lines ≤ AA rows lines; omega⟩
      unfold swept_b30
      simp only [sm_map2, sm_bnd2, sm_ret, R.bind_ok, modR_ok (show (0 : Int) < 2 by decide)]
      rw [r1]
      simp only [R.bind_ok, sm_bnd1, sm_map2, sm_ret, all_ok (h.of r2), R.calm_ok]
      rw [if_pos (show ltB (AA r lines) l.2.2 = true from decide_eq_true c)]
      rfl
    · refine ⟨(r, l.2.1, l.2.2), ?_, r2, h2, h3, h4⟩
      unfold swept_b30
      simp only [sm_map2, sm_bnd2, sm_ret, R.bind_ok, modR_ok (show (0 : Int) < 2 by decide)]
      rw [r1]
      simp only [R.bind_ok, sm_bnd1, sm_map2, sm_ret, all_ok (h.of r2), R.calm_ok]
      rw [if_neg (show ¬ ltB (AA r lines) l.2.2 = true from fun z => c (of_decide_eq_true z))]
      rfl
  rw [g1]
  simp only [R.bind_ok]
  have hb : r.2.1.length ≤ 16777216 := by rw [g2.2.1.len]; omega
  rw [copy_ok hb]
  exact ⟨r.2.1, rfl, g2.2.1, g2.2.2.2⟩
end
end K56

/-! k56: what a change saves. -/
namespace K56
open PySem PySem.Spec PyProof.Rows L2 Y K57
theorem foldR_sum {α : Type} {f : Int → α → R Int} {g : α → Int} : ∀ (xs : List α) (acc : Int), (∀ l, ∀ x ∈ xs, f l x = .ok (l + g x)) → foldR f acc xs = .ok (acc + S xs g)
  | [], acc, _ => by rw [S_nil, Int.add_zero]; rfl
  | x :: xs, acc, h => by
    unfold foldR
    rw [h acc x List.mem_cons_self, R.bind_ok, foldR_sum xs _ fun l y m => h l y (List.mem_cons_of_mem _ m), S_cons, Int.add_assoc]
theorem less_ok (ps qs : List Int) : crossing_less (ps, qs) = .ok (CL ps qs) := by
  unfold crossing_less
  simp only [sm_ret, R.bind_ok]
  rw [foldR_sum (g := fun p => S qs fun q => lessQ p q) ps 0 fun l p _ => ?_]
  · simp only [R.bind_ok]
    rw [Int.zero_add]; rfl
  · unfold crossing_less_b11
    simp only [sm_ret, R.bind_ok]
    rw [foldR_sum (g := fun q => lessQ p q) qs l fun l' q _ => ?_]
    · rfl
    · unfold crossing_less_b10
      simp only [sm_ret, sm_map1, sm_map2, R.bind_ok, gtB, ltB]
      rfl
theorem S_one (N k : Nat) (c : Int) : (S (List.range N) fun j => if j = k then c else 0) = if k < N then c else 0 := by
  induction N with
  | zero => rw [if_neg (Nat.not_lt_zero _)]; rfl
  | succ N ih =>
    rw [List.range_succ, S_append, ih, S_cons, S_nil, Int.add_zero]
    by_cases h : N = k
    · subst h
      rw [if_neg (Nat.lt_irrefl _), if_pos rfl, if_pos (Nat.lt_succ_self _), Int.zero_add]
    · rw [if_neg h, Int.add_zero]
      by_cases g : k < N
      · rw [if_pos g, if_pos (by omega)]
      · rw [if_neg g, if_neg (by omega)]
section
variable {rows : Rws} {lines : Lns}
theorem RL.up (h : RL rows lines) {k : Nat} {m : Str} (hm : m ∈ row rows k) {z : Str × Str} (hz : z ∈ lines) (e : z.2 = m) : 1 ≤ k ∧ z.1 ∈ row rows (k - 1) := by
  obtain ⟨j, h1, h2, h3⟩ := h.ln z hz
  have : j + 1 = k := h.one (j + 1) k m (by rw [← e]; exact h3) hm
  subst this
  exact ⟨by omega, h2⟩
theorem RL.dn (h : RL rows lines) {k : Nat} {m : Str} (hm : m ∈ row rows k) {z : Str × Str} (hz : z ∈ lines) (e : z.1 = m) : k + 1 < rows.length ∧ z.2 ∈ row rows (k + 1) := by
  obtain ⟨j, h1, h2, h3⟩ := h.ln z hz
  have : j = k := h.one j k m (by rw [← e]; exact h2) hm
  subst this
  exact ⟨h1, h3⟩
theorem ends_lines (h : RL rows lines) {k : Nat} (hk : k < rows.length) {m : Str} (hm : m ∈ row rows k) : other_ends (rows, (k : Int), lines, m) = .ok (endsM (row rows (k - 1)) lines m, endsU (row rows (k + 1)) lines m) := by
  have hl := h.ll
  unfold other_ends
  rw [lc_ok (p := fun z => decide (z.2 = m)) (g := fun z => ((row rows (k - 1)).idxOf z.1 : Int)) (xs := lines) (s' := ()) (by simp) (fun z _ => by simp [eqS]) (fun z hz hp => ?_) (by omega)]
  · simp only [R.bind_ok]
    rw [lc_ok (p := fun z => decide (z.1 = m)) (g := fun z => ((row rows (k + 1)).idxOf z.2 : Int)) (xs := lines) (s' := ()) (by simp) (fun z _ => by simp [eqS]) (fun z hz hp => ?_) (by omega)]
    · simp only [R.bind_ok, sm_map2, sm_ret]
      rfl
    · obtain ⟨h1, h2⟩ := h.dn hm hz (of_decide_eq_true hp)
      have e1 : ((k : Int) + 1) = ((k + 1 : Nat) : Int) := by push_cast; rfl
      simp only [sm_bnd2, sm_map2, sm_ret, R.bind_ok, e1, row_getI h1, idxR_of h2]
  · obtain ⟨h1, h2⟩ := h.up hm hz (of_decide_eq_true hp)
    have e1 : ((k : Int) - 1) = ((k - 1 : Nat) : Int) := by omega
    simp only [sm_bnd2, sm_map2, sm_ret, R.bind_ok, e1, row_getI (show k - 1 < rows.length by omega), idxR_of h2]
/-- by how much -/
def SV (rows : Rws) (lines : Lns) (k : Nat) (a b : Str) : Int := CL (endsM (row rows (k - 1)) lines a) (endsM (row rows (k - 1)) lines b) + CL (endsU (row rows (k + 1)) lines a) (endsU (row rows (k + 1)) lines b)
theorem saved_ok (h : RL rows lines) {k i : Nat} (hk : k < rows.length) {a b : Str} (ha : (row rows k)[i]? = some a) (hb : (row rows k)[i + 1]? = some b) : saved (rows, (k : Int), (i : Int), lines) = .ok (SV rows lines k a b) := by
  have e1 : ((i : Int) + 1) = ((i + 1 : Nat) : Int) := by push_cast; rfl
  unfold saved
  simp only [sm_bnd1, sm_bnd2, sm_map2, sm_ret, R.bind_ok, row_getI hk, e1, getI_nat ha, getI_nat hb, ends_lines h hk (List.mem_of_getElem? ha), ends_lines h hk (List.mem_of_getElem? hb), R.calm_ok, less_ok]
  rfl
theorem endsM_btw (h : RL rows lines) {k : Nat} {m : Str} (hm : m ∈ row rows (k + 1)) : endsM (row rows k) (btw rows lines k) m = endsM (row rows k) lines m := by
  unfold endsM btw
  rw [List.filter_filter]
  congr 1
  refine List.filter_congr fun z hz => ?_
  by_cases e : z.2 = m
  · obtain ⟨h1, h2⟩ := h.up hm hz e
    rw [decide_eq_true e, Bool.true_and, decide_eq_true (show z.1 ∈ row rows k from h2), decide_eq_true (by rw [e]; exact hm)]; rfl
  · rw [decide_eq_false e]; rfl
theorem endsU_btw (h : RL rows lines) {k : Nat} {m : Str} (hm : m ∈ row rows k) : endsU (row rows (k + 1)) (btw rows lines k) m = endsU (row rows (k + 1)) lines m := by
  unfold endsU btw
  rw [List.filter_filter]
  congr 1
  refine List.filter_congr fun z hz => ?_
  by_cases e : z.1 = m
  · obtain ⟨h1, h2⟩ := h.dn hm hz e
    rw [decide_eq_true e, Bool.true_and, decide_eq_true h2, decide_eq_true (by rw [e]; exact hm)]; rfl
  · rw [decide_eq_false e]; rfl
theorem btw_rp {rows' : Rws} (p : RP rows rows') (j : Nat) : btw rows' lines j = btw rows lines j := by
  unfold btw
  refine List.filter_congr fun z _ => ?_
  congr 1
  · exact decide_eq_decide.mpr (p.pm j).mem_iff
  · exact decide_eq_decide.mpr (p.pm (j + 1)).mem_iff
theorem CL_nil (qs : List Int) : CL [] qs = 0 := rfl
theorem AA_sw (h : RL rows lines) {k : Nat} (hk : k < rows.length) {p r : List Str} {a b : Str} (e : row rows k = p ++ a :: b :: r) : AA rows lines - AA (rows.set k (p ++ b :: a :: r)) lines = SV rows lines k a b ∧ RP rows (rows.set k (p ++ b :: a :: r)) := by
  have pm : (p ++ b :: a :: r).Perm (row rows k) := by
    rw [e]
    exact (List.Perm.swap _ _ _).append_left p
  have rp := RP.set hk pm
  refine ⟨?_, rp⟩
  have nd : (p ++ a :: b :: r).Nodup := by rw [← e]; exact h.nd k
  have ma : a ∈ row rows k := by rw [e]; simp
  have mb : b ∈ row rows k := by rw [e]; simp
  unfold AA
  rw [rp.len, ← S_sub]
  let B := CL (endsU (row rows (k + 1)) lines a) (endsU (row rows (k + 1)) lines b)
  let A := CL (endsM (row rows (k - 1)) lines a) (endsM (row rows (k - 1)) lines b)
  have key : ∀ j ∈ List.range (rows.length - 1), XX (row rows j) (row rows (j + 1)) (btw rows lines j) - XX (row (rows.set k (p ++ b :: a :: r)) j) (row (rows.set k (p ++ b :: a :: r)) (j + 1)) (btw (rows.set k (p ++ b :: a :: r)) lines j) = (if j = k then B else 0) + (if j + 1 = k then A else 0) := fun j hj => by
    have hj := List.mem_range.mp hj
    rw [btw_rp rp, row_set hk, row_set hk]
    by_cases c : j = k
    · subst c
      rw [if_pos rfl, if_neg (show ¬ j + 1 = j by omega), if_pos rfl, if_neg (show ¬ j + 1 = j by omega), Int.add_zero, e]
      rw [XX_up nd (fun z m => by
        have := btw_in z m
        rw [e] at this; exact this), endsU_btw h ma, endsU_btw h mb]
    · rw [if_neg c, if_neg c]
      by_cases d : j + 1 = k
      · rw [if_pos d, if_pos d, Int.zero_add]
        have e' : row rows (j + 1) = p ++ a :: b :: r := by rw [d]; exact e
        rw [e', XX_low nd (fun z m => by
          have := (btw_in z m).2
          rw [e'] at this; exact this), endsM_btw h (by rw [d]; exact ma), endsM_btw h (by rw [d]; exact mb)]
        show _ = CL (endsM (row rows (k - 1)) lines a) (endsM (row rows (k - 1)) lines b)
        rw [show k - 1 = j by omega]
      · rw [if_neg d, if_neg d]; omega
  rw [S_congr key, S_add, S_one]
  have sA : (S (List.range (rows.length - 1)) fun j => if j + 1 = k then A else 0) = A := by
    cases k with
    | zero =>
      have z : A = 0 := by
        show CL (endsM (row rows (0 - 1)) lines a) _ = 0
        have : endsM (row rows (0 - 1)) lines a = [] := by
          unfold endsM
          rw [List.map_eq_nil_iff, List.filter_eq_nil_iff]
          intro z hz hp
          have := (h.up ma hz (of_decide_eq_true hp)).1
          omega
        rw [this, CL_nil]
      rw [S_congr (g := fun _ => 0) fun j _ => if_neg (by omega), S_zero, z]
    | succ k' =>
      rw [S_congr (g := fun j => if j = k' then A else 0) fun j _ => by
        by_cases c : j = k'
        · rw [if_pos c, if_pos (by omega)]
        · rw [if_neg c, if_neg (by omega)], S_one, if_pos (by omega)]
  rw [sA]
  have sB : (if k < rows.length - 1 then B else 0) = B := by
    by_cases c : k < rows.length - 1
    · rw [if_pos c]
    · rw [if_neg c]
      show 0 = CL (endsU (row rows (k + 1)) lines a) _
      have : endsU (row rows (k + 1)) lines a = [] := by
        unfold endsU
        rw [List.map_eq_nil_iff, List.filter_eq_nil_iff]
        intro z hz hp
        have := (h.dn ma hz (of_decide_eq_true hp)).1
        omega
      rw [this, CL_nil]
  rw [sB]
  unfold SV
  omega
end
end K56

/-! k56: settled rows. -/
namespace K56
open PySem PySem.Spec PyProof.Rows L2 Y K57
theorem forR_find {α ρ : Type} {f : Unit → α → R (Oc Unit ρ)} {P : α → Prop} {Q : ρ → Prop} : ∀ (xs : List α), (∀ x ∈ xs, (f () x = .ok (.nx ()) ∧ P x) ∨ ∃ r, f () x = .ok (.rt r) ∧ Q r) → (forR f () xs = .ok (.nx ()) ∧ ∀ x ∈ xs, P x) ∨ ∃ r, forR f () xs = .ok (.rt r) ∧ Q r
  | [], _ => .inl ⟨rfl, fun _ m => by cases m⟩
  | x :: xs, h => by
    unfold forR
    rcases h x List.mem_cons_self with ⟨h1, h2⟩ | ⟨r, h1, h2⟩
    · rw [h1, R.bind_ok]
      rcases forR_find xs fun y m => h y (List.mem_cons_of_mem _ m) with ⟨g1, g2⟩ | ⟨r, g1, g2⟩
      · exact .inl ⟨g1, fun y m => by
          rcases List.mem_cons.mp m with e | e
          · subst e; exact h2
          · exact g2 y e⟩
      · exact .inr ⟨r, g1, g2⟩
    · rw [h1, R.bind_ok]
      exact .inr ⟨r, rfl, h2⟩
abbrev Ch := Int × Int × Int
section
variable {rows : Rws} {lines : Lns}
/-- what is known of a change -/
def ChOk (rows : Rws) (lines : Lns) : Option Ch → Prop
  | none => ∀ k i a b, k < rows.length → (row rows k)[i]? = some a → (row rows k)[i + 1]? = some b → SV rows lines k a b ≤ 0
  | some c => ∃ (k i : Nat) (a b : Str), k < rows.length ∧ (row rows k)[i]? = some a ∧ (row rows k)[i + 1]? = some b ∧ c = ((k : Int), (i : Int), SV rows lines k a b) ∧ 0 < SV rows lines k a b
theorem first_ok (h : RL rows lines) : ∃ c, first_change (rows, lines) = .ok c ∧ ChOk rows lines c := by
  unfold first_change
  simp only [sm_map1, sm_ret, R.bind_ok]
  have hf := forR_find (f := first_change_b10 (rows, lines)) (P := fun (x : Int × List Str) => ∀ k : Nat, x.1 = (k : Int) → ∀ i a b, (row rows k)[i]? = some a → (row rows k)[i + 1]? = some b → SV rows lines k a b ≤ 0) (Q := fun r => ∃ c, r = some c ∧ ChOk rows lines (some c)) (enumL rows) fun x hx => by
    obtain ⟨k, hk, ek⟩ := List.mem_iff_getElem.mp hx
    have gk : (enumL rows)[k]? = some x := by rw [List.getElem?_eq_getElem hk, ek]
    obtain ⟨q1, q2⟩ := enumL_get gk
    have hkl := (List.getElem?_eq_some_iff.mp q1).1
    have er : x.2 = row rows k := by
      have := row_get hkl
      rw [q1] at this; exact Option.some.inj this
    unfold first_change_b10
    have hsz := h.sz k
    simp only [sm_bnd1, sm_map2, sm_map1, sm_ret, R.bind_ok]
    rw [rng1_ok (by rw [er]; omega) (by rw [er]; omega)]
    simp only [R.bind_ok]
    have hg := forR_find (f := first_change_b9 (rows, lines) x) (P := fun (y : Int) => ∀ i : Nat, y = (i : Int) → ∀ a b, (row rows k)[i]? = some a → (row rows k)[i + 1]? = some b → SV rows lines k a b ≤ 0) (Q := fun r => ∃ c, r = some c ∧ ChOk rows lines (some c)) (rangeL 0 ((x.2.length : Int) - 1)) fun y hy => by
      obtain ⟨i, hi, ei⟩ := List.mem_iff_getElem.mp hy
      obtain ⟨g1, g2⟩ := rangeL_get (show (rangeL 0 ((x.2.length : Int) - 1))[i]? = some y by rw [List.getElem?_eq_getElem hi, ei])
      have hil : i + 1 < (row rows k).length := by rw [← er]; omega
      have ey : y = (i : Int) := by omega
      have ha : (row rows k)[i]? = some (row rows k)[i] := List.getElem?_eq_getElem (by omega)
      have hb : (row rows k)[i + 1]? = some (row rows k)[i + 1] := List.getElem?_eq_getElem hil
      have hs := saved_ok h hkl ha hb
      unfold first_change_b9
      simp only [sm_bnd1, sm_map2, sm_map1, sm_ret, R.bind_ok, q2, ey, hs, R.calm_ok, gtB]
      by_cases c : 0 < SV rows lines k (row rows k)[i] (row rows k)[i + 1]
      · rw [if_pos (decide_eq_true c)]
        exact .inr ⟨_, rfl, _, rfl, k, i, _, _, hkl, ha, hb, rfl, c⟩
      · rw [if_neg (fun z => c (of_decide_eq_true z))]
        refine .inl ⟨rfl, fun i' e' a b ha' hb' => ?_⟩
        have : i' = i := by omega
        subst this
        rw [ha] at ha'; rw [hb] at hb'
        cases ha'; cases hb'
        omega
    rcases hg with ⟨g1, g2⟩ | ⟨r, g1, g2⟩
    · rw [g1]
      refine .inl ⟨rfl, fun k' e' i a b ha hb => ?_⟩
      have : k' = k := by omega
      subst this
      have hl := (List.getElem?_eq_some_iff.mp hb).1
      have hl' : i < (rangeL 0 ((x.2.length : Int) - 1)).length := by rw [rangeL_len, er]; omega
      have gi := rangeL_get (List.getElem?_eq_getElem hl')
      exact g2 _ (List.getElem_mem hl') i (by omega) a b ha hb
    · rw [g1]
      exact .inr ⟨r, rfl, g2⟩
  rcases hf with ⟨g1, g2⟩ | ⟨r, g1, c, e, g2⟩
  · rw [g1]
    refine ⟨none, rfl, fun k i a b hk ha hb => ?_⟩
    have gk := enumL_get' (row_get hk)
    exact g2 _ (List.mem_of_getElem? gk) k rfl i a b ha hb
  · rw [g1]
    subst e
    exact ⟨some c, rfl, g2⟩
theorem split2 {α : Type} {xs : List α} {i : Nat} {a b : α} (ha : xs[i]? = some a) (hb : xs[i + 1]? = some b) : xs = xs.take i ++ a :: b :: xs.drop (i + 2) ∧ (xs.take i).length = i := by
  obtain ⟨h1, e1⟩ := List.getElem?_eq_some_iff.mp ha
  obtain ⟨h2, e2⟩ := List.getElem?_eq_some_iff.mp hb
  refine ⟨?_, by rw [List.length_take]; omega⟩
  rw [← e1, ← e2, List.getElem_cons_drop, List.getElem_cons_drop, List.take_append_drop]
/-- the rows behind a change -/
def chg (rows : Rws) (k i : Nat) (a b : Str) : Rws := rows.set k ((row rows k).take i ++ b :: a :: (row rows k).drop (i + 2))
theorem AA_chg (h : RL rows lines) {k i : Nat} {a b : Str} (hk : k < rows.length) (ha : (row rows k)[i]? = some a) (hb : (row rows k)[i + 1]? = some b) : AA rows lines - AA (chg rows k i a b) lines = SV rows lines k a b ∧ RP rows (chg rows k i a b) := AA_sw h hk (split2 ha hb).1
theorem ixN_ok {n k : Nat} (h : k < n) : ixN n (k : Int) = some k := by
  unfold ixN
  simp
  omega
theorem S_bnd {α : Type} (xs : List α) (f : α → Int) (c : Int) (h : ∀ x ∈ xs, 0 ≤ f x ∧ f x ≤ c) : 0 ≤ S xs f ∧ S xs f ≤ (xs.length : Int) * c := by
  induction xs with
  | nil => rw [S_nil]; simp
  | cons x xs ih =>
    have h1 := h x List.mem_cons_self
    have h2 := ih fun y m => h y (List.mem_cons_of_mem _ m)
    rw [S_cons, List.length_cons]
    have e : (((xs.length + 1 : Nat) : Int)) * c = (xs.length : Int) * c + c := by push_cast; rw [Int.add_mul, Int.one_mul]
    rw [e]
    omega
theorem AA_bnd (h : RL rows lines) : 0 ≤ AA rows lines ∧ AA rows lines ≤ ((rows.length * lines.length * lines.length : Nat) : Int) := by
  have hx : ∀ k, 0 ≤ XX (row rows k) (row rows (k + 1)) (btw rows lines k) ∧ XX (row rows k) (row rows (k + 1)) (btw rows lines k) ≤ ((lines.length * lines.length : Nat) : Int) := fun k => by
    have i1 : ∀ x ∈ btw rows lines k, 0 ≤ S (btw rows lines k) (wO (row rows k) (row rows (k + 1)) x) ∧ S (btw rows lines k) (wO (row rows k) (row rows (k + 1)) x) ≤ (lines.length : Int) := fun x _ => by
      have := S_bnd (btw rows lines k) (wO (row rows k) (row rows (k + 1)) x) 1 fun y _ => by
        unfold wO
        split <;> omega
      have hl := btw_len (rows := rows) (lines := lines) (k := k)
      rw [Int.mul_one] at this
      omega
    have i2 := S_bnd (btw rows lines k) (fun x => S (btw rows lines k) (wO (row rows k) (row rows (k + 1)) x)) (lines.length : Int) i1
    refine ⟨i2.1, Int.le_trans i2.2 ?_⟩
    push_cast
    exact Int.mul_le_mul_of_nonneg_right (by have := btw_len (rows := rows) (lines := lines) (k := k); omega) (by omega)
  have i3 := S_bnd (List.range (rows.length - 1)) (fun k => XX (row rows k) (row rows (k + 1)) (btw rows lines k)) ((lines.length * lines.length : Nat) : Int) fun k _ => hx k
  refine ⟨i3.1, Int.le_trans i3.2 ?_⟩
  rw [List.length_range, Nat.mul_assoc]
  rw [Int.natCast_mul rows.length]
  exact Int.mul_le_mul_of_nonneg_right (by omega) (by omega)
/-- settled rows -/
structure St2 (rows : Rws) (lines : Lns) (now : Rws) (log : List Ch) : Prop where
  rp : RP rows now
  less : AA now lines = AA rows lines - (log.map (·.2.2)).sum
  pos : ∀ c ∈ log, 1 ≤ c.2.2
theorem sum_len (log : List Ch) (h : ∀ c ∈ log, 1 ≤ c.2.2) : (log.length : Int) ≤ (log.map (·.2.2)).sum := by
  induction log with
  | nil => simp
  | cons c log ih =>
    have := h c List.mem_cons_self
    have := ih fun d m => h d (List.mem_cons_of_mem _ m)
    simp only [List.length_cons, List.map_cons, List.sum_cons]
    push_cast
    omega
theorem settled_go (h : RL rows lines) : ∀ (n : Nat) (now : Rws) (log : List Ch) (c : Option Ch), St2 rows lines now log → first_change (now, lines) = .ok c → AA now lines < (n : Int) →
    ∃ now' log', whileR0 (settled_c22 (rows, lines)) (settled_w21 (rows, lines)) n (c, now, log) = .ok (none, now', log') ∧ St2 rows lines now' log' ∧ ChOk now' lines none := by
  intro n
  induction n with
  | zero =>
    intro now log c st hc ha
    have := (AA_bnd (h.of st.rp)).1
    omega
  | succ n ih =>
    intro now log c st hc ha
    have h2 := h.of st.rp
    obtain ⟨c', e', hch⟩ := first_ok h2
    rw [hc] at e'
    cases e'
    unfold whileR0 whileR settled_c22
    simp only [sm_map2, sm_ret, R.bind_ok]
    cases c with
    | none =>
      rw [if_neg (by decide), R.bind_ok]
      exact ⟨now, log, rfl, st, hch⟩
    | some c =>
      rw [if_pos (show (some c).isSome = true from rfl)]
      obtain ⟨k, i, a, b, hk, ga, gb, ec, pos⟩ := hch
      subst ec
      obtain ⟨e1, e2⟩ := split2 ga gb
      obtain ⟨d1, d2⟩ := AA_chg h2 hk ga gb
      have st2 : St2 rows lines (chg now k i a b) (log ++ [((k : Int), (i : Int), SV now lines k a b)]) := ⟨st.rp.trans d2, by
        rw [List.map_append, List.sum_append, List.map_cons, List.map_nil, List.sum_cons, List.sum_nil]
        have := st.less
        show AA (chg now k i a b) lines = AA rows lines - ((log.map (·.2.2)).sum + (SV now lines k a b + 0))
        omega, fun c m => by
        rcases List.mem_append.mp m with z | z
        · exact st.pos c z
        · have z : c = ((k : Int), (i : Int), SV now lines k a b) := by simpa using z
          subst z
          show 1 ≤ SV now lines k a b
          omega⟩
      obtain ⟨c2, hc2, _⟩ := first_ok (h.of st2.rp)
      have hll : log.length < 16777216 := by
        have b1 := AA_bnd h
        have b2 := (AA_bnd h2).1
        have b3 := sum_len log st.pos
        have b4 := st.less
        have b5 : rows.length * lines.length * lines.length ≤ 60 * 100 * 100 := Nat.mul_le_mul (Nat.mul_le_mul h.n4 h.ll) h.ll
        have b6 : ((rows.length * lines.length * lines.length : Nat) : Int) ≤ 600000 := by omega
        omega
      have hsz := h2.sz k
      have hi := (List.getElem?_eq_some_iff.mp gb).1
      have er : (row now k).eraseIdx i = (row now k).take i ++ b :: (row now k).drop (i + 2) := by
        rw [List.eraseIdx_eq_take_drop_succ]
        congr 1
        rw [List.drop_eq_getElem_cons hi]
        congr 1
        exact (List.getElem?_eq_some_iff.mp gb).2
      have step : settled_w21 (rows, lines) (some ((k : Int), (i : Int), SV now lines k a b), now, log) = .ok (c2, chg now k i a b, log ++ [((k : Int), (i : Int), SV now lines k a b)]) := by
        unfold settled_w21
        have e3 : ((i : Int) + 1) = ((i + 1 : Nat) : Int) := by push_cast; rfl
        simp only [sm_bnd1, sm_map2, sm_ret, R.bind_ok, R.ofO_some, ixN_ok hk, row_get hk, popR_ok ga (by omega), e3]
        have hk2 : k < (now.set k ((row now k).eraseIdx i)).length := by rw [List.length_set]; exact hk
        simp only [ixN_ok hk2, R.ofO_some, R.bind_ok, List.getElem?_set_self hk]
        rw [insR_ok (by rw [er]; simp; omega) (by omega)]
        simp only [R.bind_ok, List.set_set, appR]
        rw [R.guard_true hll]
        simp only [R.bind_ok, sm_pk, sm_bnd1, sm_map2, sm_ret]
        have ex : now.set k (((row now k).eraseIdx i).take (i + 1) ++ [a] ++ ((row now k).eraseIdx i).drop (i + 1)) = chg now k i a b := by
          unfold chg
          congr 1
          rw [er]
          rw [show i + 1 = ((row now k).take i).length + 1 by rw [e2], List.take_length_add_append, List.drop_length_add_append]
          simp
        rw [ex, hc2]
        rfl
      rw [step]
      have go := ih (chg now k i a b) _ c2 st2 hc2 (by omega)
      obtain ⟨now', log', g1, g2, g3⟩ := go
      exact ⟨now', log', g1, g2, g3⟩
theorem settled_ok (h : RL rows lines) : ∃ now log, settled (rows, lines) = .ok (now, log) ∧ St2 rows lines now log ∧ ChOk now lines none := by
  have hn4 := h.n4
  obtain ⟨c, hc, _⟩ := first_ok h
  obtain ⟨now, log, g1, g2, g3⟩ := settled_go h (rows.length * lines.length * lines.length + 1) rows [] c ⟨.refl _, by simp, fun _ m => by cases m⟩ hc (by
    have := (AA_bnd h).2
    omega)
  refine ⟨now, log, ?_, g2, g3⟩
  unfold settled
  simp only [copy_ok (show rows.length ≤ 16777216 by omega), R.bind_ok, sm_ret, sm_pk, sm_bnd1, sm_map2, hc, R.calm_ok]
  rw [g1]
  rfl
theorem changed_ok (h : RL rows lines) {k i : Nat} {a b : Str} (hk : k < rows.length) (ga : (row rows k)[i]? = some a) (gb : (row rows k)[i + 1]? = some b) : _law_changed (rows, (k : Int), (i : Int)) = .ok (chg rows k i a b) := by
  have hn4 := h.n4
  have hsz := h.sz k
  have hi := (List.getElem?_eq_some_iff.mp gb).1
  obtain ⟨e1, e2⟩ := split2 ga gb
  have er : (row rows k).eraseIdx (i + 1) = (row rows k).take i ++ a :: (row rows k).drop (i + 2) := by
    rw [List.eraseIdx_eq_take_drop_succ, List.take_add_one, ga]
    simp
  have e3 : ((i : Int) + 1) = ((i + 1 : Nat) : Int) := by push_cast; rfl
  unfold _law_changed
  simp only [copy_ok (show rows.length ≤ 16777216 by omega), R.bind_ok, sm_ret, sm_map2, R.ofO_some, ixN_ok hk, row_get hk, e3, popR_ok gb (by omega)]
  simp only [R.ofO_some, R.bind_ok, List.getElem?_set_self hk]
  rw [insR_ok (by rw [er]; simp; omega) (by omega)]
  simp only [R.bind_ok, List.set_set]
  congr 1
  unfold chg
  congr 1
  rw [er]
  rw [show ((row rows k).take i ++ a :: (row rows k).drop (i + 2)).take i = (row rows k).take i by rw [List.take_append_of_le_length (by omega), List.take_take, Nat.min_self]]
  rw [show ((row rows k).take i ++ a :: (row rows k).drop (i + 2)).drop i = a :: (row rows k).drop (i + 2) by
    rw [List.drop_append_of_le_length (by omega), List.drop_of_length_le (by omega)]; rfl]
  simp
end
end K56

/-! k56: the law's questions, but the least order. -/
namespace K56
open PySem PySem.Spec PyProof.Rows L2 Y K57
section
variable {rows : Rws} {lines : Lns}
theorem some_btw (h : RL rows lines) {k : Nat} : (lines.filter fun z => decide (z.1 ∈ row rows k)) = btw rows lines k := by
  unfold btw
  refine List.filter_congr fun z hz => ?_
  by_cases c : z.1 ∈ row rows k
  · rw [decide_eq_true c, decide_eq_true (h.dn c hz rfl).2]; rfl
  · rw [decide_eq_false c]; rfl
theorem forR_nx {α ρ : Type} {f : Unit → α → R (Oc Unit ρ)} (xs : List α) (h : ∀ x ∈ xs, f () x = .ok (.nx ())) : forR f () xs = .ok (.nx ()) := by
  induction xs with
  | nil => rfl
  | cons x xs ih =>
    unfold forR
    rw [h x List.mem_cons_self, R.bind_ok]
    exact ih fun y m => h y (List.mem_cons_of_mem _ m)
theorem counted_ok (h : RL rows lines) : _law_counted (rows, lines) = .ok true := by
  have e0 : ((rows.length : Int) - 1) = ((rows.length - 1 : Nat) : Int) := by have := h.n1; omega
  have hn4 := h.n4
  have hll := h.ll
  unfold _law_counted
  simp only [sm_bnd1, sm_map2, sm_map1, sm_ret, R.bind_ok, all_ok h, lawall_ok h, R.calm_ok]
  rw [if_neg (by simp [neB]), rng1_ok (by omega) (by omega)]
  simp only [R.bind_ok]
  rw [forR_nx _ fun x hx => ?_]
  · simp only [R.bind_ok, ocB]
  · obtain ⟨k, hk, ek⟩ := List.mem_iff_getElem.mp hx
    obtain ⟨g1, g2⟩ := rangeL_get (show (rangeL 0 ((rows.length : Int) - 1))[k]? = some x by rw [List.getElem?_eq_getElem hk, ek])
    have ex : x = (k : Int) := by omega
    subst ex
    have hk1 : k + 1 < rows.length := by omega
    have e1 : ((k : Int) + 1) = ((k + 1 : Nat) : Int) := by push_cast; rfl
    unfold _law_counted_b8
    rw [lc_ok (p := fun z => decide (z.1 ∈ row rows k)) (g := fun z => z) (xs := lines) (s' := ()) (by simp) (fun z _ => by simp [row_getI (show k < rows.length by omega), inL]) (fun z _ _ => by simp) (by omega)]
    simp only [R.bind_ok, List.map_id', some_btw h]
    simp only [sm_bnd1, sm_map2, sm_bnd2, sm_ret, R.bind_ok, row_getI (show k < rows.length by omega), e1, row_getI hk1, two_ok (h.sz k) (h.sz (k + 1)) h.ll, R.calm_ok]
    rw [cross_ok' h (Nat.le_trans btw_len h.ll) btw_in]
    simp only [R.calm_ok, R.bind_ok]
    rw [if_neg (by unfold neB btw; simp)]
theorem can_rows (h : RL rows lines) : ((dqLst (dqLst dqStr)) : DQ K0 (rLst K0 (rLst K0 rStr))).can rows = true := by
  show (rows.all fun r => r.all PyData.strOk) = true
  rw [List.all_eq_true]
  intro r hr
  rw [List.all_eq_true]
  obtain ⟨k, hk, ek⟩ := List.mem_iff_getElem.mp hr
  have er : row rows k = r := by
    have := row_get hk
    rw [List.getElem?_eq_getElem hk, ek] at this
    exact (Option.some.inj this).symm
  exact fun m hm => h.ok k m (by rw [er]; exact hm)
theorem sort_map {rows' : Rws} (p : RP rows rows') : (rows'.map fun r => r.mergeSort leT) = rows.map fun r => r.mergeSort leT := by
  apply List.ext_getElem
  · rw [List.length_map, List.length_map]; exact p.len
  · intro k h1 h2
    rw [List.length_map] at h1 h2
    rw [List.getElem_map, List.getElem_map]
    have e1 : row rows' k = rows'[k] := by
      have := row_get h1
      rw [List.getElem?_eq_getElem h1] at this; exact (Option.some.inj this).symm
    have e2 : row rows k = rows[k] := by
      have := row_get h2
      rw [List.getElem?_eq_getElem h2] at this; exact (Option.some.inj this).symm
    rw [← e1, ← e2]
    exact sort_eq (p.pm k)
theorem lc_sort (h : RL rows lines) : SM.lc (SM.ret rows) (fun (_ : List Str) => SM.ret true) (fun a => SM.bnd1 sortS (SM.ret a)) () = .ok (rows.map fun r => r.mergeSort leT, ()) := by
  have hn4 := h.n4
  rw [lc_ok (p := fun _ => true) (g := fun (r : List Str) => r.mergeSort leT) (xs := rows) (s' := ()) (by simp) (fun _ _ => by simp) (fun r hr _ => ?_) (by omega)]
  · rw [filter_tt]
  · obtain ⟨k, hk, ek⟩ := List.mem_iff_getElem.mp hr
    have er : row rows k = r := by
      have := row_get hk
      rw [List.getElem?_eq_getElem hk, ek] at this
      exact (Option.some.inj this).symm
    have := h.sz k
    rw [er] at this
    simp only [sm_bnd1, sm_ret, R.bind_ok, sortS]
    rw [R.guard_true (by omega)]; rfl
theorem can_sort (h : RL rows lines) : ((dqLst (dqLst dqStr)) : DQ K0 (rLst K0 (rLst K0 rStr))).can (rows.map fun r => r.mergeSort leT) = true := by
  have z := can_rows h
  have z : (rows.all fun r => r.all PyData.strOk) = true := z
  show ((rows.map fun r => r.mergeSort leT).all fun r => r.all PyData.strOk) = true
  rw [List.all_eq_true] at z ⊢
  intro r hr
  obtain ⟨r0, h0, e⟩ := List.mem_map.mp hr
  subst e
  have z0 := z r0 h0
  rw [List.all_eq_true] at z0 ⊢
  exact fun m hm => z0 m ((List.mergeSort_perm r0 leT).mem_iff.mp hm)
/-- what is known of sweeps asked before -/
structure Kn (rows : Rws) (lines : Lns) (n : Nat) (known : List (Int × Rws)) : Prop where
  len : known.length ≤ n
  old : ∀ t r, dget known t = some r → swept (rows, lines, t) = .ok r
theorem sweptR_ok (h : RL rows lines) {t n : Nat} (ht : t ≤ 100) (hn : n ≤ 1000) {known : List (Int × Rws)} (hk : Kn rows lines n known) : ∃ known', _law_swept_right (rows, lines, (t : Int), known) = .ok (true, known') ∧ Kn rows lines (n + 1) known' := by
  obtain ⟨r, r1, r2, r3⟩ := swept_ok h ht
  have h2 := h.of r2
  have hrl : r.length ≤ 16777216 := by rw [r2.len]; have := h.n4; omega
  have hkl := hk.len
  have sd : ∃ known', setdR known (t : Int) r = .ok (r, known') ∧ Kn rows lines (n + 1) known' := by
    unfold setdR
    rw [R.guard_true (by omega), R.bind_ok]
    cases e : dget known (t : Int) with
    | some u =>
      have := hk.old _ _ e
      rw [r1] at this
      cases this
      exact ⟨known, rfl, by have := hk.len; omega, hk.old⟩
    | none =>
      refine ⟨dput known (t : Int) r, rfl, Nat.le_trans (dput_length _ _ _) (by omega), fun t' r' e' => ?_⟩
      rw [dget_put] at e'
      by_cases c : t' = (t : Int)
      · rw [if_pos c] at e'
        cases e'
        rw [c]; exact r1
      · rw [if_neg c] at e'
        exact hk.old _ _ e'
  obtain ⟨known', s1, s2⟩ := sd
  refine ⟨known', ?_, s2⟩
  have h0 : 0 < r.length := by rw [r2.len]; have := h.n1; omega
  unfold _law_swept_right
  simp only [sm_bnd1, sm_bnd2, sm_map2, sm_pk, sm_ret, R.bind_ok, r1, R.calm_ok, copy_ok hrl, s1, lc_sort h2, lc_sort h, lawall_ok h2, lawall_ok h, neD]
  rw [R.guard_true ⟨can_rows h2, can_rows h2⟩, R.guard_true ⟨can_sort h2, can_sort h⟩]
  simp only [R.bind_ok, R.calm_ok]
  rw [if_neg (by simp), if_neg (by rw [sort_map r2]; simp), if_neg (by unfold gtB; simp; omega)]
  have e0 : (0 : Int) = ((0 : Nat) : Int) := rfl
  have hz := h2.sz 0
  rw [e0, ixN_ok h0]
  simp only [R.ofO_some, R.bind_ok, row_get h0, appR]
  rw [R.guard_true (by omega)]
  rfl
theorem settledR_ok (h : RL rows lines) : _law_settled_right (rows, lines) = .ok true := by
  obtain ⟨now, log, s1, s2, s3⟩ := settled_ok h
  have h2 := h.of s2.rp
  have h0 : 0 < now.length := by rw [s2.rp.len]; have := h.n1; omega
  have hlog : log.length ≤ 16777216 := by
    have b1 := AA_bnd h
    have b2 := (AA_bnd h2).1
    have b3 := sum_len log s2.pos
    have b4 := s2.less
    have b5 : rows.length * lines.length * lines.length ≤ 60 * 100 * 100 := Nat.mul_le_mul (Nat.mul_le_mul h.n4 h.ll) h.ll
    have b6 : ((rows.length * lines.length * lines.length : Nat) : Int) ≤ 600000 := by omega
    omega
  unfold _law_settled_right
  have l1 : SM.lc (SM.ret log) (fun (_ : Ch) => SM.ret true) (fun a8 => SM.map1 (fun (x : Ch) => x.2.2) (SM.ret a8)) () = .ok (log.map (·.2.2), ()) := by
    rw [lc_ok (p := fun _ => true) (g := fun (x : Ch) => x.2.2) (xs := log) (s' := ()) (by simp) (fun _ _ => by simp) (fun _ _ _ => by simp) hlog, filter_tt]
  have l2 : SM.lc (SM.ret log) (fun (a12 : Ch) => SM.map2 ltB (SM.map1 (fun (x : Ch) => x.2.2) (SM.ret a12)) (SM.ret (1 : Int))) (fun a12 => SM.ret (1 : Int)) () = .ok ([], ()) := by
    rw [lc_ok (p := fun (c : Ch) => decide (c.2.2 < 1)) (g := fun (x : Ch) => (1 : Int)) (xs := log) (s' := ()) (by simp) (fun _ _ => by simp [ltB]) (fun _ _ _ => by simp) hlog]
    have : (log.filter fun (c : Ch) => decide (c.2.2 < 1)) = [] := by
      rw [List.filter_eq_nil_iff]
      intro c hc z
      have := s2.pos c hc
      have z := of_decide_eq_true z
      omega
    rw [this]; rfl
  simp only [sm_bnd1, sm_bnd2, sm_map2, sm_map1, sm_pk, sm_ret, R.bind_ok, s1, R.calm_ok, lc_sort h2, lc_sort h, lawall_ok h2, lawall_ok h, neD, l1, l2]
  rw [R.guard_true ⟨can_sort h2, can_sort h⟩, R.guard_true ⟨rfl, rfl⟩]
  simp only [R.bind_ok, R.calm_ok]
  rw [if_neg (by rw [sort_map s2.rp]; simp), if_neg (by rw [s2.less]; simp [neB]), if_neg (by simp)]
  have lp : forR (_law_settled_right_b19 (rows, lines) ((now, log), ())) () (enumL now) = .ok (.nx ()) := forR_nx _ fun x hx => by
    obtain ⟨k, hk, ek⟩ := List.mem_iff_getElem.mp hx
    have gk : (enumL now)[k]? = some x := by rw [List.getElem?_eq_getElem hk, ek]
    obtain ⟨q1, q2⟩ := enumL_get gk
    have hkl := (List.getElem?_eq_some_iff.mp q1).1
    have er : x.2 = row now k := by
      have := row_get hkl
      rw [q1] at this; exact Option.some.inj this
    have hsz := h2.sz k
    unfold _law_settled_right_b19
    simp only [sm_bnd1, sm_map2, sm_map1, sm_ret, R.bind_ok]
    rw [rng1_ok (by rw [er]; omega) (by rw [er]; omega)]
    simp only [R.bind_ok]
    rw [forR_nx _ fun y hy => ?_]
    · rfl
    · obtain ⟨i, hi, ei⟩ := List.mem_iff_getElem.mp hy
      obtain ⟨g1, g2⟩ := rangeL_get (show (rangeL 0 ((x.2.length : Int) - 1))[i]? = some y by rw [List.getElem?_eq_getElem hi, ei])
      have hil : i + 1 < (row now k).length := by rw [← er]; omega
      have ey : y = (i : Int) := by omega
      have ha : (row now k)[i]? = some (row now k)[i] := List.getElem?_eq_getElem (by omega)
      have hb : (row now k)[i + 1]? = some (row now k)[i + 1] := List.getElem?_eq_getElem hil
      obtain ⟨d1, d2⟩ := AA_chg h2 hkl ha hb
      have d3 := s3 k i _ _ hkl ha hb
      unfold _law_settled_right_b18
      simp only [sm_bnd1, sm_map2, sm_ret, R.bind_ok, q2, ey, changed_ok h2 hkl ha hb, R.calm_ok, lawall_ok (h2.of d2), lawall_ok h2]
      rw [if_neg (fun z => by
        have z := of_decide_eq_true z
        omega)]
  rw [lp]
  simp only [R.calm_ok, R.bind_ok, Oc.mp, ocB]
  have e0 : (0 : Int) = ((0 : Nat) : Int) := rfl
  have hz := h2.sz 0
  rw [e0, ixN_ok h0]
  simp only [R.ofO_some, R.bind_ok, row_get h0, appR, clrR]
  rw [R.guard_true (by omega)]
  rfl
end
end K56

/-! k56: the least order. -/
namespace K56
open PySem PySem.Spec PyProof.Rows L2 Y K57
theorem crossed_ok {A B : List Int} (hb : B.length ≤ 16777216) : _law_crossed (A, B) = .ok (cst A B) := by
  unfold _law_crossed
  simp only [sm_ret, R.bind_ok]
  rw [foldR_sum (g := fun x => ((B.filter fun y => decide (y < x)).length : Int)) A 0 fun l x _ => ?_]
  · simp only [R.bind_ok]
    rw [Int.zero_add]; rfl
  · unfold _law_crossed_b9
    rw [sm_map2, sm_ret, R.bind_ok, sm_map1, lc_ok (p := fun y => decide (y < x)) (g := fun y => y) (xs := B) (s' := ()) (by simp) (fun _ _ => by simp [ltB]) (fun _ _ _ => by simp) hb]
    simp only [R.bind_ok, List.map_id']
theorem foldR_app {α β : Type} {f : List β → α → R (List β)} {h : α → β} : ∀ (xs : List α) (acc : List β), (∀ l, l.length < 16777216 → ∀ x ∈ xs, f l x = .ok (l ++ [h x])) → acc.length + xs.length ≤ 16777216 → foldR f acc xs = .ok (acc ++ xs.map h)
  | [], acc, _, _ => by simp [foldR]
  | x :: xs, acc, hf, hl => by
    rw [List.length_cons] at hl
    unfold foldR
    rw [hf acc (by omega) x List.mem_cons_self, R.bind_ok, foldR_app xs _ (fun l g y m => hf l g y (List.mem_cons_of_mem _ m)) (by simp; omega)]
    simp
def cstM (E : List (List Int)) : List (List Int) := E.map fun A => E.map fun B => cst A B
section
variable {U Lr : List Str} {ls : Lns}
theorem endsM_len (m : Str) : (endsM U ls m).length ≤ ls.length := by
  unfold endsM
  rw [List.length_map]
  exact List.length_filter_le _ _
theorem costs_ok (hl : ls.length ≤ 100) (h8 : Lr.length ≤ 8) (hin : ∀ z ∈ ls, z.1 ∈ U) : _law_costs (U, Lr, ls) = .ok (cstM (Lr.map (endsM U ls))) := by
  unfold _law_costs
  rw [lc_ok (p := fun _ => true) (g := endsM U ls) (xs := Lr) (s' := ()) (by simp) (fun _ _ => by simp) (fun m _ _ => ?_) (by omega)]
  · simp only [R.bind_ok, filter_tt, sm_ret]
    rw [foldR_app (h := fun A => (Lr.map (endsM U ls)).map fun B => cst A B) (Lr.map (endsM U ls)) [] (fun l hll A hA => ?_) (by simp; omega)]
    · simp only [R.bind_ok, List.nil_append]
      rfl
    · have e1 : SM.lc (SM.ret (Lr.map (endsM U ls))) (fun (_ : List Int) => SM.ret true) (fun a9 => SM.bnd1 (fun z => (_law_crossed z).calm) (SM.map2 Prod.mk (SM.ret A) (SM.ret a9))) l = .ok ((Lr.map (endsM U ls)).map fun B => cst A B, l) := by
        rw [lc_ok (p := fun _ => true) (g := fun B => cst A B) (xs := Lr.map (endsM U ls)) (s' := l) (by simp) (fun _ _ => by simp) (fun B hB _ => ?_) (by simp; omega)]
        · rw [filter_tt]
        · obtain ⟨m, _, e⟩ := List.mem_map.mp hB
          have := endsM_len (U := U) (ls := ls) m
          rw [e] at this
          simp only [sm_bnd1, sm_map2, sm_ret, R.bind_ok, crossed_ok (A := A) (B := B) (by omega), R.calm_ok]
      unfold _law_costs_b12
      simp only [e1, R.bind_ok, appR]
      rw [R.guard_true hll]
      rfl
  · rw [lc_ok (p := fun z => eqS z.2 m) (g := fun z => (U.idxOf z.1 : Int)) (xs := ls) (s' := ()) (by simp) (fun _ _ => by simp) (fun z hz _ => ?_) (by omega)]
    · rfl
    · simp only [sm_bnd2, sm_ret, R.bind_ok, idxR_of (hin z hz)]
end
section
variable {E : List (List Int)}
theorem cstM_get {g l : Nat} (hg : g < E.length) (hl : l < E.length) : ∃ A, (cstM E)[g]? = some A ∧ A[l]? = some (cc E g l) := by
  refine ⟨E.map fun B => cst E[g] B, ?_, ?_⟩
  · unfold cstM
    rw [List.getElem?_map, List.getElem?_eq_getElem hg]; rfl
  · rw [List.getElem?_map, List.getElem?_eq_getElem hl]
    unfold cc
    rw [List.getD_eq_getElem?_getD, List.getD_eq_getElem?_getD, List.getElem?_eq_getElem hg, List.getElem?_eq_getElem hl]
    rfl
theorem bitE (s h : Nat) : eqB (Builtin.bitAnd ((s : Int) / 2 ^ h) 1) 1 = s.testBit h := by
  rw [shr_test]
  cases s.testBit h <;> rfl
theorem entry_ok' (h8 : E.length ≤ 8) {s l : Nat} (hs : s < 2 ^ E.length) (hl : l ∈ mem E.length s) : _law_entry (dic (cc E) E.length (2 ^ E.length), cstM E, (s : Int), (l : Int)) = .ok (ent (cc E) E.length s l) := by
  have h256 := pow_le256 h8
  obtain ⟨m1, m2⟩ := mem_lt hl
  obtain ⟨hb, _⟩ := bit_sub (by omega) (by omega) m2
  have hp2 : 0 < 2 ^ l := Nat.pow_pos (by decide)
  have hlen : (cstM E).length = E.length := List.length_map ..
  unfold _law_entry
  simp only [sm_bnd2, sm_bnd1, sm_map2, sm_map1, sm_ret, R.bind_ok]
  rw [shlR_ok (by omega)]
  simp only [R.bind_ok, sub_pow hb]
  rw [dic_get _ _ (show s - 2 ^ l < 2 ^ E.length by omega), hlen, rng1_ok (by omega) (by omega), rangeL0]
  simp only [R.ofO_some, R.bind_ok]
  rw [foldR_sum (g := fun (a : Int) => if decide (a.toNat ≠ l) && s.testBit a.toNat then cc E a.toNat l else 0) _ _ fun acc x hx => ?_]
  · simp only [R.bind_ok]
    congr 1
    unfold ent
    congr 1
    rw [mem_sub h8 (by omega) hl, S_map]
    unfold mem
    rw [List.filter_filter]
    show S (List.range E.length) _ = S _ _
    rw [S_filter]
    refine S_congr fun g _ => ?_
    simp only [Int.toNat_natCast]
    by_cases c : g = l
    · subst c; simp
    · simp [c]
  · obtain ⟨g, hg, e⟩ := List.mem_map.mp hx
    subst e
    have hg := List.mem_range.mp hg
    obtain ⟨A, a1, a2⟩ := cstM_get hg m1
    unfold _law_entry_b11
    simp only [sm_and, sm_map2, sm_bnd2, sm_ret, R.bind_ok, shrR, Int.toNat_natCast]
    rw [R.guard_true (show (0 : Int) ≤ (g : Int) by omega)]
    simp only [R.bind_ok, Int.toNat_natCast, bitE, getI_nat a1, getI_nat a2]
    by_cases c : g = l
    · subst c
      rw [if_neg (by simp [neB])]
      simp
    · have cn : neB (g : Int) (l : Int) = true := by unfold neB; simp; omega
      rw [if_pos cn]
      simp only [R.bind_ok]
      cases ht : s.testBit g with
      | false => simp
      | true => simp [c]
theorem closed_ok (h8 : E.length ≤ 8) : _law_closed (dic (cc E) E.length (2 ^ E.length), cstM E) = .ok true := by
  have h256 := pow_le256 h8
  have hp : 0 < 2 ^ E.length := Nat.pow_pos (by decide)
  have hlen : (cstM E).length = E.length := List.length_map ..
  unfold _law_closed
  simp only [sm_or, sm_not, sm_bnd2, sm_bnd1, sm_map2, sm_map1, sm_ret, R.bind_ok, hlen]
  have z0 : dget (dic (cc E) E.length (2 ^ E.length)) 0 = some 0 := by
    have := dic_get (cc E) E.length (s := 0) hp
    rw [tt_zero] at this
    exact this
  rw [if_neg (by decide), shlR_ok (by omega)]
  simp only [R.bind_ok]
  rw [dic_len, if_neg (by simp [neB]), z0]
  simp only [R.bind_ok]
  rw [if_neg (by simp [neOI]), rng1_ok (by omega) (by omega)]
  simp only [R.bind_ok]
  rw [forR_nx _ fun x hx => ?_]
  · rfl
  · rw [rangeL0] at hx
    obtain ⟨s, hs, e⟩ := List.mem_map.mp hx
    subst e
    have hs := List.mem_range.mp hs
    have gs := dic_get (cc E) E.length hs
    unfold _law_closed_b8
    simp only [sm_or, sm_not, sm_and, sm_bnd2, sm_bnd1, sm_map2, sm_map1, sm_ret, R.bind_ok, gs, R.ofO_some]
    rw [if_neg (by simp), if_neg (by simp)]
    simp only [R.bind_ok]
    rw [if_neg (by simp)]
    rw [lc_ok (p := fun (h : Int) => s.testBit h.toNat) (g := fun (h : Int) => ent (cc E) E.length s h.toNat) (xs := (List.range E.length).map fun (k : Nat) => (k : Int)) (s' := ()) (by simp only [sm_bnd1, sm_ret, R.bind_ok]; rw [rng1_ok (by omega) (by omega), rangeL0]; rfl) (fun h hh => ?ht) (fun h hh hp => ?hf) (by simp; omega)]
    case ht =>
      obtain ⟨k, hk, e⟩ := List.mem_map.mp hh
      subst e
      simp only [sm_map2, sm_bnd2, sm_ret, R.bind_ok, shrR]
      rw [R.guard_true (show (0 : Int) ≤ (k : Int) by omega)]
      simp only [R.bind_ok, Int.toNat_natCast, bitE]
    case hf =>
      obtain ⟨k, hk, e⟩ := List.mem_map.mp hh
      subst e
      rw [Int.toNat_natCast] at hp
      have mk : k ∈ mem E.length s := List.mem_filter.mpr ⟨hk, hp⟩
      simp only [sm_bnd1, sm_map2, sm_ret, R.bind_ok, entry_ok' h8 hs mk, R.calm_ok, Int.toNat_natCast]
    have ew : (((List.range E.length).map fun (k : Nat) => (k : Int)).filter fun (h : Int) => s.testBit h.toNat).map (fun (h : Int) => ent (cc E) E.length s h.toNat) = (mem E.length s).map (ent (cc E) E.length s) := by
      rw [List.filter_map, List.map_map]
      rfl
    rw [ew]
    simp only [R.bind_ok]
    by_cases c : s = 0
    · subst c
      rw [if_neg (by simp [gtB])]
      rfl
    · rw [if_pos (by unfold gtB; simp; omega)]
      have ne : (mem E.length s).map (ent (cc E) E.length s) ≠ [] := fun z => mem_ne hs c (List.map_eq_nil_iff.mp z)
      rw [minL_ok ne]
      simp only [R.bind_ok]
      rw [← tt_pos (cc E) E.length h8 (by omega) c, if_neg (by simp [neB])]
end
theorem pairT_snoc (c : Str → Str → Int) (y : Str) : ∀ xs : List Str, pairT c (xs ++ [y]) = pairT c xs + S xs fun a => c a y
  | [] => by
    show S [] _ + 0 = 0 + S [] _
    rw [S_nil, S_nil]
  | x :: xs => by
    show S (xs ++ [y]) (c x) + pairT c (xs ++ [y]) = S xs (c x) + pairT c xs + _
    rw [pairT_snoc c y xs, S_append, S_cons, S_cons, S_nil]
    omega
theorem ordered_ok {U Lr o : List Str} {ls : Lns} (hn : Lr.Nodup) (h8 : Lr.length ≤ 8) (p : o.Perm Lr) (ok : ∀ m ∈ Lr, PyData.strOk m = true) : _law_ordered (o, Lr, cstM (Lr.map (endsM U ls))) = .ok (some (pairT (cs U ls) o)) := by
  have hol := p.length_eq
  have hget : ∀ x ∈ Lr, ∀ y ∈ Lr, ∃ A, (cstM (Lr.map (endsM U ls)))[Lr.idxOf x]? = some A ∧ A[Lr.idxOf y]? = some (cs U ls x y) := fun x hx y hy => by
    have lx := List.idxOf_lt_length_of_mem hx
    have ly := List.idxOf_lt_length_of_mem hy
    obtain ⟨A, a1, a2⟩ := cstM_get (E := Lr.map (endsM U ls)) (g := Lr.idxOf x) (l := Lr.idxOf y) (by rw [List.length_map]; exact lx) (by rw [List.length_map]; exact ly)
    refine ⟨A, a1, ?_⟩
    rw [a2, cc_cs lx ly]
    congr 2
    · exact getD_of (by rw [List.getElem?_eq_getElem lx, List.getElem_idxOf lx])
    · exact getD_of (by rw [List.getElem?_eq_getElem ly, List.getElem_idxOf ly])
  have cs1 : ((dqLst dqStr) : DQ K0 (rLst K0 rStr)).can (Lr.mergeSort leT) = true := by
    show (Lr.mergeSort leT).all PyData.strOk = true
    rw [List.all_eq_true]
    exact fun m hm => ok m ((List.mergeSort_perm Lr leT).mem_iff.mp hm)
  unfold _law_ordered
  simp only [sm_or, sm_not, sm_bnd2, sm_bnd1, sm_map1, sm_ret, R.bind_ok, sortS, neD]
  rw [if_neg (by decide), R.guard_true (show o.length < 64 by omega)]
  simp only [R.bind_ok]
  rw [R.guard_true (show Lr.length < 64 by omega)]
  simp only [R.bind_ok]
  rw [sort_eq p, R.guard_true ⟨cs1, cs1⟩]
  simp only [R.bind_ok]
  rw [if_neg (by simp)]
  obtain ⟨r, r1, r2⟩ := foldR_inv (f := _law_ordered_b12 (o, Lr, cstM (Lr.map (endsM U ls)))) (fun k acc => acc = pairT (cs U ls) (o.take k)) (enumL o) 0 0 (by rw [List.take_zero]; rfl) fun i acc a hI ha => by
    rw [Nat.zero_add] at hI ⊢
    obtain ⟨g1, g2⟩ := enumL_get ha
    have ma : a.2 ∈ Lr := p.mem_iff.mp (List.mem_of_getElem? g1)
    refine ⟨acc + S (o.take i) (fun x => cs U ls x a.2), ?_, ?_⟩
    · unfold _law_ordered_b12
      simp only [sm_map3, sm_map1, sm_ret, R.bind_ok, g2, cutL_take]
      rw [foldR_sum (g := fun x => cs U ls x a.2) (o.take i) acc fun l x hx => ?_]
      · rfl
      · have mx : x ∈ Lr := p.mem_iff.mp (List.mem_of_mem_take hx)
        obtain ⟨A, a1, a2⟩ := hget x mx a.2 ma
        unfold _law_ordered_b11
        simp only [sm_map2, sm_bnd2, sm_ret, R.bind_ok, idxR_of mx, idxR_of ma, getI_nat a1, getI_nat a2]
    · rw [List.take_add_one, g1, hI]
      exact (pairT_snoc (cs U ls) a.2 (o.take i)).symm
  rw [r1]
  rw [Nat.zero_add, enumL_len, List.take_of_length_le (Nat.le_refl _)] at r2
  rw [r2]
  rfl
theorem leastR_ok {rows : Rws} {lines : Lns} (h : RL rows lines) (h8 : ∀ k, (row rows k).length ≤ 8) (x : Int) : _law_least_right (rows, lines, x) = .ok true := by
  have hn1 := h.n1
  have hn4 := h.n4
  have hll := h.ll
  unfold _law_least_right
  simp only [sm_map2, sm_map1, sm_ret, R.bind_ok]
  by_cases c : rows.length < 2
  · rw [if_pos (show ltB (rows.length : Int) 2 = true from decide_eq_true (by omega))]
  · rw [if_neg (fun z => by
      have z := of_decide_eq_true z
      omega)]
    have pos : (0 : Int) < (rows.length : Int) - 1 := by omega
    simp only [sm_bnd2, sm_map2, sm_map1, sm_ret, R.bind_ok, modR_ok pos]
    have b1 := Int.emod_nonneg x (show (rows.length : Int) - 1 ≠ 0 by omega)
    have b2 := Int.emod_lt_of_pos x pos
    obtain ⟨k, hk⟩ : ∃ k : Nat, x % ((rows.length : Int) - 1) = (k : Int) := ⟨(x % ((rows.length : Int) - 1)).toNat, by omega⟩
    rw [hk] at b2 ⊢
    have hk1 : k + 1 < rows.length := by omega
    have e1 : ((k : Int) + 1) = ((k + 1 : Nat) : Int) := by push_cast; rfl
    rw [lc_ok (p := fun z => decide (z.1 ∈ row rows k)) (g := fun z => z) (xs := lines) (s' := ()) (by simp) (fun z _ => by simp [row_getI (show k < rows.length by omega), inL]) (fun z _ _ => by simp) (by omega)]
    simp only [R.bind_ok, List.map_id', some_btw h]
    have bl : (btw rows lines k).length ≤ 100 := Nat.le_trans btw_len h.ll
    have hin : ∀ z ∈ btw rows lines k, z.1 ∈ row rows k := fun z m => (btw_in z m).1
    have hU := h.sz k
    have lo := least_ok (fixed := row rows k) (free := row rows (k + 1)) (lines := btw rows lines k) (h.nd k) (by omega) (h8 (k + 1)) (by omega) hin
    obtain ⟨op, ot⟩ := ord_perm (fixed := row rows k) (marks := row rows (k + 1)) (lines := btw rows lines k) (h8 (k + 1))
    have hE : ((row rows (k + 1)).map (endsM (row rows k) (btw rows lines k))).length = (row rows (k + 1)).length := List.length_map ..
    have cl := closed_ok (E := (row rows (k + 1)).map (endsM (row rows k) (btw rows lines k))) (by rw [hE]; exact h8 (k + 1))
    rw [hE] at cl
    have hcl : (cstM ((row rows (k + 1)).map (endsM (row rows k) (btw rows lines k)))).length = (row rows (k + 1)).length := by unfold cstM; simp
    have h8k := h8 (k + 1)
    have hp : 0 < 2 ^ (row rows (k + 1)).length := Nat.pow_pos (by decide)
    simp only [sm_bnd1, sm_bnd2, sm_map2, sm_map1, sm_not, sm_pk, sm_ret, R.bind_ok, row_getI (show k < rows.length by omega), e1, row_getI hk1, lo, R.calm_ok, costs_ok bl h8k hin, cl, ordered_ok (h.nd (k + 1)) h8k op (h.ok (k + 1)), hcl]
    rw [if_neg (by decide), ot, if_neg (by simp [neOI]), shlR_ok (by omega)]
    simp only [R.bind_ok, R.calm_ok]
    rw [show ((2 ^ (row rows (k + 1)).length : Nat) : Int) - 1 = ((2 ^ (row rows (k + 1)).length - 1 : Nat) : Int) by omega, dic_get _ _ (by omega)]
    simp only [R.ofO_some, R.bind_ok, R.calm_ok]
    rw [if_neg (by simp [neB])]
    rfl
end K56

/-! k56: what is drawn. -/
namespace K56
open PySem PySem.Spec PyProof.Rows L2 Y K57
theorem log2_sm {j : Int} (h0 : 0 < j) (h1 : j < 100000000000) : j.natAbs.log2 < 9000 := by
  have : j.natAbs.log2 < 37 := by
    rw [Nat.log2_lt (by omega)]
    have : (2 : Nat) ^ 37 = 137438953472 := by decide
    omega
  omega
theorem divS {i j : Int} (h0 : 0 < j) (h1 : j < 100000000000) : divR i j = .ok (i / j) := divR_ok h0 (log2_sm h0 h1)
theorem cell_ok (xs : List Int) (k : Nat) : ∃ v, _law_cell_at (xs, (k : Int)) = .ok v := by
  unfold _law_cell_at
  simp only [sm_map2, sm_map1, sm_ret, sm_bnd2, R.bind_ok]
  by_cases h : k < xs.length
  · rw [if_pos (show ltB (k : Int) (xs.length : Int) = true from decide_eq_true (by omega)), getI_nat (List.getElem?_eq_getElem h)]
    exact ⟨_, rfl⟩
  · rw [if_neg (fun z => by
      have z := of_decide_eq_true z
      omega)]
    exact ⟨_, rfl⟩
theorem pw10 : powR 10 10 = .ok 10000000000 := by
  unfold powR
  rw [R.guard_true (by unfold CPow; decide)]
  rfl
theorem mix_ok (cell : Int) (k : Nat) (hk : k ≤ 1000) : ∃ v, _law_mix (cell, (k : Int)) = .ok v ∧ 0 ≤ v := by
  have tail : ∃ v, ((SM.bnd2 modR (SM.bnd2 mulR (SM.bnd2 modR (SM.map2 (· + ·) (SM.map2 (· + ·) (SM.ret cell) (SM.bnd2 mulR (SM.ret (7919 : Int)) (SM.ret (k : Int)))) (SM.ret (1 : Int))) (SM.ret (2147483647 : Int))) (SM.ret (48271 : Int))) (SM.ret (2147483647 : Int))) ()).bind (fun z22 =>
      ((SM.bnd2 modR (SM.bnd2 mulR (SM.ret z22.1) (SM.map2 (· + ·) (SM.bnd2 divR (SM.ret z22.1) (SM.ret (1009 : Int))) (SM.ret (69621 : Int)))) (SM.ret (2147483647 : Int))) ()).bind fun z24 =>
      ((SM.bnd2 modR (SM.bnd2 mulR (SM.ret z24.1) (SM.map2 (· + ·) (SM.bnd2 divR (SM.ret z24.1) (SM.ret (127 : Int))) (SM.ret (30011 : Int)))) (SM.ret (2147483647 : Int))) ()).bind fun z => R.ok z.1) = .ok v ∧ 0 ≤ v := by
    simp only [sm_bnd2, sm_map2, sm_ret, R.bind_ok]
    rw [mulR_ok (.inl ⟨by decide, by decide⟩)]
    simp only [R.bind_ok]
    rw [modR_ok (by decide)]
    simp only [R.bind_ok]
    rw [mulR_ok (.inr ⟨by decide, by decide⟩)]
    simp only [R.bind_ok]
    rw [modR_ok (by decide)]
    simp only [R.bind_ok]
    rw [divS (by decide) (by decide)]
    simp only [R.bind_ok]
    rw [mulR_ok (.inl ⟨by omega, by omega⟩)]
    simp only [R.bind_ok]
    rw [modR_ok (by decide)]
    simp only [R.bind_ok]
    rw [divS (by decide) (by decide)]
    simp only [R.bind_ok]
    rw [mulR_ok (.inl ⟨by omega, by omega⟩)]
    simp only [R.bind_ok]
    rw [modR_ok (by decide)]
    simp only [R.bind_ok]
    exact ⟨_, rfl, Int.emod_nonneg _ (by decide)⟩
  unfold _law_mix
  simp only [sm_bnd2, sm_bnd1, sm_map2, sm_ret, R.bind_ok, divS (show (0 : Int) < 64 by decide) (show (64 : Int) < 100000000000 by decide), divS (show (0 : Int) < 128 by decide) (show (128 : Int) < 100000000000 by decide), divS (show (0 : Int) < 256 by decide) (show (256 : Int) < 100000000000 by decide), modR_ok (show (0 : Int) < 2 by decide), pw10] at tail ⊢
  by_cases c : eqB (cell / 64 % 2) 1 = true
  · rw [if_pos c]
    have bs : ∃ b : Int, ((dispR [(50 : Int), 10000000000]).bind fun b => R.ok (b, ())).bind (fun z => (getI z.1 (cell / 128 % 2)).bind fun c => R.ok (c, ())) = .ok (b, ()) ∧ 0 < b ∧ b < 100000000000 := by
      unfold dispR
      rw [R.guard_true (by decide)]
      simp only [R.bind_ok]
      have h1 := Int.emod_nonneg (cell / 128) (show (2 : Int) ≠ 0 by decide)
      have h2 := Int.emod_lt_of_pos (cell / 128) (show (0 : Int) < 2 by decide)
      have : cell / 128 % 2 = 0 ∨ cell / 128 % 2 = 1 := by omega
      rcases this with e | e
      · rw [e]; exact ⟨50, rfl, by decide, by decide⟩
      · rw [e]; exact ⟨10000000000, rfl, by decide, by decide⟩
    obtain ⟨b, b1, b2, b3⟩ := bs
    rw [b1]
    simp only [R.bind_ok]
    rw [rng1_ok (by omega) (by omega)]
    simp only [R.bind_ok]
    obtain ⟨l, l1, _⟩ := foldR_inv (f := _law_mix_b21 (b, ())) (fun _ _ => True) (rangeL 0 ((k : Int) - 1)) 0 (cell / 256) trivial fun i l a _ _ => by
      unfold _law_mix_b21
      simp only [sm_bnd2, sm_ret, R.bind_ok, divS b2 b3]
      exact ⟨_, rfl, trivial⟩
    rw [l1]
    simp only [R.bind_ok]
    by_cases g : gtB l 0 = true
    · rw [if_pos g]
      simp only [modR_ok b2, R.bind_ok, ocB]
      exact ⟨_, rfl, Int.emod_nonneg _ (by omega)⟩
    · rw [if_neg g]
      simp only [R.bind_ok, ocB]
      exact tail
  · rw [if_neg c]
    simp only [R.bind_ok, ocB]
    exact tail
/-- a mark -/
def mk (t : Str × Str) (n : Nat) : Str := t.1 ++ Str.ofString (toString (n : Int)) ++ t.2
def tags : List (Str × Str) := [("", "a"), ("b", ""), ("12.", ""), ("", "zz")]
theorem mk_inj0 : (tags.all fun t => (List.range 17).all fun n => (List.range 17).all fun m => !(decide (mk t n = mk t m)) || n == m) = true := by decide +kernel
theorem mk_ok0 : (tags.all fun t => (List.range 17).all fun n => PyData.strOk (mk t n) && PyData.strOk ("-" ++ mk t n) && decide ((n : Int).natAbs.log2 < 1920) && decide (t.1.length + (Str.ofString (toString (n : Int))).length ≤ 16777216) && decide ((t.1 ++ Str.ofString (toString (n : Int))).length + t.2.length ≤ 16777216) && decide (("-" : Str).length + (mk t n).length ≤ 16777216)) = true := by decide +kernel
theorem dash0 : (tags.all fun t => (List.range 17).all fun n => (List.range 17).all fun m => !(decide ("-" ++ mk t n = "-" ++ mk t m)) || n == m) = true := by decide +kernel
theorem dash1 : (tags.all fun t => tags.all fun t' => (List.range 17).all fun n => (List.range 17).all fun m => !(decide ("-" ++ mk t n = mk t' m))) = true := by decide +kernel
theorem mk_inj {t : Str × Str} (ht : t ∈ tags) {n m : Nat} (hn : n < 17) (hm : m < 17) (e : mk t n = mk t m) : n = m := by
  have z := List.all_eq_true.mp (List.all_eq_true.mp (List.all_eq_true.mp mk_inj0 t ht) n (List.mem_range.mpr hn)) m (List.mem_range.mpr hm)
  rw [decide_eq_true e] at z
  simpa using z
theorem dash_inj {t : Str × Str} (ht : t ∈ tags) {n m : Nat} (hn : n < 17) (hm : m < 17) (e : ("-" : Str) ++ mk t n = "-" ++ mk t m) : n = m := by
  have z := List.all_eq_true.mp (List.all_eq_true.mp (List.all_eq_true.mp dash0 t ht) n (List.mem_range.mpr hn)) m (List.mem_range.mpr hm)
  rw [decide_eq_true e] at z
  simpa using z
theorem dash_ne {t t' : Str × Str} (ht : t ∈ tags) (ht' : t' ∈ tags) {n m : Nat} (hn : n < 17) (hm : m < 17) (e : ("-" : Str) ++ mk t n = mk t' m) : False := by
  have z := List.all_eq_true.mp (List.all_eq_true.mp (List.all_eq_true.mp (List.all_eq_true.mp dash1 t ht) t' ht') n (List.mem_range.mpr hn)) m (List.mem_range.mpr hm)
  rw [decide_eq_true e] at z
  simp at z
theorem mk_ok {t : Str × Str} (ht : t ∈ tags) {n : Nat} (hn : n < 17) : PyData.strOk (mk t n) = true ∧ PyData.strOk ("-" ++ mk t n) = true ∧ strI (n : Int) = .ok (Str.ofString (toString (n : Int))) ∧ catS t.1 (Str.ofString (toString (n : Int))) = .ok (t.1 ++ Str.ofString (toString (n : Int))) ∧ catS (t.1 ++ Str.ofString (toString (n : Int))) t.2 = .ok (mk t n) ∧ catS "-" (mk t n) = .ok ("-" ++ mk t n) := by
  have z := List.all_eq_true.mp (List.all_eq_true.mp mk_ok0 t ht) n (List.mem_range.mpr hn)
  simp only [Bool.and_eq_true, decide_eq_true_iff] at z
  obtain ⟨⟨⟨⟨⟨z1, z2⟩, z3⟩, z4⟩, z5⟩, z6⟩ := z
  refine ⟨z1, z2, ?_, ?_, ?_, ?_⟩
  · unfold strI; rw [R.guard_true z3]; rfl
  · unfold catS; rw [R.guard_true z4]; rfl
  · unfold catS; rw [R.guard_true z5]; rfl
  · unfold catS; rw [R.guard_true z6]; rfl
/-- rows of marks, so many -/
structure Dr (t : Str × Str) (n : Nat) (k : Nat) (rows : Rws) : Prop where
  len : rows.length = k
  row : ∀ r ∈ rows, 1 ≤ r.length ∧ r.length ≤ 4
  pm : rows.flatten.Perm ((List.range n).map fun i => mk t (i + 1))
theorem rows_ok (first : Int) : ∃ t rows n k, t ∈ tags ∧ _law_rows first = .ok rows ∧ Dr t n k rows ∧ n ≤ 16 ∧ 1 ≤ k ∧ k ≤ 4 := by
  have tg : ∃ t ∈ tags, ((dispR [((("" : Str), ("a" : Str))), (("b" : Str), ("" : Str)), (("12." : Str), ("" : Str)), (("" : Str), ("zz" : Str))]).bind fun b => R.ok (b, ())).bind (fun z => (getI z.1 (first % 4)).bind fun c => R.ok (c, ())) = .ok (t, ()) := by
    unfold dispR
    rw [R.guard_true (by decide)]
    simp only [R.bind_ok]
    have h1 := Int.emod_nonneg first (show (4 : Int) ≠ 0 by decide)
    have h2 := Int.emod_lt_of_pos first (show (0 : Int) < 4 by decide)
    have : first % 4 = 0 ∨ first % 4 = 1 ∨ first % 4 = 2 ∨ first % 4 = 3 := by omega
    rcases this with e | e | e | e
    · rw [e]; exact ⟨("", "a"), by decide +kernel, rfl⟩
    · rw [e]; exact ⟨("b", ""), by decide +kernel, rfl⟩
    · rw [e]; exact ⟨("12.", ""), by decide +kernel, rfl⟩
    · rw [e]; exact ⟨("", "zz"), by decide +kernel, rfl⟩
  obtain ⟨t, ht, t1⟩ := tg
  have k4 : ∃ k : Nat, 1 + first / 4 % 4 = (k : Int) ∧ 1 ≤ k ∧ k ≤ 4 := by
    have h1 := Int.emod_nonneg (first / 4) (show (4 : Int) ≠ 0 by decide)
    have h2 := Int.emod_lt_of_pos (first / 4) (show (0 : Int) < 4 by decide)
    exact ⟨(1 + first / 4 % 4).toNat, by omega, by omega, by omega⟩
  obtain ⟨k, ek, k1, k2⟩ := k4
  obtain ⟨l, l1, n, l2, l3, l4⟩ := foldR_inv (f := _law_rows_b23 first (t, ())) (fun i (l : Int × Rws) => ∃ n : Nat, l.1 = (n : Int) ∧ n ≤ 4 * i ∧ Dr t n i l.2) (rangeL 0 (k : Int)) 0 (0, []) ⟨0, rfl, Nat.zero_le _, rfl, (fun _ m => by cases m), .refl _⟩ fun i l a ⟨n, e1, e2, d⟩ ha => by
    rw [Nat.zero_add] at e2 d ⊢
    obtain ⟨q1, q2⟩ := rangeL_get ha
    have hi : i < 4 := by omega
    have ea : a + 1 = ((i + 1 : Nat) : Int) := by omega
    obtain ⟨v, v1, v2⟩ := mix_ok first (i + 1) (by omega)
    have h1 := Int.emod_nonneg v (show (4 : Int) ≠ 0 by decide)
    have h2 := Int.emod_lt_of_pos v (show (0 : Int) < 4 by decide)
    obtain ⟨j, ej⟩ : ∃ j : Nat, 1 + v % 4 = (j : Int) := ⟨(1 + v % 4).toNat, by omega⟩
    have j1 : 1 ≤ j ∧ j ≤ 4 := by omega
    obtain ⟨r, r1, r2, r3, r4⟩ := foldR_inv (f := _law_rows_b20 first (t, ())) (fun i' (r : Int × List Str) => r.1 = ((n + i' : Nat) : Int) ∧ r.2.length = i' ∧ r.2.Perm ((List.range i').map fun x => mk t (n + x + 1))) (rangeL 0 (j : Int)) 0 ((n : Int), []) ⟨rfl, rfl, .refl _⟩ fun i' r b ⟨f1, f2, f3⟩ hb => by
      rw [Nat.zero_add] at f1 f2 f3 ⊢
      obtain ⟨p1, p2⟩ := rangeL_get hb
      have hi' : i' < 4 := by omega
      have em : r.1 + 1 = ((n + i' + 1 : Nat) : Int) := by rw [f1]; push_cast; rfl
      obtain ⟨_, _, m3, m4, m5, _⟩ := mk_ok ht (n := n + i' + 1) (by omega)
      have e20 : (20 : Int) + ((n + i' + 1 : Nat) : Int) = ((20 + (n + i' + 1) : Nat) : Int) := by push_cast; rfl
      obtain ⟨u, u1, u2⟩ := mix_ok first (20 + (n + i' + 1)) (by omega)
      have pos : (0 : Int) < (r.2.length : Int) + 1 := by omega
      have g1 := Int.emod_nonneg u (show (r.2.length : Int) + 1 ≠ 0 by omega)
      have g2 := Int.emod_lt_of_pos u pos
      obtain ⟨p, ep⟩ : ∃ p : Nat, u % ((r.2.length : Int) + 1) = (p : Int) := ⟨(u % ((r.2.length : Int) + 1)).toNat, by omega⟩
      refine ⟨(((n + i' + 1 : Nat) : Int), r.2.take p ++ [mk t (n + i' + 1)] ++ r.2.drop p), ?_, rfl, ?_, ?_⟩
      · unfold _law_rows_b20
        simp only [sm_map2, sm_bnd2, sm_bnd1, sm_pk, sm_map1, sm_ret, R.bind_ok, em, e20, u1, R.calm_ok, modR_ok pos, ep, m3, m4, m5]
        rw [insR_ok (by omega) (by omega)]
        rfl
      · simp only [List.length_append, List.length_cons, List.length_nil, List.length_take, List.length_drop]; omega
      · rw [List.range_succ, List.map_append]
        have p1 : (r.2.take p ++ [mk t (n + i' + 1)] ++ r.2.drop p).Perm (r.2 ++ [mk t (n + i' + 1)]) := by
          rw [List.append_assoc]
          refine (List.perm_append_comm.append_left _).trans ?_
          rw [← List.append_assoc, List.take_append_drop]
        exact p1.trans (f3.append_right _)
    rw [Nat.zero_add, rangeL_len, show ((j : Int) - 0).toNat = j by omega] at r2 r3 r4
    refine ⟨(r.1, l.2 ++ [r.2]), ?_, n + j, r2, by omega, ?_, ?_, ?_⟩
    · unfold _law_rows_b23
      simp only [sm_map2, sm_bnd2, sm_bnd1, sm_ret, R.bind_ok, ea, v1, R.calm_ok, modR_ok (show (0 : Int) < 4 by decide), ej]
      rw [rng1_ok (by omega) (by omega), R.bind_ok, e1]
      simp only [R.bind_ok]
      rw [r1]
      simp only [R.bind_ok, appR]
      rw [R.guard_true (by rw [d.len]; omega)]
      rfl
    · rw [List.length_append, d.len]; rfl
    · intro s hs
      rcases List.mem_append.mp hs with z | z
      · exact d.row s z
      · have z : s = r.2 := by simpa using z
        subst z
        omega
    · rw [List.flatten_append]
      show (l.2.flatten ++ (r.2 ++ [])).Perm _
      rw [List.append_nil, List.range_add, List.map_append, List.map_map]
      refine d.pm.append (r4.trans ?_)
      exact .of_eq rfl
  rw [Nat.zero_add, rangeL_len, show ((k : Int) - 0).toNat = k by omega] at l3 l4
  refine ⟨t, l.2, n, k, ht, ?_, l4, by omega, k1, k2⟩
  unfold _law_rows
  simp only [sm_map2, sm_bnd2, sm_bnd1, sm_ret, R.bind_ok, modR_ok (show (0 : Int) < 4 by decide), divS (show (0 : Int) < 4 by decide) (show (4 : Int) < 100000000000 by decide)] at t1 ⊢
  rw [t1]
  simp only [R.bind_ok]
  rw [ek, rng1_ok (by omega) (by omega)]
  simp only [R.bind_ok]
  rw [l1]
  rfl
end K56

/-! k56: the law. -/
namespace K56
open PySem PySem.Spec PyProof.Rows L2 Y K57
structure GR (rows : Rws) : Prop where
  n1 : 1 ≤ rows.length
  n4 : rows.length ≤ 4
  sz : ∀ r ∈ rows, 1 ≤ r.length ∧ r.length ≤ 4
  nd : rows.flatten.Nodup
  ok : ∀ m ∈ rows.flatten, PyData.strOk m = true
theorem row_mem {rows : Rws} {k : Nat} (h : k < rows.length) : row rows k ∈ rows := List.mem_of_getElem? (row_get h)
theorem row_out {rows : Rws} {k : Nat} (h : ¬ k < rows.length) : row rows k = [] := by
  unfold row
  rw [List.getD_eq_getElem?_getD, List.getElem?_eq_none (by omega)]; rfl
theorem flat_one : ∀ {rows : Rws}, rows.flatten.Nodup → (∀ k, (row rows k).Nodup) ∧ ∀ j k m, m ∈ row rows j → m ∈ row rows k → j = k
  | [], _ => ⟨fun k => by rw [row_out (by simp)]; exact .nil, fun j k m h => by rw [row_out (by simp)] at h; cases h⟩
  | r :: rows, h => by
    rw [List.flatten_cons, List.nodup_append] at h
    obtain ⟨h1, h2, h3⟩ := h
    obtain ⟨g1, g2⟩ := flat_one h2
    have inF : ∀ k m, m ∈ row rows k → m ∈ rows.flatten := fun k m hm => by
      by_cases hk : k < rows.length
      · exact List.mem_flatten.mpr ⟨_, row_mem hk, hm⟩
      · rw [row_out hk] at hm; cases hm
    refine ⟨fun k => ?_, fun j k m hj hk => ?_⟩
    · cases k with
      | zero => exact h1
      | succ k => exact g1 k
    · cases j with
      | zero =>
        cases k with
        | zero => rfl
        | succ k => exact (h3 m hj m (inF k m hk) rfl).elim
      | succ j =>
        cases k with
        | zero => exact (h3 m hk m (inF j m hj) rfl).elim
        | succ k => exact congrArg (· + 1) (g2 j k m hj hk)
theorem GR.rl {rows : Rws} {lines : Lns} (g : GR rows) (hl : lines.length ≤ 100) (hz : ∀ z ∈ lines, ∃ k, k + 1 < rows.length ∧ z.1 ∈ row rows k ∧ z.2 ∈ row rows (k + 1)) : RL rows lines ∧ ∀ k, (row rows k).length ≤ 8 := by
  have hs : ∀ k, (row rows k).length ≤ 4 := fun k => by
    by_cases hk : k < rows.length
    · exact (g.sz _ (row_mem hk)).2
    · rw [row_out hk]; exact Nat.zero_le _
  obtain ⟨f1, f2⟩ := flat_one g.nd
  refine ⟨⟨g.n1, Nat.le_trans g.n4 (by decide), fun k => Nat.le_trans (hs k) (by decide), f1, f2, fun k m hm => ?_, hl, hz⟩, fun k => Nat.le_trans (hs k) (by decide)⟩
  by_cases hk : k < rows.length
  · exact g.ok m (List.mem_flatten.mpr ⟨_, row_mem hk, hm⟩)
  · rw [row_out hk] at hm; cases hm
theorem pick_ok {α : Type} {xs : List α} (h : 1 ≤ xs.length) (hl : xs.length ≤ 1000) (v : Int) : ∃ r, getI xs (v % (xs.length : Int)) = .ok r ∧ r ∈ xs := by
  have h1 := Int.emod_nonneg v (show (xs.length : Int) ≠ 0 by omega)
  have h2 := Int.emod_lt_of_pos v (show (0 : Int) < (xs.length : Int) by omega)
  obtain ⟨k, hk⟩ : ∃ k : Nat, v % (xs.length : Int) = (k : Int) := ⟨(v % (xs.length : Int)).toNat, by omega⟩
  have hk2 : k < xs.length := by omega
  rw [hk, getI_nat (List.getElem?_eq_getElem hk2)]
  exact ⟨_, rfl, List.getElem_mem hk2⟩
theorem lines_ok {rows : Rws} (g : GR rows) (cells : List Int) (hc : cells.length ≤ 100) : ∃ lines, _law_lines (rows, cells) = .ok lines ∧ lines.length ≤ 100 ∧ ∀ z ∈ lines, ∃ k, k + 1 < rows.length ∧ z.1 ∈ row rows k ∧ z.2 ∈ row rows (k + 1) := by
  have hn4 := g.n4
  unfold _law_lines
  simp only [sm_ret, R.bind_ok]
  obtain ⟨l, l1, l2, l3⟩ := foldR_inv (f := _law_lines_b19 (rows, cells)) (fun i (l : Lns) => l.length ≤ i ∧ ∀ z ∈ l, ∃ k, k + 1 < rows.length ∧ z.1 ∈ row rows k ∧ z.2 ∈ row rows (k + 1)) cells 0 [] ⟨Nat.le_refl _, fun _ m => by cases m⟩ fun i l a ⟨e1, e2⟩ ha => by
    rw [Nat.zero_add] at e1 ⊢
    have hi := (List.getElem?_eq_some_iff.mp ha).1
    unfold _law_lines_b19
    simp only [sm_map2, sm_map1, sm_ret, R.bind_ok]
    by_cases c : 1 < rows.length
    · rw [if_pos (show gtB (rows.length : Int) 1 = true from decide_eq_true (by omega))]
      obtain ⟨v1, m1, _⟩ := mix_ok a 1 (by omega)
      obtain ⟨v2, m2, _⟩ := mix_ok a 2 (by omega)
      obtain ⟨v3, m3, _⟩ := mix_ok a 3 (by omega)
      have m1 : _law_mix (a, 1) = .ok v1 := m1
      have m2 : _law_mix (a, 2) = .ok v2 := m2
      have m3 : _law_mix (a, 3) = .ok v3 := m3
      have pos : (0 : Int) < (rows.length : Int) - 1 := by omega
      have h1 := Int.emod_nonneg v1 (show (rows.length : Int) - 1 ≠ 0 by omega)
      have h2 := Int.emod_lt_of_pos v1 pos
      obtain ⟨k, hk⟩ : ∃ k : Nat, v1 % ((rows.length : Int) - 1) = (k : Int) := ⟨(v1 % ((rows.length : Int) - 1)).toNat, by omega⟩
      have hk1 : k + 1 < rows.length := by omega
      have e1' : ((k : Int) + 1) = ((k + 1 : Nat) : Int) := by push_cast; rfl
      have s1 := g.sz _ (row_mem (show k < rows.length by omega))
      have s2 := g.sz _ (row_mem hk1)
      obtain ⟨u, u1, u2⟩ := pick_ok s1.1 (by omega) v2
      obtain ⟨w, w1, w2⟩ := pick_ok s2.1 (by omega) v3
      have p1 : (0 : Int) < ((row rows k).length : Int) := by omega
      have p2 : (0 : Int) < ((row rows (k + 1)).length : Int) := by omega
      simp only [sm_map2, sm_map1, sm_bnd1, sm_bnd2, sm_ret, R.bind_ok, m1, m2, m3, R.calm_ok, modR_ok pos, hk, row_getI (show k < rows.length by omega), e1', row_getI hk1, modR_ok p1, modR_ok p2, u1, w1, appR]
      rw [R.guard_true (by omega)]
      refine ⟨_, rfl, ?_, ?_⟩
      · rw [List.length_append]; show l.length + 1 ≤ _; omega
      · intro z hz
        rcases List.mem_append.mp hz with z1 | z1
        · exact e2 z z1
        · have z1 : z = (u, w) := by simpa using z1
          subst z1
          exact ⟨k, hk1, u2, w2⟩
    · rw [if_neg (fun z => by
        have z := of_decide_eq_true z
        omega)]
      exact ⟨l, rfl, by omega, e2⟩
  rw [l1]
  exact ⟨l, rfl, by omega, l3⟩
theorem asked_ok {rows : Rws} {lines : Lns} (h : RL rows lines) (h8 : ∀ k, (row rows k).length ≤ 8) (cell : Int) {n : Nat} (hn : n ≤ 1000) {d : List (Int × Rws)} (hk : Kn rows lines n d) : ∃ d', _law_asked (rows, lines, cell, d) = .ok (true, d') ∧ Kn rows lines (n + 1) d' := by
  obtain ⟨v5, m5, _⟩ := mix_ok cell 5 (by omega)
  obtain ⟨v7, m7, _⟩ := mix_ok cell 7 (by omega)
  obtain ⟨v9, m9, _⟩ := mix_ok cell 9 (by omega)
  have m5 : _law_mix (cell, 5) = .ok v5 := m5
  have m7 : _law_mix (cell, 7) = .ok v7 := m7
  have m9 : _law_mix (cell, 9) = .ok v9 := m9
  have keep : Kn rows lines (n + 1) d := ⟨Nat.le_trans hk.len (by omega), hk.old⟩
  unfold _law_asked
  simp only [sm_map2, sm_bnd1, sm_bnd2, sm_ret, R.bind_ok, m5, m7, m9, R.calm_ok, modR_ok (show (0 : Int) < 5 by decide), counted_ok h, settledR_ok h, leastR_ok h h8]
  by_cases c0 : eqB (v5 % 5) 0 = true
  · rw [if_pos c0]
    exact ⟨d, rfl, keep⟩
  · rw [if_neg c0]
    by_cases c1 : eqB (v5 % 5) 1 = true
    · rw [if_pos c1]
      have h1 := Int.emod_nonneg v7 (show (5 : Int) ≠ 0 by decide)
      have h2 := Int.emod_lt_of_pos v7 (show (0 : Int) < 5 by decide)
      obtain ⟨t, et⟩ : ∃ t : Nat, v7 % 5 = (t : Int) := ⟨(v7 % 5).toNat, by omega⟩
      obtain ⟨d', s1, s2⟩ := sweptR_ok h (t := t) (by omega) hn hk
      rw [et, s1]
      exact ⟨d', rfl, s2⟩
    · rw [if_neg c1]
      by_cases c2 : ltB (v5 % 5) 4 = true
      · rw [if_pos c2]
        exact ⟨d, rfl, keep⟩
      · rw [if_neg c2]
        exact ⟨d, rfl, keep⟩
abbrev canAll : (List Rws × List Lns) → Bool := ((dqLsH (dtCons (dqLst (dqLst (dqLst dqStr))) (dtOne (dqLst (dqLst (dqTup (dtCons dqStr (dtOne dqStr)))))))) : DQ K0 (rLsH K0 (RT.cons (rLst K0 (rLst K0 (rLst K0 rStr))) (RT.one (rLst K0 (rLst K0 (rTup K0 (RT.cons rStr (RT.one rStr))))))))).can
theorem can_all {r0 r1 : Rws} {l0 l1 : Lns} (h0 : RL r0 l0) (h1 : RL r1 l1) : canAll ([r0, r1], [l0, l1]) = true := by
  have cl : ∀ {r l}, RL r l → (l.all fun z => PyData.strOk z.1 && PyData.strOk z.2) = true := fun {r l} h => by
    rw [List.all_eq_true]
    intro z hz
    obtain ⟨k, _, a, b⟩ := h.ln z hz
    rw [h.ok k _ a, h.ok (k + 1) _ b]; rfl
  have c0 : (r0.all fun r => r.all PyData.strOk) = true := can_rows h0
  have c1 : (r1.all fun r => r.all PyData.strOk) = true := can_rows h1
  show (((r0.all fun r => r.all PyData.strOk) && ((r1.all fun r => r.all PyData.strOk) && true)) && ((l0.all fun z => PyData.strOk z.1 && PyData.strOk z.2) && ((l1.all fun z => PyData.strOk z.1 && PyData.strOk z.2) && true))) = true
  rw [c0, c1, cl h0, cl h1]; rfl
section
variable {r0 r1 : Rws} {l0 l1 : Lns}
theorem b30_ok (h0 : RL r0 l0) (h1 : RL r1 l1) (g0 : ∀ k, (row r0 k).length ≤ 8) (g1 : ∀ k, (row r1 k).length ≤ 8) (cell : Int) {one n : Nat} (ho : one < 2) (hn : n ≤ 1000) {d0 d1 : List (Int × Rws)} (k0 : Kn r0 l0 n d0) (k1 : Kn r1 l1 n d1) (a : Int) :
    ∃ d0' d1', law_b30 [r0, r1] ([l0, l1], ()) (([r0, r1], [l0, l1]), ()) cell ((one : Int), ()) [d0, d1] a = .ok (.nx [d0', d1']) ∧ Kn r0 l0 (n + 1) d0' ∧ Kn r1 l1 (n + 1) d1' := by
  have fin : ∀ s : List (List (Int × Rws)), law_e29 [r0, r1] ([l0, l1], ()) (([r0, r1], [l0, l1]), ()) s = .ok (.nx s) := fun s => by
    unfold law_e29
    have c := can_all h0 h1
    simp only [sm_pk, sm_bnd2, sm_map2, sm_ret, R.bind_ok, neD]
    rw [R.guard_true ⟨c, c⟩]
    simp only [R.bind_ok, R.calm_ok]
    rw [if_neg (by simp)]
  have kk0 : Kn r0 l0 (n + 1) d0 := ⟨Nat.le_trans k0.len (by omega), k0.old⟩
  have kk1 : Kn r1 l1 (n + 1) d1 := ⟨Nat.le_trans k1.len (by omega), k1.old⟩
  have : one = 0 ∨ one = 1 := by omega
  rcases this with e | e
  · subst e
    obtain ⟨d', s1, s2⟩ := asked_ok h0 g0 cell hn k0
    refine ⟨d', d1, ?_, s2, kk1⟩
    have gi : ∀ {α : Type} (x y : α), getI [x, y] ((0 : Nat) : Int) = .ok x := fun x y => getI_nat (i := 0) rfl
    unfold law_b30
    simp only [sm_not, sm_map2, sm_bnd2, sm_ret, R.bind_ok, gi]
    rw [ixN_ok (show 0 < [d0, d1].length from Nat.zero_lt_succ _)]
    simp only [R.ofO_some, R.bind_ok, List.getElem?_cons_zero, s1, R.calm_ok]
    rw [if_neg (by decide)]
    exact fin _
  · subst e
    obtain ⟨d', s1, s2⟩ := asked_ok h1 g1 cell hn k1
    refine ⟨d0, d', ?_, kk0, s2⟩
    have gi : ∀ {α : Type} (x y : α), getI [x, y] ((1 : Nat) : Int) = .ok y := fun x y => getI_nat (i := 1) rfl
    unfold law_b30
    simp only [sm_not, sm_map2, sm_bnd2, sm_ret, R.bind_ok, gi]
    rw [ixN_ok (show 1 < [d0, d1].length from Nat.lt_succ_self 1)]
    have g1' : [d0, d1][1]? = some d1 := rfl
    simp only [R.ofO_some, R.bind_ok, g1', s1, R.calm_ok]
    rw [if_neg (by decide)]
    exact fin _
theorem b31_ok (h0 : RL r0 l0) (h1 : RL r1 l1) (g0 : ∀ k, (row r0 k).length ≤ 8) (g1 : ∀ k, (row r1 k).length ≤ 8) (cell : Int) {n : Nat} (hn : n ≤ 900) {d0 d1 : List (Int × Rws)} (k0 : Kn r0 l0 n d0) (k1 : Kn r1 l1 n d1) :
    ∃ d0' d1', law_b31 [r0, r1] ([l0, l1], ()) (([r0, r1], [l0, l1]), ()) [d0, d1] cell = .ok (.nx [d0', d1']) ∧ Kn r0 l0 (n + 2) d0' ∧ Kn r1 l1 (n + 2) d1' := by
  obtain ⟨v3, m3, _⟩ := mix_ok cell 3 (by omega)
  have m3 : _law_mix (cell, 3) = .ok v3 := m3
  have e1 := Int.emod_nonneg v3 (show (2 : Int) ≠ 0 by decide)
  have e2 := Int.emod_lt_of_pos v3 (show (0 : Int) < 2 by decide)
  obtain ⟨one, eo⟩ : ∃ one : Nat, v3 % 2 = (one : Int) := ⟨(v3 % 2).toNat, by omega⟩
  unfold law_b31
  simp only [sm_map2, sm_bnd2, sm_bnd1, sm_ret, R.bind_ok, m3, R.calm_ok, modR_ok (show (0 : Int) < 2 by decide), eo]
  rw [rng1_ok (by decide) (by decide)]
  simp only [R.bind_ok]
  obtain ⟨l, q1, d0', d1', q2, q3, q4⟩ := forR_inv (f := law_b30 [r0, r1] ([l0, l1], ()) (([r0, r1], [l0, l1]), ()) cell ((one : Int), ())) (fun i (l : List (List (Int × Rws))) => ∃ d0 d1, l = [d0, d1] ∧ Kn r0 l0 (n + i) d0 ∧ Kn r1 l1 (n + i) d1) (rangeL 0 2) 0 [d0, d1] ⟨d0, d1, rfl, k0, k1⟩ fun i l a ⟨d0, d1, e, k0, k1⟩ ha => by
    subst e
    rw [Nat.zero_add] at k0 k1 ⊢
    obtain ⟨p1, p2⟩ := rangeL_get ha
    obtain ⟨d0', d1', s1, s2, s3⟩ := b30_ok h0 h1 g0 g1 cell (one := one) (n := n + i) (by omega) (by omega) k0 k1 a
    exact ⟨_, s1, d0', d1', rfl, s2, s3⟩
  rw [q1, q2]
  rw [rangeL_len] at q3 q4
  exact ⟨d0', d1', rfl, q3, q4⟩
end
end K56

/-! k56: the law. -/
namespace K56
open PySem PySem.Spec PyProof.Rows L2 Y K57
def dash (m : Str) : Str := "-" ++ m
theorem nodup_on {α β : Type} {f : α → β} {l : List α} (hf : ∀ x ∈ l, ∀ y ∈ l, f x = f y → x = y) (h : l.Nodup) : (l.map f).Nodup := by
  show List.Pairwise _ _
  rw [List.pairwise_map]
  exact List.Pairwise.imp_of_mem (fun {a b} ha hb ne e => ne (hf a ha b hb e)) h
theorem sub_flat {α : Type} {l l' : List (List α)} (h : l.Sublist l') : l.flatten.Sublist l'.flatten := by
  induction h with
  | slnil => exact .slnil
  | cons a _ ih => rw [List.flatten_cons]; exact ih.trans (List.sublist_append_right _ _)
  | cons_cons a _ ih => rw [List.flatten_cons, List.flatten_cons]; exact ih.append_left a
theorem Dr.gr {t : Str × Str} {n k : Nat} {rows : Rws} (d : Dr t n k rows) (ht : t ∈ tags) (hn : n ≤ 16) (k1 : 1 ≤ k) (k4 : k ≤ 4) : GR rows where
  n1 := by rw [d.len]; exact k1
  n4 := by rw [d.len]; exact k4
  sz := d.row
  nd := d.pm.nodup_iff.mpr (by
    refine nodup_on ?_ List.nodup_range
    intro i hi j hj e
    have := mk_inj ht (show i + 1 < 17 by have := List.mem_range.mp hi; omega) (show j + 1 < 17 by have := List.mem_range.mp hj; omega) e
    omega)
  ok := fun m hm => by
    obtain ⟨i, hi, e⟩ := List.mem_map.mp (d.pm.mem_iff.mp hm)
    rw [← e]
    exact (mk_ok ht (show i + 1 < 17 by have := List.mem_range.mp hi; omega)).1
theorem Dr.of {t : Str × Str} {n k : Nat} {rows : Rws} (d : Dr t n k rows) (hn : n ≤ 16) {m : Str} (hm : m ∈ rows.flatten) : ∃ i < 17, m = K56.mk t i := by
  obtain ⟨i, hi, e⟩ := List.mem_map.mp (d.pm.mem_iff.mp hm)
  exact ⟨i + 1, by have := List.mem_range.mp hi; omega, e.symm⟩
theorem two_gr {t t' : Str × Str} {n n' k k' : Nat} {r0 r1 : Rws} (d0 : Dr t n k r0) (d1 : Dr t' n' k' r1) (ht : t ∈ tags) (ht' : t' ∈ tags) (hn : n ≤ 16) (hn' : n' ≤ 16) (k1 : 1 ≤ k) (k4 : k ≤ 4) (k1' : 1 ≤ k') (k4' : k' ≤ 4) :
    GR ((r1.map fun r => r.map dash).take 3 ++ [row r0 (k - 1)]) := by
  have g0 := d0.gr ht hn k1 k4
  have g1 := d1.gr ht' hn' k1' k4'
  have hk : k - 1 < r0.length := by rw [d0.len]; omega
  have hm := row_mem hk
  have fl : ((r1.map fun r => r.map dash).take 3).flatten = ((r1.take 3).flatten).map dash := by
    rw [← List.map_take, List.map_flatten]
  have sub : (r1.take 3).flatten.Sublist r1.flatten := sub_flat (List.take_sublist 3 r1)
  have sub0 : (row r0 (k - 1)).Sublist r0.flatten := by
    have : [row r0 (k - 1)].Sublist r0 := by
      rw [List.singleton_sublist]; exact hm
    have := sub_flat this
    simpa using this
  refine ⟨?_, ?_, ?_, ?_, ?_⟩
  · rw [List.length_append]; show 1 ≤ _ + 1; omega
  · rw [List.length_append, List.length_take, List.length_map]; show min 3 _ + 1 ≤ 4; omega
  · intro r hr
    rcases List.mem_append.mp hr with z | z
    · obtain ⟨q, hq, e⟩ := List.mem_map.mp (List.mem_of_mem_take z)
      rw [← e, List.length_map]
      exact g1.sz q hq
    · have z : r = row r0 (k - 1) := by simpa using z
      rw [z]; exact g0.sz _ hm
  · rw [List.flatten_append, fl]
    show (((r1.take 3).flatten).map dash ++ (row r0 (k - 1) ++ [])).Nodup
    rw [List.append_nil, List.nodup_append]
    refine ⟨?_, g0.nd.sublist sub0, ?_⟩
    · refine nodup_on ?_ (g1.nd.sublist sub)
      intro x hx y hy e
      obtain ⟨i, hi, ei⟩ := d1.of hn' (sub.subset hx)
      obtain ⟨j, hj, ej⟩ := d1.of hn' (sub.subset hy)
      rw [ei, ej] at e ⊢
      rw [dash_inj ht' hi hj e]
    · intro x hx y hy e
      obtain ⟨q, hq, eq⟩ := List.mem_map.mp hx
      obtain ⟨i, hi, ei⟩ := d1.of hn' (sub.subset hq)
      obtain ⟨j, hj, ej⟩ := d0.of hn (sub0.subset hy)
      refine dash_ne ht' ht hi hj ?_
      rw [← ei, ← ej, ← e, ← eq]; rfl
  · intro m hm'
    rw [List.flatten_append, fl] at hm'
    rcases List.mem_append.mp hm' with z | z
    · obtain ⟨q, hq, eq⟩ := List.mem_map.mp z
      obtain ⟨i, hi, ei⟩ := d1.of hn' (sub.subset hq)
      rw [← eq, ei]
      exact (mk_ok ht' hi).2.1
    · have z : m ∈ row r0 (k - 1) := by simpa using z
      exact g0.ok m (sub0.subset z)
theorem cut_len {α : Type} (xs : List α) (a b : Nat) : (cutL xs (some (a : Int)) (some (b : Int))).length ≤ b - a := by
  unfold cutL
  rw [HT.sIx_nat, HT.sIx_nat, List.length_take]
  omega
theorem law_ok (x : List Int) (hx : x.length ≤ 63) : law x = .ok true := by
  obtain ⟨c0, hc0⟩ := cell_ok x 0
  obtain ⟨c1, hc1⟩ := cell_ok x 1
  obtain ⟨c2, hc2⟩ := cell_ok x 2
  have hc0 : _law_cell_at (x, 0) = .ok c0 := hc0
  have hc1 : _law_cell_at (x, 1) = .ok c1 := hc1
  have hc2 : _law_cell_at (x, 2) = .ok c2 := hc2
  obtain ⟨t, r0, n, k, ht, hr0, d0, hn, k1, k4⟩ := rows_ok c0
  obtain ⟨t', r1, n', k', ht', hr1, d1, hn', k1', k4'⟩ := rows_ok c1
  have G0 := d0.gr ht hn k1 k4
  have G1 := two_gr d0 d1 ht ht' hn hn' k1 k4 k1' k4'
  have hk : k - 1 < r0.length := by rw [d0.len]; omega
  have last : getI r0 (-1) = .ok (row r0 (k - 1)) := by
    unfold getI L2.atI
    have e : ixN r0.length (-1) = some (k - 1) := by
      unfold ixN
      rw [d0.len, if_neg (by decide), if_pos (by omega)]
      congr 1
      omega
    rw [e]
    show R.ofO r0[k - 1]? = _
    rw [row_get hk]; rfl
  have dsh : ∀ m : SM Unit Rws, m () = .ok (r1, ()) → SM.lc m (fun (_ : List Str) => SM.ret true) (fun a4 => SM.lc (SM.ret a4) (fun (_ : Str) => SM.ret true) (fun a5 => SM.bnd2 catS (SM.ret ("-" : Str)) (SM.ret a5))) () = .ok (r1.map fun r => r.map dash, ()) := fun m em => by
    rw [lc_ok (p := fun _ => true) (g := fun (r : List Str) => r.map dash) (xs := r1) (s' := ()) em (fun _ _ => by simp) (fun r hr _ => ?_) (by rw [d1.len]; omega)]
    · rw [filter_tt]
    · rw [lc_ok (p := fun _ => true) (g := dash) (xs := r) (s' := ()) (by simp) (fun _ _ => by simp) (fun m hm _ => ?_) (by have := (d1.row r hr).2; omega)]
      · rw [filter_tt]
      · obtain ⟨i, hi, ei⟩ := d1.of hn' (List.mem_flatten.mpr ⟨r, hr, hm⟩)
        have := (mk_ok ht' hi).2.2.2.2.2
        rw [← ei] at this
        simp only [sm_bnd2, sm_ret, R.bind_ok, this]
        rfl
  let ra : Rws := (r1.map fun r => r.map dash).take 3 ++ [row r0 (k - 1)]
  have cl0 : (cutL x (some ((3 : Nat) : Int)) (some ((13 : Nat) : Int))).length ≤ 100 := Nat.le_trans (cut_len x 3 13) (by decide)
  have cl1 : (cutL x (some ((13 : Nat) : Int)) (some ((23 : Nat) : Int))).length ≤ 100 := Nat.le_trans (cut_len x 13 23) (by decide)
  obtain ⟨l0, q0, ll0, lz0⟩ := lines_ok G0 _ cl0
  obtain ⟨l1, q1, ll1, lz1⟩ := lines_ok G1 _ cl1
  obtain ⟨R0, E0⟩ := G0.rl ll0 lz0
  obtain ⟨R1, E1⟩ := G1.rl ll1 lz1
  have rg2 : rangeL 0 2 = [0, 1] := by decide
  have rg : rng1 2 = .ok [0, 1] := by rw [rng1_ok (by decide) (by decide), rg2]
  have getr : ∀ {α : Type} (x y : α), getI [x, y] 0 = .ok x ∧ getI [x, y] 1 = .ok y := fun x y => ⟨getI_nat (i := 0) rfl, getI_nat (i := 1) rfl⟩
  have lns : SM.lc (SM.bnd1 rng1 (SM.ret (2 : Int))) (fun (_ : Int) => SM.ret true) (fun a9 => SM.bnd1 (fun z => (_law_lines z).calm) (SM.map2 Prod.mk (SM.bnd2 getI (SM.ret [r0, ra]) (SM.ret a9)) (SM.map3 cutL (SM.ret x) (SM.map1 some (SM.map2 (· + ·) (SM.ret (3 : Int)) (SM.bnd2 mulR (SM.ret (10 : Int)) (SM.ret a9)))) (SM.map1 some (SM.map2 (· + ·) (SM.ret (13 : Int)) (SM.bnd2 mulR (SM.ret (10 : Int)) (SM.ret a9))))))) () = .ok ([l0, l1], ()) := by
    rw [lc_ok (p := fun _ => true) (g := fun (a : Int) => if a = 0 then l0 else l1) (xs := [0, 1]) (s' := ()) (by simp [rg]) (fun _ _ => by simp) (fun a ha _ => ?_) (by simp)]
    · rw [filter_tt]; rfl
    · have ha : a = 0 ∨ a = 1 := by simpa using ha
      rcases ha with e | e
      · subst e
        simp only [sm_bnd1, sm_map2, sm_map3, sm_map1, sm_bnd2, sm_ret, R.bind_ok, (getr r0 ra).1]
        rw [mulR_ok (.inl ⟨by decide, by decide⟩)]
        simp only [R.bind_ok]
        rw [show (3 : Int) + 10 * 0 = ((3 : Nat) : Int) by decide, show (13 : Int) + 10 * 0 = ((13 : Nat) : Int) by decide, q0]
        rfl
      · subst e
        simp only [sm_bnd1, sm_map2, sm_map3, sm_map1, sm_bnd2, sm_ret, R.bind_ok, (getr r0 ra).2]
        rw [mulR_ok (.inl ⟨by decide, by decide⟩)]
        simp only [R.bind_ok]
        rw [show (3 : Int) + 10 * 1 = ((13 : Nat) : Int) by decide, show (13 : Int) + 10 * 1 = ((23 : Nat) : Int) by decide, q1]
        rfl
  have cpR : SM.lc (SM.ret [r0, ra]) (fun (_ : Rws) => SM.ret true) (fun a12 => SM.lc (SM.ret a12) (fun (_ : List Str) => SM.ret true) (fun a13 => SM.map1 id (SM.ret a13))) () = .ok ([r0, ra], ()) := by
    rw [lc_ok (p := fun _ => true) (g := fun z => z) (xs := [r0, ra]) (s' := ()) (by simp) (fun _ _ => by simp) (fun r hr _ => ?_) (by simp)]
    · simp [filter_tt]
    · have hr : r = r0 ∨ r = ra := by simpa using hr
      have hl : r.length ≤ 16777216 := by
        rcases hr with e | e
        · rw [e]; have := G0.n4; omega
        · rw [e]; have : ra.length ≤ 4 := G1.n4; omega
      exact copy_ok hl
  have cpL : SM.lc (SM.ret [l0, l1]) (fun (_ : Lns) => SM.ret true) (fun a14 => SM.map1 id (SM.ret a14)) () = .ok ([l0, l1], ()) := copy_ok (by simp)
  have cl3 : (cutL x (some ((23 : Nat) : Int)) (some ((33 : Nat) : Int))).length ≤ 10 := cut_len x 23 33
  let cells : List Int := cutL x (some 23) (some 33) ++ [c2, 5, 6]
  have hcells : cells.length ≤ 13 := by
    show (cutL x (some ((23 : Nat) : Int)) (some ((33 : Nat) : Int)) ++ [c2, 5, 6]).length ≤ 13
    rw [List.length_append]
    show _ + 3 ≤ 13
    omega
  obtain ⟨l, f1, dA, dB, f2, f3, f4⟩ := forR_inv (f := law_b31 [r0, ra] ([l0, l1], ()) (([r0, ra], [l0, l1]), ())) (fun i (l : List (List (Int × Rws))) => ∃ d0 d1, l = [d0, d1] ∧ Kn r0 l0 (2 * i) d0 ∧ Kn ra l1 (2 * i) d1) cells 0 [[], []] ⟨[], [], rfl, ⟨Nat.le_refl _, fun _ _ z => by cases z⟩, ⟨Nat.le_refl _, fun _ _ z => by cases z⟩⟩ fun i l a ⟨d0, d1, e, k0, k1⟩ ha => by
    subst e
    rw [Nat.zero_add] at k0 k1 ⊢
    have hi := (List.getElem?_eq_some_iff.mp ha).1
    obtain ⟨d0', d1', s1, s2, s3⟩ := b31_ok R0 R1 E0 E1 a (n := 2 * i) (by omega) k0 k1
    exact ⟨_, s1, d0', d1', rfl, s2, s3⟩
  have dp2 : dispR [r0, r1] = .ok [r0, r1] := by unfold dispR; rw [R.guard_true (by simp)]; rfl
  have dp1 : dispR [row r0 (k - 1)] = .ok [row r0 (k - 1)] := by unfold dispR; rw [R.guard_true (by simp)]; rfl
  have dp3 : dispR [c2, (5 : Int), 6] = .ok [c2, 5, 6] := by unfold dispR; rw [R.guard_true (by simp)]; rfl
  have ct3 : cutL (r1.map fun r => r.map dash) none (some 3) = (r1.map fun r => r.map dash).take 3 := cutL_take (k := 3)
  have cat1 : catL ((r1.map fun r => r.map dash).take 3) [row r0 (k - 1)] = .ok ra := by
    unfold catL
    rw [R.guard_true (by rw [List.length_take]; simp; omega)]; rfl
  have cat2 : catL (cutL x (some 23) (some 33)) [c2, 5, 6] = .ok cells := by
    unfold catL
    have : (cutL x (some 23) (some 33)).length ≤ 10 := cl3
    rw [R.guard_true (by simp; omega)]; rfl
  have st : setR [r0, r1] 1 ra = .ok [r0, ra] := by
    have := setR_ok (xs := [r0, r1]) (k := 1) (x := ra) (Nat.lt_succ_self 1)
    exact this
  unfold law
  simp only [sm_bnd1, sm_bnd2, sm_map2, sm_map3, sm_map1, sm_pk, sm_ret, R.bind_ok, hc0, hc1, hc2, R.calm_ok, hr0, hr1, dp2, (getr r0 r1).2, (getr r0 r1).1, last, dp1]
  have dsh2 := dsh (SM.bnd2 getI (SM.ret [r0, r1]) (SM.ret 1)) (by simp only [sm_bnd2, sm_ret, R.bind_ok, (getr r0 r1).2])
  rw [dsh2]
  simp only [R.calm_ok, R.bind_ok, (getr r0 r1).1, last, dp1, ct3, cat1, st, lns, cpR, cpL, dp3, cat2]
  rw [f1]
  rfl
end K56

namespace K56
open PySem PySem.Spec PyProof.Rows L2 Y K57
def dd_places_of : He.DefD := ⟨("places_of", none), "places_of", "places_of", defArgs s_places_of, defBody s_places_of, defScope s_places_of, [], []⟩
def dd_cross : He.DefD := ⟨("cross", none), "cross", "cross", defArgs s_cross, defBody s_cross, defScope s_cross, [], []⟩
def dd_crossings : He.DefD := ⟨("crossings", none), "crossings", "crossings", defArgs s_crossings, defBody s_crossings, defScope s_crossings, [], []⟩
def dd_ends_of : He.DefD := ⟨("ends_of", none), "ends_of", "ends_of", defArgs s_ends_of, defBody s_ends_of, defScope s_ends_of, [], []⟩
def dd_cost : He.DefD := ⟨("cost", none), "cost", "cost", defArgs s_cost, defBody s_cost, defScope s_cost, [], []⟩
def dd_members : He.DefD := ⟨("members", none), "members", "members", defArgs s_members, defBody s_members, defScope s_members, [], []⟩
def dd_entry : He.DefD := ⟨("entry", none), "entry", "entry", defArgs s_entry, defBody s_entry, defScope s_entry, [], []⟩
def dd_least_order : He.DefD := ⟨("least_order", none), "least_order", "least_order", defArgs s_least_order, defBody s_least_order, defScope s_least_order, [], []⟩
def dd_between : He.DefD := ⟨("between", none), "between", "between", defArgs s_between, defBody s_between, defScope s_between, [], []⟩
def dd_all_crossings : He.DefD := ⟨("all_crossings", none), "all_crossings", "all_crossings", defArgs s_all_crossings, defBody s_all_crossings, defScope s_all_crossings, [], []⟩
def dd_middle_of : He.DefD := ⟨("middle_of", none), "middle_of", "middle_of", defArgs s_middle_of, defBody s_middle_of, defScope s_middle_of, [], []⟩
def dd_sorted_row : He.DefD := ⟨("sorted_row", none), "sorted_row", "sorted_row", defArgs s_sorted_row, defBody s_sorted_row, defScope s_sorted_row, [], []⟩
def dd_swept_down : He.DefD := ⟨("swept_down", none), "swept_down", "swept_down", defArgs s_swept_down, defBody s_swept_down, defScope s_swept_down, [], []⟩
def dd_swept_up : He.DefD := ⟨("swept_up", none), "swept_up", "swept_up", defArgs s_swept_up, defBody s_swept_up, defScope s_swept_up, [], []⟩
def dd_swept : He.DefD := ⟨("swept", none), "swept", "swept", defArgs s_swept, defBody s_swept, defScope s_swept, [.int 4], []⟩
def dd_other_ends : He.DefD := ⟨("other_ends", none), "other_ends", "other_ends", defArgs s_other_ends, defBody s_other_ends, defScope s_other_ends, [], []⟩
def dd_crossing_less : He.DefD := ⟨("crossing_less", none), "crossing_less", "crossing_less", defArgs s_crossing_less, defBody s_crossing_less, defScope s_crossing_less, [], []⟩
def dd_saved : He.DefD := ⟨("saved", none), "saved", "saved", defArgs s_saved, defBody s_saved, defScope s_saved, [], []⟩
def dd_first_change : He.DefD := ⟨("first_change", none), "first_change", "first_change", defArgs s_first_change, defBody s_first_change, defScope s_first_change, [], []⟩
def dd_settled : He.DefD := ⟨("settled", none), "settled", "settled", defArgs s_settled, defBody s_settled, defScope s_settled, [], []⟩
def dd__law_cell_at : He.DefD := ⟨("_law_cell_at", none), "_law_cell_at", "_law_cell_at", defArgs s__law_cell_at, defBody s__law_cell_at, defScope s__law_cell_at, [], []⟩
def dd__law_mix : He.DefD := ⟨("_law_mix", none), "_law_mix", "_law_mix", defArgs s__law_mix, defBody s__law_mix, defScope s__law_mix, [], []⟩
def dd__law_rows : He.DefD := ⟨("_law_rows", none), "_law_rows", "_law_rows", defArgs s__law_rows, defBody s__law_rows, defScope s__law_rows, [], []⟩
def dd__law_lines : He.DefD := ⟨("_law_lines", none), "_law_lines", "_law_lines", defArgs s__law_lines, defBody s__law_lines, defScope s__law_lines, [], []⟩
def dd__law_two : He.DefD := ⟨("_law_two", none), "_law_two", "_law_two", defArgs s__law_two, defBody s__law_two, defScope s__law_two, [], []⟩
def dd__law_all : He.DefD := ⟨("_law_all", none), "_law_all", "_law_all", defArgs s__law_all, defBody s__law_all, defScope s__law_all, [], []⟩
def dd__law_changed : He.DefD := ⟨("_law_changed", none), "_law_changed", "_law_changed", defArgs s__law_changed, defBody s__law_changed, defScope s__law_changed, [], []⟩
def dd__law_crossed : He.DefD := ⟨("_law_crossed", none), "_law_crossed", "_law_crossed", defArgs s__law_crossed, defBody s__law_crossed, defScope s__law_crossed, [], []⟩
def dd__law_costs : He.DefD := ⟨("_law_costs", none), "_law_costs", "_law_costs", defArgs s__law_costs, defBody s__law_costs, defScope s__law_costs, [], []⟩
def dd__law_entry : He.DefD := ⟨("_law_entry", none), "_law_entry", "_law_entry", defArgs s__law_entry, defBody s__law_entry, defScope s__law_entry, [], []⟩
def dd__law_closed : He.DefD := ⟨("_law_closed", none), "_law_closed", "_law_closed", defArgs s__law_closed, defBody s__law_closed, defScope s__law_closed, [], []⟩
def dd__law_ordered : He.DefD := ⟨("_law_ordered", none), "_law_ordered", "_law_ordered", defArgs s__law_ordered, defBody s__law_ordered, defScope s__law_ordered, [], []⟩
def dd__law_counted : He.DefD := ⟨("_law_counted", none), "_law_counted", "_law_counted", defArgs s__law_counted, defBody s__law_counted, defScope s__law_counted, [], []⟩
def dd__law_swept_right : He.DefD := ⟨("_law_swept_right", none), "_law_swept_right", "_law_swept_right", defArgs s__law_swept_right, defBody s__law_swept_right, defScope s__law_swept_right, [], []⟩
def dd__law_settled_right : He.DefD := ⟨("_law_settled_right", none), "_law_settled_right", "_law_settled_right", defArgs s__law_settled_right, defBody s__law_settled_right, defScope s__law_settled_right, [], []⟩
def dd__law_least_right : He.DefD := ⟨("_law_least_right", none), "_law_least_right", "_law_least_right", defArgs s__law_least_right, defBody s__law_least_right, defScope s__law_least_right, [], []⟩
def dd__law_asked : He.DefD := ⟨("_law_asked", none), "_law_asked", "_law_asked", defArgs s__law_asked, defBody s__law_asked, defScope s__law_asked, [], []⟩
def dd_law : He.DefD := ⟨("law", none), "law", "law", defArgs s_law, defBody s_law, defScope s_law, [], []⟩
def fn : List He.DefD := [dd_places_of, dd_cross, dd_crossings, dd_ends_of, dd_cost, dd_members, dd_entry, dd_least_order, dd_between, dd_all_crossings, dd_middle_of, dd_sorted_row, dd_swept_down, dd_swept_up, dd_swept, dd_other_ends, dd_crossing_less, dd_saved, dd_first_change, dd_settled, dd__law_cell_at, dd__law_mix, dd__law_rows, dd__law_lines, dd__law_two, dd__law_all, dd__law_changed, dd__law_crossed, dd__law_costs, dd__law_entry, dd__law_closed, dd__law_ordered, dd__law_counted, dd__law_swept_right, dd__law_settled_right, dd__law_least_right, dd__law_asked, dd_law]
def fa : List He.Fa := [.glo "places_of", .glo "cross", .glo "crossings", .glo "ends_of", .glo "cost", .glo "members", .glo "entry", .glo "least_order", .glo "between", .glo "all_crossings", .glo "middle_of", .glo "sorted_row", .glo "swept_down", .glo "swept_up", .glo "swept", .glo "other_ends", .glo "crossing_less", .glo "saved", .glo "first_change", .glo "settled", .glo "_law_cell_at", .glo "_law_mix", .glo "_law_rows", .glo "_law_lines", .glo "_law_two", .glo "_law_all", .glo "_law_changed", .glo "_law_crossed", .glo "_law_costs", .glo "_law_entry", .glo "_law_closed", .glo "_law_ordered", .glo "_law_counted", .glo "_law_swept_right", .glo "_law_settled_right", .glo "_law_least_right", .glo "_law_asked", .glo "law", .free "len", .free "sum", .free "min", .free "max", .free "abs", .free "int", .free "str", .free "list", .free "tuple", .free "dict", .free "bool", .free "range", .free "enumerate", .free "zip", .free "reversed", .free "sorted", .free "isinstance", .free "any", .free "all", .free "set", .free "type", .free "repr", .int "MOST" 8, .exc "TooMany", .glo "TooMany"]
abbrev Rw : PySem.W.OpenRow := PySem.W.OpenLaw.row PySem.Challenge.rw_layerdraw_k56_whole_orders_by_turns
abbrev hk : PySem.W.Hook := He.hookD 5 fa fn
def ob (s : PySem.W.SharedT) : He.AlD := He.obsDG 5 fa fn (HandSHeadRun.getT s)
theorem ob_eq (s : PySem.W.SharedT) : ob s = hk.obs s.abs := He.obsDG_eq (HandSHeadRun.getT_eq s)
def loose : List PySem.Str := (["places_of", "cross", "crossings", "between", "all_crossings", "middle_of", "sorted_row", "swept_down", "swept_up", "swept", "other_ends", "crossing_less", "saved", "first_change", "settled", "DrawError", "TooMany", "MOST", "ends_of", "cost"] : List PySem.Str) ++ (["members", "entry", "least_order", "_law_cell_at", "_law_mix", "_law_rows", "_law_lines", "_law_two", "_law_all", "_law_changed", "_law_crossed", "_law_costs", "_law_entry", "_law_closed", "_law_ordered", "_law_counted", "_law_swept_right", "_law_settled_right", "_law_least_right", "_law_asked"] : List PySem.Str)
theorem run (w : World) : HandSHeadRun.RunEq Rw (PySem.W.view Rw.prog [44]) hk ob 4000 loose w := by
  intro os
  kernel_rfl
theorem facts {P : Program} {w : World} {K : PySem.W.Frag} {h : Heap} {mg : Str → Option Value} {f : Addr} (X : K.In h) (G : h.Ns mainGlobals mg) (hfa : mg ("law" : Str) = some (.ref f)) (c : He.SaysD fa fn K) :
    ∃ fd : FuncData, (∀ (s : Shared) (v : Value), BindsTo s fd ⟨[v], []⟩ [("script", v)]) ∧ ∀ base : Heap, K.In base → base.Ns mainGlobals mg → FnOk P w K mg base (L2.CX P w) 7 f fd ["script"] (law_sp K) := by
  have bi : Bi mg := ⟨He.free_ok X G (c.fact 38 (f := .free "len") rfl), He.free_ok X G (c.fact 39 (f := .free "sum") rfl), He.free_ok X G (c.fact 40 (f := .free "min") rfl), He.free_ok X G (c.fact 41 (f := .free "max") rfl), He.free_ok X G (c.fact 42 (f := .free "abs") rfl), He.free_ok X G (c.fact 43 (f := .free "int") rfl), He.free_ok X G (c.fact 44 (f := .free "str") rfl), He.free_ok X G (c.fact 45 (f := .free "list") rfl), He.free_ok X G (c.fact 46 (f := .free "tuple") rfl), He.free_ok X G (c.fact 47 (f := .free "dict") rfl), He.free_ok X G (c.fact 48 (f := .free "bool") rfl), He.free_ok X G (c.fact 49 (f := .free "range") rfl), He.free_ok X G (c.fact 50 (f := .free "enumerate") rfl), He.free_ok X G (c.fact 51 (f := .free "zip") rfl), He.free_ok X G (c.fact 52 (f := .free "reversed") rfl), He.free_ok X G (c.fact 53 (f := .free "sorted") rfl), He.free_ok X G (c.fact 54 (f := .free "isinstance") rfl), He.free_ok X G (c.fact 55 (f := .free "any") rfl), He.free_ok X G (c.fact 56 (f := .free "all") rfl), He.free_ok X G (c.fact 57 (f := .free "set") rfl), He.free_ok X G (c.fact 58 (f := .free "type") rfl), He.free_ok X G (c.fact 59 (f := .free "repr") rfl)⟩
  have D_places_of : Dfd K mg "places_of" s_places_of := ⟨c.def_ 0 (d := dd_places_of) rfl, He.glo_ok X G (c.fact 0 (f := .glo "places_of") rfl)⟩
  have D_cross : Dfd K mg "cross" s_cross := ⟨c.def_ 1 (d := dd_cross) rfl, He.glo_ok X G (c.fact 1 (f := .glo "cross") rfl)⟩
  have D_crossings : Dfd K mg "crossings" s_crossings := ⟨c.def_ 2 (d := dd_crossings) rfl, He.glo_ok X G (c.fact 2 (f := .glo "crossings") rfl)⟩
  have D_ends_of : Dfd K mg "ends_of" s_ends_of := ⟨c.def_ 3 (d := dd_ends_of) rfl, He.glo_ok X G (c.fact 3 (f := .glo "ends_of") rfl)⟩
  have D_cost : Dfd K mg "cost" s_cost := ⟨c.def_ 4 (d := dd_cost) rfl, He.glo_ok X G (c.fact 4 (f := .glo "cost") rfl)⟩
  have D_members : Dfd K mg "members" s_members := ⟨c.def_ 5 (d := dd_members) rfl, He.glo_ok X G (c.fact 5 (f := .glo "members") rfl)⟩
  have D_entry : Dfd K mg "entry" s_entry := ⟨c.def_ 6 (d := dd_entry) rfl, He.glo_ok X G (c.fact 6 (f := .glo "entry") rfl)⟩
  have D_least_order : Dfd K mg "least_order" s_least_order := ⟨c.def_ 7 (d := dd_least_order) rfl, He.glo_ok X G (c.fact 7 (f := .glo "least_order") rfl)⟩
  have D_between : Dfd K mg "between" s_between := ⟨c.def_ 8 (d := dd_between) rfl, He.glo_ok X G (c.fact 8 (f := .glo "between") rfl)⟩
  have D_all_crossings : Dfd K mg "all_crossings" s_all_crossings := ⟨c.def_ 9 (d := dd_all_crossings) rfl, He.glo_ok X G (c.fact 9 (f := .glo "all_crossings") rfl)⟩
  have D_middle_of : Dfd K mg "middle_of" s_middle_of := ⟨c.def_ 10 (d := dd_middle_of) rfl, He.glo_ok X G (c.fact 10 (f := .glo "middle_of") rfl)⟩
  have D_sorted_row : Dfd K mg "sorted_row" s_sorted_row := ⟨c.def_ 11 (d := dd_sorted_row) rfl, He.glo_ok X G (c.fact 11 (f := .glo "sorted_row") rfl)⟩
  have D_swept_down : Dfd K mg "swept_down" s_swept_down := ⟨c.def_ 12 (d := dd_swept_down) rfl, He.glo_ok X G (c.fact 12 (f := .glo "swept_down") rfl)⟩
  have D_swept_up : Dfd K mg "swept_up" s_swept_up := ⟨c.def_ 13 (d := dd_swept_up) rfl, He.glo_ok X G (c.fact 13 (f := .glo "swept_up") rfl)⟩
  have D_swept : DfdD K mg "swept" s_swept [V.int 4] := ⟨c.def_ 14 (d := dd_swept) rfl, He.glo_ok X G (c.fact 14 (f := .glo "swept") rfl)⟩
  have D_other_ends : Dfd K mg "other_ends" s_other_ends := ⟨c.def_ 15 (d := dd_other_ends) rfl, He.glo_ok X G (c.fact 15 (f := .glo "other_ends") rfl)⟩
  have D_crossing_less : Dfd K mg "crossing_less" s_crossing_less := ⟨c.def_ 16 (d := dd_crossing_less) rfl, He.glo_ok X G (c.fact 16 (f := .glo "crossing_less") rfl)⟩
  have D_saved : Dfd K mg "saved" s_saved := ⟨c.def_ 17 (d := dd_saved) rfl, He.glo_ok X G (c.fact 17 (f := .glo "saved") rfl)⟩
  have D_first_change : Dfd K mg "first_change" s_first_change := ⟨c.def_ 18 (d := dd_first_change) rfl, He.glo_ok X G (c.fact 18 (f := .glo "first_change") rfl)⟩
  have D_settled : Dfd K mg "settled" s_settled := ⟨c.def_ 19 (d := dd_settled) rfl, He.glo_ok X G (c.fact 19 (f := .glo "settled") rfl)⟩
  have D__law_cell_at : Dfd K mg "_law_cell_at" s__law_cell_at := ⟨c.def_ 20 (d := dd__law_cell_at) rfl, He.glo_ok X G (c.fact 20 (f := .glo "_law_cell_at") rfl)⟩
  have D__law_mix : Dfd K mg "_law_mix" s__law_mix := ⟨c.def_ 21 (d := dd__law_mix) rfl, He.glo_ok X G (c.fact 21 (f := .glo "_law_mix") rfl)⟩
  have D__law_rows : Dfd K mg "_law_rows" s__law_rows := ⟨c.def_ 22 (d := dd__law_rows) rfl, He.glo_ok X G (c.fact 22 (f := .glo "_law_rows") rfl)⟩
  have D__law_lines : Dfd K mg "_law_lines" s__law_lines := ⟨c.def_ 23 (d := dd__law_lines) rfl, He.glo_ok X G (c.fact 23 (f := .glo "_law_lines") rfl)⟩
  have D__law_two : Dfd K mg "_law_two" s__law_two := ⟨c.def_ 24 (d := dd__law_two) rfl, He.glo_ok X G (c.fact 24 (f := .glo "_law_two") rfl)⟩
  have D__law_all : Dfd K mg "_law_all" s__law_all := ⟨c.def_ 25 (d := dd__law_all) rfl, He.glo_ok X G (c.fact 25 (f := .glo "_law_all") rfl)⟩
  have D__law_changed : Dfd K mg "_law_changed" s__law_changed := ⟨c.def_ 26 (d := dd__law_changed) rfl, He.glo_ok X G (c.fact 26 (f := .glo "_law_changed") rfl)⟩
  have D__law_crossed : Dfd K mg "_law_crossed" s__law_crossed := ⟨c.def_ 27 (d := dd__law_crossed) rfl, He.glo_ok X G (c.fact 27 (f := .glo "_law_crossed") rfl)⟩
  have D__law_costs : Dfd K mg "_law_costs" s__law_costs := ⟨c.def_ 28 (d := dd__law_costs) rfl, He.glo_ok X G (c.fact 28 (f := .glo "_law_costs") rfl)⟩
  have D__law_entry : Dfd K mg "_law_entry" s__law_entry := ⟨c.def_ 29 (d := dd__law_entry) rfl, He.glo_ok X G (c.fact 29 (f := .glo "_law_entry") rfl)⟩
  have D__law_closed : Dfd K mg "_law_closed" s__law_closed := ⟨c.def_ 30 (d := dd__law_closed) rfl, He.glo_ok X G (c.fact 30 (f := .glo "_law_closed") rfl)⟩
  have D__law_ordered : Dfd K mg "_law_ordered" s__law_ordered := ⟨c.def_ 31 (d := dd__law_ordered) rfl, He.glo_ok X G (c.fact 31 (f := .glo "_law_ordered") rfl)⟩
  have D__law_counted : Dfd K mg "_law_counted" s__law_counted := ⟨c.def_ 32 (d := dd__law_counted) rfl, He.glo_ok X G (c.fact 32 (f := .glo "_law_counted") rfl)⟩
  have D__law_swept_right : Dfd K mg "_law_swept_right" s__law_swept_right := ⟨c.def_ 33 (d := dd__law_swept_right) rfl, He.glo_ok X G (c.fact 33 (f := .glo "_law_swept_right") rfl)⟩
  have D__law_settled_right : Dfd K mg "_law_settled_right" s__law_settled_right := ⟨c.def_ 34 (d := dd__law_settled_right) rfl, He.glo_ok X G (c.fact 34 (f := .glo "_law_settled_right") rfl)⟩
  have D__law_least_right : Dfd K mg "_law_least_right" s__law_least_right := ⟨c.def_ 35 (d := dd__law_least_right) rfl, He.glo_ok X G (c.fact 35 (f := .glo "_law_least_right") rfl)⟩
  have D__law_asked : Dfd K mg "_law_asked" s__law_asked := ⟨c.def_ 36 (d := dd__law_asked) rfl, He.glo_ok X G (c.fact 36 (f := .glo "_law_asked") rfl)⟩
  have D_law : Dfd K mg "law" s_law := ⟨c.def_ 37 (d := dd_law) rfl, He.glo_ok X G (c.fact 37 (f := .glo "law") rfl)⟩
  have gc_MOST : ∃ t, mg "MOST" = some (.int 8 t) := He.int_ok X G (c.fact 60 (f := .int "MOST" 8) rfl)
  have xd_TooMany : Xd K mg "TooMany" := ⟨c.fact 61 (f := .exc "TooMany") rfl, He.glo_ok X G (c.fact 62 (f := .glo "TooMany") rfl)⟩

  have e := hfa.symm.trans D_law.gl
  cases e
  suffices z : ∀ base : Heap, FkL P w K mg base 7 "law" ["script"] (law_sp K) from FkL.top (h := h) (g := fun _ => True) z
  intro base
  have fk_places_of_h := fk_places_of (P := P) (w := w) (base := base) bi D_places_of
  have fk_cross_h := fk_cross (P := P) (w := w) (base := base) bi D_cross
  have fk_crossings_h := fk_crossings (P := P) (w := w) (base := base) bi D_crossings fk_places_of_h fk_cross_h
  have fk_ends_of_h := fk_ends_of (P := P) (w := w) (base := base) bi D_ends_of fk_places_of_h
  have fk_cost_h := fk_cost (P := P) (w := w) (base := base) bi D_cost
  have fk_members_h := fk_members (P := P) (w := w) (base := base) bi D_members
  have fk_entry_h := fk_entry (P := P) (w := w) (base := base) bi D_entry fk_members_h fk_cost_h
  have fk_least_order_h := fk_least_order (P := P) (w := w) (base := base) bi D_least_order gc_MOST xd_TooMany fk_ends_of_h fk_members_h fk_entry_h
  have fk_between_h := fk_between (P := P) (w := w) (base := base) bi D_between
  have fk_all_crossings_h := fk_all_crossings (P := P) (w := w) (base := base) bi D_all_crossings fk_crossings_h fk_between_h
  have fk_middle_of_h := fk_middle_of (P := P) (w := w) (base := base) bi D_middle_of
  have fk_sorted_row_h := fk_sorted_row (P := P) (w := w) (base := base) bi D_sorted_row fk_places_of_h fk_middle_of_h
  have fk_swept_down_h := fk_swept_down (P := P) (w := w) (base := base) bi D_swept_down fk_between_h fk_sorted_row_h
  have fk_swept_up_h := fk_swept_up (P := P) (w := w) (base := base) bi D_swept_up fk_sorted_row_h fk_between_h
  have fk_swept_h := fk_swept (P := P) (w := w) (base := base) bi D_swept fk_all_crossings_h fk_swept_down_h fk_swept_up_h
  have fk_other_ends_h := fk_other_ends (P := P) (w := w) (base := base) bi D_other_ends
  have fk_crossing_less_h := fk_crossing_less (P := P) (w := w) (base := base) bi D_crossing_less
  have fk_saved_h := fk_saved (P := P) (w := w) (base := base) bi D_saved fk_other_ends_h fk_crossing_less_h
  have fk_first_change_h := fk_first_change (P := P) (w := w) (base := base) bi D_first_change fk_saved_h
  have fk_settled_h := fk_settled (P := P) (w := w) (base := base) bi D_settled fk_first_change_h
  have fk__law_cell_at_h := fk__law_cell_at (P := P) (w := w) (base := base) bi D__law_cell_at
  have fk__law_mix_h := fk__law_mix (P := P) (w := w) (base := base) bi D__law_mix
  have fk__law_rows_h := fk__law_rows (P := P) (w := w) (base := base) bi D__law_rows fk__law_mix_h
  have fk__law_lines_h := fk__law_lines (P := P) (w := w) (base := base) bi D__law_lines fk__law_mix_h
  have fk__law_two_h := fk__law_two (P := P) (w := w) (base := base) bi D__law_two
  have fk__law_all_h := fk__law_all (P := P) (w := w) (base := base) bi D__law_all fk__law_two_h
  have fk__law_changed_h := fk__law_changed (P := P) (w := w) (base := base) bi D__law_changed
  have fk__law_crossed_h := fk__law_crossed (P := P) (w := w) (base := base) bi D__law_crossed
  have fk__law_costs_h := fk__law_costs (P := P) (w := w) (base := base) bi D__law_costs fk__law_crossed_h
  have fk__law_entry_h := fk__law_entry (P := P) (w := w) (base := base) bi D__law_entry
  have fk__law_closed_h := fk__law_closed (P := P) (w := w) (base := base) bi D__law_closed fk__law_entry_h
  have fk__law_ordered_h := fk__law_ordered (P := P) (w := w) (base := base) bi D__law_ordered
  have fk__law_counted_h := fk__law_counted (P := P) (w := w) (base := base) bi D__law_counted fk_all_crossings_h fk__law_all_h fk__law_two_h fk_crossings_h
  have fk__law_swept_right_h := fk__law_swept_right (P := P) (w := w) (base := base) bi D__law_swept_right fk_swept_h fk__law_all_h
  have fk__law_settled_right_h := fk__law_settled_right (P := P) (w := w) (base := base) bi D__law_settled_right fk_settled_h fk__law_all_h fk__law_changed_h
  have fk__law_least_right_h := fk__law_least_right (P := P) (w := w) (base := base) bi D__law_least_right fk_least_order_h fk__law_costs_h fk__law_closed_h fk__law_ordered_h
  have fk__law_asked_h := fk__law_asked (P := P) (w := w) (base := base) bi D__law_asked fk__law_mix_h fk__law_counted_h fk__law_swept_right_h fk__law_settled_right_h fk__law_least_right_h
  have fk_law_h := fk_law (P := P) (w := w) (base := base) bi D_law fk__law_rows_h fk__law_cell_at_h fk__law_lines_h fk__law_mix_h fk__law_asked_h
  exact fk_law_h
theorem law_sp_of {K : PySem.W.Frag} {H : Hp} {a : Addr} {ns : List Int} (hs : SqL K H a (ns.map V.int)) (hl : law ns = .ok true) : law_sp K [.ref a] H (fun v _ => v = .bl true) fun _ _ _ => False := by
  refine ⟨ns, (), H, Ex.refl _, (fun _ m => by cases m), ⟨⟨a, _, rfl, hs, A2.ofInt ns⟩, trivial⟩, trivial, ?_⟩
  rw [hl]
  exact fun q v S' H' _ _ pv => pv
end K56
open PySem PySem.W PySem.Calls PyProof.Rows in
theorem K56.holds_of (hl : ∀ ns : List Int, ns.length ≤ 63 → K56.law ns = .ok true) : PySem.Challenge.rw_layerdraw_k56_whole_orders_by_turns.Holds := by
  w_on; o_law
  refine HandSHeadRun.head_any (r := OpenLaw.row PySem.Challenge.rw_layerdraw_k56_whole_orders_by_turns) (q := view (OpenLaw.row PySem.Challenge.rw_layerdraw_k56_whole_orders_by_turns).prog [44]) (H := K56.hk) (ob := K56.ob) (M := 4000) (loose := K56.loose) (d := HandSHeadRun.topDef (OpenLaw.row PySem.Challenge.rw_layerdraw_k56_whole_orders_by_turns).prog 44) (kwd := []) K56.ob_eq
    (by kernel_rfl) (fun s => by kernel_rfl) K56.run (by kernel_rfl) (by kernel_rfl) (by kernel_rfl) (by rfl) (by first | assumption | decide +kernel) (by decide +kernel) ⟨rfl, rfl, rfl, rfl, rfl, by decide +kernel⟩ ?hw ?hc
  case hw => w_witness2
  case hc =>
    refine Y.walk_ofW (l := PySem.Challenge.rw_layerdraw_k56_whole_orders_by_turns) (n := 63) (k := 7) (x := "script") (CX := fun w => L2.CX (PySem.Challenge.rw_layerdraw_k56_whole_orders_by_turns).prog w) rfl (by decide) (by kernel_rfl) ⟨rfl, by decide, by decide⟩ ?F (fun _ _ _ _ _ z => Y.cx_none z)
    intro w mg fa h Y G hmg0
    obtain ⟨K, KX, c⟩ := Y
    have hmg : mg ("law" : PySem.Str) = some (.ref fa) := by
      have e : (HandSHeadRun.topDef (OpenLaw.row PySem.Challenge.rw_layerdraw_k56_whole_orders_by_turns).prog 44).name = ("law" : PySem.Str) := by kernel_rfl
      rw [← e]
      exact hmg0
    obtain ⟨fd, hb, hF⟩ := K56.facts (P := (PySem.Challenge.rw_layerdraw_k56_whole_orders_by_turns).prog) (w := w) KX G hmg c
    exact ⟨K, fd, K56.law_sp K, KX, hb, fun H a ns hn _ hS => K56.law_sp_of hS (hl ns hn), hF⟩

theorem PySem.Challenge.cw_layerdraw_k56_whole_orders_by_turns_holds : PySem.Challenge.rw_layerdraw_k56_whole_orders_by_turns.Holds := by
  exact K56.holds_of K56.law_ok
