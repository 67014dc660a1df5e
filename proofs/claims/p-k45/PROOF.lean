import PyProof.Rows.All
import Wide.All
import OpenK.AllK
import Wide.FinOn
import HandS.ForMost
import HandS.Wide
import HandS.WideBits
import HandS.IsInst
import HandS.Steps
import HandS.Exc
import HandS.ExcOwn
import HandS.TryOnly
import HandS.WordsExc
import HandS.EndBits
import HandS.Rev
import HandS.RevTup
import HandS.Walk
import HandS.Zip
import HandS.SortInts
import HandS.More
import HandS.SetFor
import PySem.Challenge.RW_sumwires_k45_whole_every_wish
set_option Elab.async false
set_option linter.all false
set_option maxRecDepth 100000
set_option maxHeartbeats 4000000
set_option exponentiation.threshold 4000
/-! Wk: a typed layer over the hand layer. A state is a pair (F, H): H the tracked heap, F that part of it which nobody changes any more. -/
namespace Wk
open PySem L2

abbrev Ex (H H' : Hp) : Prop := ∀ a o, H a = some o → H' a = some o
theorem Ex.rfl' {H : Hp} : Ex H H := fun _ _ h => h
theorem Ex.tr {H H1 H2 : Hp} (a : Ex H H1) (b : Ex H1 H2) : Ex H H2 := fun x o h => b x o (a x o h)
theorem Ex.new {H : Hp} {p : Addr} {o : HO} (h : H p = none) : Ex H (upd H p o) := fun a u e => by
  rw [upd_ne (ne_of_none e h)]; exact e
theorem Ex.non {H H' : Hp} (e : Ex H H') {p : Addr} (h : H' p = none) : H p = none := by
  cases q : H p with
  | none => rfl
  | some o => rw [e p o q] at h; cases h

/-- from (F0, H0) to (F, H): all is kept, and F has grown by nothing but what is new to H0 -/
structure Wf (F0 H0 F H : Hp) : Prop where
  h : Ex H0 H
  f : Ex F H
  g : Ex F0 F
  n : ∀ a o, F a = some o → F0 a = none → H0 a = none
theorem Wf.id {F H : Hp} (e : Ex F H) : Wf F H F H := ⟨Ex.rfl', e, Ex.rfl', fun a o h h' => by rw [h] at h'; cases h'⟩
theorem Wf.tr {F0 H0 F H F' H' : Hp} (a : Wf F0 H0 F H) (b : Wf F H F' H') : Wf F0 H0 F' H' := ⟨a.h.tr b.h, b.f, a.g.tr b.g, fun x o h h0 => by
  cases q : F x with
  | none => exact a.h.non (b.n x o h q)
  | some u => exact a.n x u q h0⟩
/-- a new object that stays as it is -/
theorem Wf.new {F H : Hp} {p : Addr} {o : HO} (e : Ex F H) (hp : H p = none) : Wf F H (upd F p o) (upd H p o) := ⟨Ex.new hp, fun a u h => by
    by_cases q : a = p
    · subst q; rw [upd_same] at h ⊢; exact h
    · rw [upd_ne q] at h ⊢; exact e a u h, Ex.new (e.non hp), fun a u h h0 => by
    by_cases q : a = p
    · subst q; exact hp
    · rw [upd_ne q, h0] at h; cases h⟩
/-- a new object that is still changed -/
theorem Wf.newX {F H : Hp} {p : Addr} {o : HO} (e : Ex F H) (hp : H p = none) : Wf F H F (upd H p o) := ⟨Ex.new hp, e.tr (Ex.new hp), Ex.rfl', fun a u h h0 => by rw [h] at h0; cases h0⟩
/-- the heap alone has grown -/
theorem Wf.grow {F H H' : Hp} (e : Ex F H) (h : Ex H H') : Wf F H F H' := ⟨h, e.tr h, Ex.rfl', fun a u h h0 => by rw [h] at h0; cases h0⟩

/-- one's own object, not yet in F -/
structure Xc (H0 F H : Hp) (p : Addr) (o : HO) : Prop where
  z : H0 p = none
  n : F p = none
  h : H p = some o
section
variable {F0 H0 F H F' H' : Hp} {p q : Addr} {o u : HO}
theorem Xc.mk' (w : Wf F0 H0 F H) (hp : H p = none) : Xc H0 F (upd H p o) p o := ⟨w.h.non hp, w.f.non hp, upd_same⟩
theorem Xc.step (x : Xc H0 F H p o) (w : Wf F H F' H') : Xc H0 F' H' p o := ⟨x.z, (by
  cases q : F' p with
  | none => rfl
  | some u => have := w.n p u q x.n; rw [x.h] at this; cases this), w.h _ _ x.h⟩
theorem Xc.other (x : Xc H0 F H p o) (h : p ≠ q) : Xc H0 F (upd H q u) p o := ⟨x.z, x.n, by rw [upd_ne h]; exact x.h⟩
theorem Xc.set (x : Xc H0 F H p o) : Xc H0 F (upd H p u) p u := ⟨x.z, x.n, upd_same⟩
theorem Wf.set (w : Wf F0 H0 F H) (x : Xc H0 F H p o) : Wf F0 H0 F (upd H p u) := ⟨fun a v e => by
    rw [upd_ne (ne_of_none e x.z)]; exact w.h a v e, fun a v e => by rw [upd_ne (ne_of_none e x.n)]; exact w.f a v e, w.g, w.n⟩
/-- it is changed no more -/
theorem Wf.freeze (w : Wf F0 H0 F H) (x : Xc H0 F H p o) : Wf F0 H0 (upd F p o) H := ⟨w.h, fun a v e => by
    by_cases q : a = p
    · subst q; rw [upd_same] at e; rw [← e]; exact x.h
    · rw [upd_ne q] at e; exact w.f a v e, w.g.tr (Ex.new x.n), fun a v e e0 => by
    by_cases q : a = p
    · subst q; exact x.z
    · rw [upd_ne q] at e; exact w.n a v e e0⟩
theorem Xc.frz (x : Xc H0 F H p o) (y : Xc H0 F H q u) (h : p ≠ q) : Xc H0 (upd F q u) H p o := ⟨x.z, by rw [upd_ne h]; exact x.n, x.h⟩
theorem Xc.ne (x : Xc H0 F H p o) (h : H q = none) : p ≠ q := ne_of_none x.h h
end

/-! ### what represents what -/
structure Rep (α : Type) where
  r : Hp → V → α → Prop
  mono : ∀ {F F' : Hp} {v : V} {x : α}, Ex F F' → r F v x → r F' v x
def pI : Rep Int := ⟨fun _ v x => v = .int x, fun _ h => h⟩
def pN : Rep Nat := ⟨fun _ v x => v = .int (x : Int), fun _ h => h⟩
def pB : Rep Bool := ⟨fun _ v x => v = .bl x, fun _ h => h⟩
def pS : Rep Str := ⟨fun _ v x => v = .str x, fun _ h => h⟩
def pU : Rep Unit := ⟨fun _ v _ => v = .non, fun _ h => h⟩
def All {α : Type} (e : Rep α) (F : Hp) : List V → List α → Prop
  | [], [] => True
  | v :: vs, x :: xs => e.r F v x ∧ All e F vs xs
  | _, _ => False
section
variable {α β γ : Type} {e : Rep α} {F F' : Hp} {vs ws : List V} {xs ys : List α} {v : V} {x : α}
theorem All.mono (h : Ex F F') : ∀ {vs : List V} {xs : List α}, All e F vs xs → All e F' vs xs
  | [], [], _ => trivial
  | _ :: _, _ :: _, ⟨a, b⟩ => ⟨e.mono h a, All.mono h b⟩
  | [], _ :: _, q => q.elim
  | _ :: _, [], q => q.elim
theorem All.len : ∀ {vs : List V} {xs : List α}, All e F vs xs → vs.length = xs.length
  | [], [], _ => rfl
  | _ :: _, _ :: _, ⟨_, b⟩ => by rw [List.length_cons, List.length_cons, All.len b]
  | [], _ :: _, q => q.elim
  | _ :: _, [], q => q.elim
theorem All.get : ∀ {vs : List V} {xs : List α} {i : Nat} {x : α}, All e F vs xs → xs[i]? = some x → ∃ v, vs[i]? = some v ∧ e.r F v x
  | _ :: _, _ :: _, 0, _, ⟨a, _⟩, h => by simp at h; subst h; exact ⟨_, rfl, a⟩
  | _ :: _, _ :: _, i + 1, _, ⟨_, b⟩, h => by
    obtain ⟨v, h1, h2⟩ := All.get (i := i) b (by simpa using h)
    exact ⟨v, by simpa using h1, h2⟩
  | [], [], _, _, _, h => by simp at h
  | [], _ :: _, _, _, q, _ => q.elim
  | _ :: _, [], _, _, q, _ => q.elim
theorem All.got : ∀ {vs : List V} {xs : List α} {i : Nat} {v : V}, All e F vs xs → vs[i]? = some v → ∃ x, xs[i]? = some x ∧ e.r F v x
  | _ :: _, _ :: _, 0, _, ⟨a, _⟩, h => by simp at h; subst h; exact ⟨_, rfl, a⟩
  | _ :: _, _ :: _, i + 1, _, ⟨_, b⟩, h => by
    obtain ⟨v, h1, h2⟩ := All.got (i := i) b (by simpa using h)
    exact ⟨v, by simpa using h1, h2⟩
  | [], [], _, _, _, h => by simp at h
  | [], _ :: _, _, _, q, _ => q.elim
  | _ :: _, [], _, _, q, _ => q.elim
theorem All.app : ∀ {vs : List V} {xs : List α}, All e F vs xs → All e F ws ys → All e F (vs ++ ws) (xs ++ ys)
  | [], [], _, b => b
  | _ :: _, _ :: _, ⟨a, a'⟩, b => ⟨a, All.app a' b⟩
  | [], _ :: _, q, _ => q.elim
  | _ :: _, [], q, _ => q.elim
theorem All.snoc (a : All e F vs xs) (b : e.r F v x) : All e F (vs ++ [v]) (xs ++ [x]) := a.app ⟨b, trivial⟩
theorem All.set : ∀ {vs : List V} {xs : List α} (i : Nat), All e F vs xs → e.r F v x → All e F (vs.set i v) (xs.set i x)
  | [], [], _, _, _ => trivial
  | _ :: _, _ :: _, 0, ⟨_, b⟩, r => ⟨r, b⟩
  | _ :: _, _ :: _, i + 1, ⟨a, b⟩, r => ⟨a, All.set i b r⟩
  | [], _ :: _, _, q, _ => q.elim
  | _ :: _, [], _, q, _ => q.elim
theorem All.take : ∀ {vs : List V} {xs : List α} (i : Nat), All e F vs xs → All e F (vs.take i) (xs.take i)
  | [], [], i, _ => by simp [All]
  | _ :: _, _ :: _, 0, _ => trivial
  | _ :: _, _ :: _, i + 1, ⟨a, b⟩ => ⟨a, All.take i b⟩
  | [], _ :: _, _, q => q.elim
  | _ :: _, [], _, q => q.elim
theorem All.drop : ∀ {vs : List V} {xs : List α} (i : Nat), All e F vs xs → All e F (vs.drop i) (xs.drop i)
  | [], [], i, _ => by simp [All]
  | _ :: _, _ :: _, 0, h => h
  | _ :: _, _ :: _, i + 1, ⟨_, b⟩ => All.drop i b
  | [], _ :: _, _, q => q.elim
  | _ :: _, [], _, q => q.elim
theorem All.ints {vs : List V} : ∀ {xs : List Int}, All pI F vs xs → vs = xs.map V.int := by
  induction vs with
  | nil => intro xs h; cases xs with
    | nil => rfl
    | cons _ _ => exact h.elim
  | cons v vs ih => intro xs h; cases xs with
    | nil => exact h.elim
    | cons y ys => obtain ⟨a, b⟩ := h; rw [ih b, List.map_cons]; rw [show v = .int y from a]
theorem All.ofInts : ∀ {xs : List Int}, All pI F (xs.map V.int) xs
  | [] => trivial
  | _ :: _ => ⟨rfl, All.ofInts⟩
theorem All.nats {vs : List V} : ∀ {xs : List Nat}, All pN F vs xs → vs = (xs.map Int.ofNat).map V.int := by
  induction vs with
  | nil => intro xs h; cases xs with
    | nil => rfl
    | cons _ _ => exact h.elim
  | cons v vs ih => intro xs h; cases xs with
    | nil => exact h.elim
    | cons y ys => obtain ⟨a, b⟩ := h; rw [ih b, List.map_cons, List.map_cons]; rw [show v = .int (y : Int) from a]; rfl
end
/-- a list, a tuple of things of one kind, pairs, triples -/
def pL {α : Type} (e : Rep α) : Rep (List α) := ⟨fun F v xs => ∃ p vs, v = .ref p ∧ F p = some (.lst vs) ∧ All e F vs xs, fun h ⟨p, vs, a, b, c⟩ => ⟨p, vs, a, h _ _ b, c.mono h⟩⟩
def pTL {α : Type} (e : Rep α) : Rep (List α) := ⟨fun F v xs => ∃ p vs, v = .ref p ∧ F p = some (.tup vs) ∧ All e F vs xs, fun h ⟨p, vs, a, b, c⟩ => ⟨p, vs, a, h _ _ b, c.mono h⟩⟩
def pT2 {α β : Type} (e : Rep α) (f : Rep β) : Rep (α × β) := ⟨fun F v x => ∃ p u w, v = .ref p ∧ F p = some (.tup [u, w]) ∧ e.r F u x.1 ∧ f.r F w x.2, fun h ⟨p, u, w, a, b, c, d⟩ => ⟨p, u, w, a, h _ _ b, e.mono h c, f.mono h d⟩⟩
def pT3 {α β γ : Type} (e : Rep α) (f : Rep β) (g : Rep γ) : Rep (α × β × γ) := ⟨fun F v x => ∃ p u w y, v = .ref p ∧ F p = some (.tup [u, w, y]) ∧ e.r F u x.1 ∧ f.r F w x.2.1 ∧ g.r F y x.2.2, fun h ⟨p, u, w, y, a, b, c, d, k⟩ => ⟨p, u, w, y, a, h _ _ b, e.mono h c, f.mono h d, g.mono h k⟩⟩
def pO {α : Type} (e : Rep α) : Rep (Option α) := ⟨fun F v x => match x with | none => v = .non | some y => e.r F v y, fun {_ _ _ x} h q => by cases x with | none => exact q | some y => exact e.mono h q⟩
/-- the script: read only -/
def pScr (K : PySem.W.Frag) : Rep (List Int) := ⟨fun F v xs => ∃ a, v = .ref a ∧ SqL K F a (xs.map V.int), fun h ⟨a, e, q⟩ => ⟨a, e, by
  rcases q with (q | ⟨o, q⟩) | q
  · exact .inl (.inl (h _ _ q))
  · exact .inl (.inr ⟨o, h _ _ q⟩)
  · exact .inr q⟩⟩
/-- one's own list -/
structure XL {α : Type} (e : Rep α) (H0 F H : Hp) (p : Addr) (xs : List α) : Prop where
  x : ∃ vs, Xc H0 F H p (.lst vs) ∧ All e F vs xs
section
variable {α : Type} {e : Rep α} {F0 H0 F H F' H' : Hp} {p q : Addr} {o : HO} {xs : List α} {y : α} {v : V}
theorem XL.step (x : XL e H0 F H p xs) (w : Wf F H F' H') : XL e H0 F' H' p xs := let ⟨vs, a, b⟩ := x.x; ⟨vs, a.step w, b.mono w.g⟩
theorem XL.other {u : HO} (x : XL e H0 F H p xs) (h : p ≠ q) : XL e H0 F (upd H q u) p xs := let ⟨vs, a, b⟩ := x.x; ⟨vs, a.other h, b⟩
theorem XL.ne (x : XL e H0 F H p xs) (h : H q = none) : p ≠ q := let ⟨_, a, _⟩ := x.x; a.ne h
theorem XL.nil (w : Wf F0 H0 F H) (hp : H p = none) : XL e H0 F (upd H p (.lst [])) p [] := ⟨[], Xc.mk' w hp, trivial⟩
theorem XL.frz {u : HO} {β : Type} {e' : Rep β} {ys : List β} (x : XL e H0 F H p xs) (z : Xc H0 F H q u) (h : p ≠ q) : XL e H0 (upd F q u) H p xs := let ⟨vs, a, b⟩ := x.x; ⟨vs, a.frz z h, b.mono (Ex.new z.n)⟩
theorem XL.zero (x : XL e H0 F H p xs) : H0 p = none := let ⟨_, a, _⟩ := x.x; a.z
end
/-! ### typed loops -/
def forW {α S : Type} : List α → S → (α → S → (S → Prop) → (S → Prop) → Prop) → (S → Prop) → Prop
  | [], s, _, k => k s
  | x :: xs, s, b, k => b x s (fun s' => forW xs s' b k) k
def compG {α β : Type} : List α → List β → (α → (Option β → Prop) → Prop) → (List β → Prop) → Prop
  | [], acc, _, k => k acc
  | x :: xs, acc, b, k => b x fun o => compG xs (acc ++ o.toList) b k
def compW {α β : Type} (xs : List α) (b : α → (Option β → Prop) → Prop) (k : List β → Prop) : Prop := compG xs [] b k
def whileW {S : Type} (test : S → (Bool → Prop) → Prop) (body : S → (S → Prop) → (S → Prop) → Prop) (s : S) (k : S → Prop) : Prop :=
  ∃ I : Nat → S → Prop, (∃ m, I m s) ∧ ∀ m s, I m s → test s fun b => if b = true then body s (fun s' => ∃ m', m' < m ∧ I m' s') k else k s

/-! ### steps of readings -/
section
variable {K : PySem.W.Frag} {σ σ1 : L2.St} {H H1 : Hp} {te ta tb tc : TE} {tt tu : TT} {tA tR : TA} {Q : VK} {v w x y z : V} {D : Ends} {t u : TS} {i j : Int} {a b m n : Nat} {p q : Prop}
theorem e_val (h : Val te σ H v) (q : Q v H) : te σ H Q := h Q q
theorem v_eq (h : Val te σ H v) (e : v = w) : Val te σ H w := e ▸ h
theorem vi_of (h : Val te σ H (.int i)) (e : i = j) : Val te σ H (.int j) := e ▸ h
theorem vb_of {b c : Bool} (h : Val te σ H (.bl b)) (e : b = c) : Val te σ H (.bl c) := e ▸ h
theorem v2 {r : R2} (ha : Val ta σ H x) (hb : Val tb σ H y) (hr : ∀ Q : VK, Q z H → r x y H Q) : Val (tOp r ta tb) σ H z := fun Q k => ha _ (hb _ (hr Q k))
theorem v1 {r : V → Hp → VK → Prop} (ha : Val ta σ H x) (hr : ∀ Q : VK, Q z H → r x H Q) : Val (tUn r ta) σ H z := fun Q k => ha _ (hr Q k)
theorem vi0 {g : Int → Int → V} (ha : Val ta σ H (.int i)) (hb : Val tb σ H (.int j)) : Val (tOp (rI0 g) ta tb) σ H (g i j) := fun _ k => ha _ (hb _ ⟨i, j, rfl, rfl, k⟩)
theorem viC {C : Int → Int → Prop} {g : Int → Int → V} (ha : Val ta σ H (.int i)) (hb : Val tb σ H (.int j)) (hc : C i j) : Val (tOp (rI C g) ta tb) σ H (g i j) := fun _ k => ha _ (hb _ ⟨i, j, rfl, rfl, hc, k⟩)
/-! whole numbers from 0 on -/
theorem vn_add (ha : Val ta σ H (.int (a : Int))) (hb : Val tb σ H (.int (b : Int))) : Val (tOp (rI0 fun i j => .int (i + j)) ta tb) σ H (.int ((a + b : Nat) : Int)) := vi_of (vi0 ha hb) (by omega)
theorem vn_sub (ha : Val ta σ H (.int (a : Int))) (hb : Val tb σ H (.int (b : Int))) (h : b ≤ a) : Val (tOp (rI0 fun i j => .int (i - j)) ta tb) σ H (.int ((a - b : Nat) : Int)) := vi_of (vi0 ha hb) (by omega)
def NMul (a b : Nat) : Prop := a < 2 ^ 64 ∨ b < 2 ^ 64
theorem vn_mul (ha : Val ta σ H (.int (a : Int))) (hb : Val tb σ H (.int (b : Int))) (h : NMul a b) : Val (tOp (rI CMul fun i j => .int (i * j)) ta tb) σ H (.int ((a * b : Nat) : Int)) := vi_of (viC ha hb (by
  rcases h with h | h
  · exact .inl ⟨by omega, by omega⟩
  · exact .inr ⟨by omega, by omega⟩)) (by rw [Int.natCast_mul])
theorem vn_mulW (ha : Val ta σ H (.int (a : Int))) (hb : Val tb σ H (.int (b : Int))) (h : CMulX a b) : Val (tOp (rI CMulX fun i j => .int (i * j)) ta tb) σ H (.int ((a * b : Nat) : Int)) := vi_of (viC ha hb h) (by rw [Int.natCast_mul])
def NDiv (b : Nat) : Prop := 0 < b ∧ b.log2 < 9000
theorem vn_div (ha : Val ta σ H (.int (a : Int))) (hb : Val tb σ H (.int (b : Int))) (h : NDiv b) : Val (tOp (rI CDivW fun i j => .int (i / j)) ta tb) σ H (.int ((a / b : Nat) : Int)) := vi_of (viC ha hb ⟨by have := h.1; omega, h.2⟩) (by rw [Int.natCast_ediv])
theorem vi_div (ha : Val ta σ H (.int i)) (hb : Val tb σ H (.int (b : Int))) (h : NDiv b) : Val (tOp (rI CDivW fun i j => .int (i / j)) ta tb) σ H (.int (i / (b : Int))) := viC ha hb ⟨by have := h.1; omega, h.2⟩
theorem vn_mod (ha : Val ta σ H (.int (a : Int))) (hb : Val tb σ H (.int (b : Int))) (h : 0 < b) : Val (tOp (rI (fun _ j => 0 < j) fun i j => .int (i % j)) ta tb) σ H (.int ((a % b : Nat) : Int)) := vi_of (viC (C := fun _ j => 0 < j) ha hb (by omega)) (by rw [Int.natCast_emod])
/-- i % m, as a whole number from 0 on -/
def modN (i : Int) (m : Nat) : Nat := (i % (m : Int)).toNat
theorem modN_cast {i : Int} {m : Nat} (h : 0 < m) : ((modN i m : Nat) : Int) = i % (m : Int) := Int.toNat_of_nonneg (Int.emod_nonneg _ (by omega))
theorem modN_lt {i : Int} {m : Nat} (h : 0 < m) : modN i m < m := by
  have := modN_cast (i := i) h
  have := Int.emod_lt_of_pos i (show (0 : Int) < m by omega)
  omega
theorem vm_mod (ha : Val ta σ H (.int i)) (hb : Val tb σ H (.int (b : Int))) (h : 0 < b) : Val (tOp (rI (fun _ j => 0 < j) fun i j => .int (i % j)) ta tb) σ H (.int ((modN i b : Nat) : Int)) := vi_of (viC (C := fun _ j => 0 < j) ha hb (by omega)) (modN_cast h).symm
theorem bitAnd_N (a b : Nat) : Builtin.bitAnd (a : Int) (b : Int) = ((a &&& b : Nat) : Int) := by
  unfold Builtin.bitAnd
  rw [decide_eq_true (Int.natCast_nonneg a), decide_eq_true (Int.natCast_nonneg b)]
  rfl
theorem bitXor_N (a b : Nat) : Builtin.bitXor (a : Int) (b : Int) = ((a ^^^ b : Nat) : Int) := by rw [Bits.bitXor_pp (Int.natCast_nonneg a) (Int.natCast_nonneg b)]; rfl
theorem bitOr_N (a b : Nat) : Builtin.bitOr (a : Int) (b : Int) = ((a ||| b : Nat) : Int) := by rw [Bits.bitOr_pp (Int.natCast_nonneg a) (Int.natCast_nonneg b)]; rfl
theorem vn_and (ha : Val ta σ H (.int (a : Int))) (hb : Val tb σ H (.int (b : Int))) : Val (tOp (rI0 fun i j => .int (Builtin.bitAnd i j)) ta tb) σ H (.int ((a &&& b : Nat) : Int)) := vi_of (vi0 ha hb) (bitAnd_N a b)
theorem vn_or (ha : Val ta σ H (.int (a : Int))) (hb : Val tb σ H (.int (b : Int))) : Val (tOp (rI0 fun i j => .int (Builtin.bitOr i j)) ta tb) σ H (.int ((a ||| b : Nat) : Int)) := vi_of (vi0 ha hb) (bitOr_N a b)
theorem vn_xor (ha : Val ta σ H (.int (a : Int))) (hb : Val tb σ H (.int (b : Int))) : Val (tOp (rI0 fun i j => .int (Builtin.bitXor i j)) ta tb) σ H (.int ((a ^^^ b : Nat) : Int)) := vi_of (vi0 ha hb) (bitXor_N a b)
/-- i & 1 -/
theorem vm_odd (ha : Val ta σ H (.int i)) (hb : Val tb σ H (.int 1)) : Val (tOp (rI0 fun i j => .int (Builtin.bitAnd i j)) ta tb) σ H (.int ((modN i 2 : Nat) : Int)) := vi_of (vi0 ha hb) (by rw [PyProof.Rows.bitAnd_m1, modN_cast (by decide)]; rfl)
def NShl (a k : Nat) : Prop := a.log2 + k < 100000000
theorem NShl.ok {a k : Nat} (h : NShl a k) : CShl (a : Int) (k : Int) := by
  have e : (2 : Int) ^ 27 = 134217728 := by decide
  refine ⟨Int.natCast_nonneg _, ?_⟩
  rw [e]
  have b : Builtin.Int.intBits (a : Int) ≤ a.log2 + 1 := by
    unfold Builtin.Int.intBits
    split
    · omega
    · exact Nat.le_refl _
  unfold NShl at h
  omega
theorem vn_shl (ha : Val ta σ H (.int (a : Int))) (hb : Val tb σ H (.int (b : Int))) (h : NShl a b) : Val (tOp (rI CShl fun i j => .int (i * 2 ^ j.toNat)) ta tb) σ H (.int ((a <<< b : Nat) : Int)) := vi_of (viC ha hb h.ok) (by
  rw [Int.toNat_natCast, Nat.shiftLeft_eq, Int.natCast_mul, Int.natCast_pow]; rfl)
theorem vn_one (ha : Val ta σ H (.int 1)) (hb : Val tb σ H (.int (b : Int))) (h : b < 100000000) : Val (tOp (rI CShl fun i j => .int (i * 2 ^ j.toNat)) ta tb) σ H (.int ((2 ^ b : Nat) : Int)) := vi_of (vn_shl (a := 1) ha hb (by
  unfold NShl
  have : Nat.log2 1 = 0 := by decide
  omega)) (by rw [Nat.shiftLeft_eq, Nat.one_mul])
theorem vi_shl (ha : Val ta σ H (.int i)) (hb : Val tb σ H (.int (b : Int))) (h : CShl i (b : Int)) : Val (tOp (rI CShl fun i j => .int (i * 2 ^ j.toNat)) ta tb) σ H (.int (i * 2 ^ b)) := vi_of (viC ha hb h) (by rw [Int.toNat_natCast])
theorem vi_shr (ha : Val ta σ H (.int i)) (hb : Val tb σ H (.int (b : Int))) : Val (tOp (rI (fun _ j => 0 ≤ j) fun i j => .int (i / 2 ^ j.toNat)) ta tb) σ H (.int (i / 2 ^ b)) := vi_of (viC (C := fun _ j => 0 ≤ j) ha hb (Int.natCast_nonneg _)) (by rw [Int.toNat_natCast])
theorem vn_shr (ha : Val ta σ H (.int (a : Int))) (hb : Val tb σ H (.int (b : Int))) : Val (tOp (rI (fun _ j => 0 ≤ j) fun i j => .int (i / 2 ^ j.toNat)) ta tb) σ H (.int ((a >>> b : Nat) : Int)) := vi_of (vi_shr ha hb) (by
  rw [Nat.shiftRight_eq_div_pow, Int.natCast_ediv, Int.natCast_pow]; rfl)
theorem v_neg (ha : Val ta σ H (.int i)) : Val (tUn (rU fun i => .int (-i)) ta) σ H (.int (-i)) := v1 ha fun _ k => ⟨i, rfl, k⟩
theorem vn_pow {c : Nat} (ha : Val ta σ H (.int (a : Int))) (hb : Val tb σ H (.int (b : Int))) (h : b ≤ 1000000 ∧ a < 2 ^ 64) (e : a ^ b = c) : Val (tOp (rI CPow fun i j => .int (i ^ j.toNat)) ta tb) σ H (.int (c : Int)) := vi_of (viC ha hb ⟨Int.natCast_nonneg _, by omega, by omega⟩) (by
  rw [Int.toNat_natCast, ← e, Int.natCast_pow])
theorem vn_bits (ha : Val ta σ H (.int (a : Int))) : Val (tBits ta) σ H (.int ((Builtin.Int.intBits (a : Int) : Nat) : Int)) := fun _ k => ha _ ⟨_, rfl, k⟩
/-! comparisons, as truths -/
theorem c_lt (ha : Val ta σ H (.int i)) (hb : Val tb σ H (.int j)) : Val (tOp (rI0 fun i j => .bl (decide (i < j))) ta tb) σ H (.bl (decide (i < j))) := vi0 ha hb
theorem c_le (ha : Val ta σ H (.int i)) (hb : Val tb σ H (.int j)) : Val (tOp (rI0 fun i j => .bl (decide (i ≤ j))) ta tb) σ H (.bl (decide (i ≤ j))) := vi0 ha hb
theorem c_gt (ha : Val ta σ H (.int i)) (hb : Val tb σ H (.int j)) : Val (tOp (rI0 fun i j => .bl (decide (j < i))) ta tb) σ H (.bl (decide (j < i))) := vi0 ha hb
theorem c_ge (ha : Val ta σ H (.int i)) (hb : Val tb σ H (.int j)) : Val (tOp (rI0 fun i j => .bl (decide (j ≤ i))) ta tb) σ H (.bl (decide (j ≤ i))) := vi0 ha hb
theorem dec_iff {p q : Prop} [Decidable p] [Decidable q] (h : p ↔ q) : decide p = decide q := by
  by_cases k : p
  · rw [decide_eq_true k, decide_eq_true (h.mp k)]
  · rw [decide_eq_false k, decide_eq_false (fun z => k (h.mpr z))]
theorem vb_dec [Decidable p] [Decidable q] (h : Val te σ H (.bl (decide p))) (e : p ↔ q) : Val te σ H (.bl (decide q)) := vb_of h (dec_iff e)
theorem c_eqI (ha : Val ta σ H (.int i)) (hb : Val tb σ H (.int j)) : Val (tOp rEq ta tb) σ H (.bl (decide (i = j))) := v2 ha hb fun Q k => ⟨rfl, by
  rw [dec_iff (show V.int i = V.int j ↔ i = j from ⟨fun h => V.int.inj h, fun h => by rw [h]⟩)]; exact k⟩
theorem c_neI (ha : Val ta σ H (.int i)) (hb : Val tb σ H (.int j)) : Val (tOp rNe ta tb) σ H (.bl (decide (i ≠ j))) := v2 ha hb fun Q k => ⟨rfl, by
  rw [← decide_not, dec_iff (show ¬ V.int i = V.int j ↔ i ≠ j from ⟨fun h e => h (by rw [e]), fun h e => h (V.int.inj e)⟩)]; exact k⟩
theorem c_eqS {s r : Str} (ha : Val ta σ H (.str s)) (hb : Val tb σ H (.str r)) : Val (tOp rEq ta tb) σ H (.bl (decide (s = r))) := v2 ha hb fun Q k => ⟨rfl, by
  rw [dec_iff (show V.str s = V.str r ↔ s = r from ⟨fun h => V.str.inj h, fun h => by rw [h]⟩)]; exact k⟩
theorem c_neS {s r : Str} (ha : Val ta σ H (.str s)) (hb : Val tb σ H (.str r)) : Val (tOp rNe ta tb) σ H (.bl (decide (s ≠ r))) := v2 ha hb fun Q k => ⟨rfl, by
  rw [← decide_not, dec_iff (show ¬ V.str s = V.str r ↔ s ≠ r from ⟨fun h e => h (by rw [e]), fun h e => h (V.str.inj e)⟩)]; exact k⟩
theorem c_eqB {s r : Bool} (ha : Val ta σ H (.bl s)) (hb : Val tb σ H (.bl r)) : Val (tOp rEq ta tb) σ H (.bl (decide (s = r))) := v2 ha hb fun Q k => ⟨rfl, by
  rw [dec_iff (show V.bl s = V.bl r ↔ s = r from ⟨fun h => V.bl.inj h, fun h => by rw [h]⟩)]; exact k⟩
theorem c_neB {s r : Bool} (ha : Val ta σ H (.bl s)) (hb : Val tb σ H (.bl r)) : Val (tOp rNe ta tb) σ H (.bl (decide (s ≠ r))) := v2 ha hb fun Q k => ⟨rfl, by
  rw [← decide_not, dec_iff (show ¬ V.bl s = V.bl r ↔ s ≠ r from ⟨fun h e => h (by rw [e]), fun h e => h (V.bl.inj e)⟩)]; exact k⟩
/-- numbers from 0 on: the comparison without casts -/
theorem n_lt : ((a : Int) < (b : Int)) ↔ a < b := by omega
theorem n_le : ((a : Int) ≤ (b : Int)) ↔ a ≤ b := by omega
theorem n_eq : ((a : Int) = (b : Int)) ↔ a = b := by omega
theorem n_ne : ((a : Int) ≠ (b : Int)) ↔ a ≠ b := by omega
/-- a < b < c -/
theorem v_chain {r r' : R2} {b1 b2 : Bool} (ha : Val ta σ H x) (hb : Val tb σ H y) (hc : Val tc σ H z) (h1 : ∀ Q : VK, Q (.bl b1) H → r x y H Q) (h2 : ∀ Q : VK, Q (.bl b2) H → r' y z H Q) : Val (tChain r r' ta tb tc) σ H (.bl (b1 && b2)) := fun Q k => ha _ (hb _ (h1 _ ⟨b1, rfl, by
  cases b1 with
  | true => rw [if_pos rfl]; exact hc _ (h2 _ (by simpa using k))
  | false => rw [if_neg (by simp)]; simpa using k⟩))
/-! truths as tests -/
theorem t_of (h : Val te σ H (.bl b')) : Ans (tTest te) σ H b' := fun _ k => h _ ⟨_, rfl, k⟩
theorem t_ofB (h : Val te σ H (.bl b')) : Ans (tB te) σ H b' := fun _ k => h _ ⟨_, rfl, k⟩
theorem t_dec {b c : Bool} (h : Ans tt σ H b) (e : b = c) : Ans tt σ H c := e ▸ h
theorem t_iff [Decidable p] [Decidable q] (h : Ans tt σ H (decide p)) (e : p ↔ q) : Ans tt σ H (decide q) := t_dec h (dec_iff e)
theorem t_not [Decidable p] (h : Ans tt σ H (decide p)) : Ans (tNot tt) σ H (decide (¬ p)) := fun Q k => h _ (by rw [← decide_not]; exact k)
theorem t_and [Decidable p] [Decidable q] (h : Ans tt σ H (decide p)) (h2 : p → Ans tu σ H (decide q)) : Ans (tAnd tt tu) σ H (decide (p ∧ q)) := fun Q k => h _ (by
  by_cases hp : p
  · rw [decide_eq_true hp, if_pos rfl]
    exact h2 hp Q (by rw [dec_iff (show q ↔ p ∧ q from ⟨fun z => ⟨hp, z⟩, fun z => z.2⟩)]; exact k)
  · rw [decide_eq_false hp, if_neg (by simp)]
    rw [decide_eq_false (fun z => hp z.1)] at k
    exact k)
theorem t_or [Decidable p] [Decidable q] (h : Ans tt σ H (decide p)) (h2 : ¬ p → Ans tu σ H (decide q)) : Ans (tOr tt tu) σ H (decide (p ∨ q)) := fun Q k => h _ (by
  by_cases hp : p
  · rw [decide_eq_true hp, if_pos rfl]
    rw [decide_eq_true (Or.inl hp)] at k
    exact k
  · rw [decide_eq_false hp, if_neg (by simp)]
    exact h2 hp Q (by rw [dec_iff (show q ↔ p ∨ q from ⟨fun z => .inr z, fun z => z.resolve_left hp⟩)]; exact k))
/-! the same as values -/
theorem vt_not [Decidable p] (h : Val te σ H (.bl (decide p))) : Val (tNotV te) σ H (.bl (decide (¬ p))) := fun Q k => h _ ⟨_, rfl, by rw [← decide_not]; exact k⟩
theorem vt_and [Decidable p] [Decidable q] (h : Val ta σ H (.bl (decide p))) (h2 : p → Val tb σ H (.bl (decide q))) : Val (tAndV ta tb) σ H (.bl (decide (p ∧ q))) := fun Q k => h _ ⟨_, rfl, by
  by_cases hp : p
  · rw [decide_eq_true hp, if_pos rfl]
    exact h2 hp Q (by rw [dec_iff (show q ↔ p ∧ q from ⟨fun z => ⟨hp, z⟩, fun z => z.2⟩)]; exact k)
  · rw [decide_eq_false hp, if_neg (by simp)]
    rw [decide_eq_false (fun z => hp z.1)] at k
    exact k⟩
theorem vt_or [Decidable p] [Decidable q] (h : Val ta σ H (.bl (decide p))) (h2 : ¬ p → Val tb σ H (.bl (decide q))) : Val (tOrV ta tb) σ H (.bl (decide (p ∨ q))) := fun Q k => h _ ⟨_, rfl, by
  by_cases hp : p
  · rw [decide_eq_true hp, if_pos rfl]
    rw [decide_eq_true (Or.inl hp)] at k
    exact k
  · rw [decide_eq_false hp, if_neg (by simp)]
    exact h2 hp Q (by rw [dec_iff (show q ↔ p ∨ q from ⟨fun z => .inr z, fun z => z.resolve_left hp⟩)]; exact k)⟩
theorem v_if [Decidable p] (h : Ans tt σ H (decide p)) (h1 : p → Val ta σ H x) (h2 : ¬ p → Val tb σ H x) : Val (tIf tt ta tb) σ H x := fun Q k => h _ (by
  by_cases hp : p
  · rw [decide_eq_true hp, if_pos rfl]; exact h1 hp Q k
  · rw [decide_eq_false hp, if_neg (by simp)]; exact h2 hp Q k)
/-! calls -/
theorem e_call {sp : Sp} {E : XK} (h : tA σ H fun vs H1 => sp vs H1 Q E) : tCall sp [] E tA σ H Q := by
  show tA σ H fun vs H1 => sp (vs ++ []) H1 Q E
  simpa only [List.append_nil] using h
theorem a_nil {R : List V → Hp → Prop} (h : R [] H) : tNil σ H R := h
theorem a_cons {R : List V → Hp → Prop} (h : te σ H fun x H1 => tR σ H1 fun xs H2 => R (x :: xs) H2) : tCons te tR σ H R := h
theorem a_val {R : List V → Hp → Prop} (h : Val te σ H v) (k : tR σ H fun xs H2 => R (v :: xs) H2) : tCons te tR σ H R := h _ k
theorem v_cb1 {r : List V → Hp → VK → Prop} (ha : Val ta σ H x) (hr : ∀ Q : VK, Q z H → r [x] H Q) : Val (tCB r (tCons ta tNil)) σ H z := fun Q k => ha _ (hr Q k)
theorem v_cb2 {r : List V → Hp → VK → Prop} (ha : Val ta σ H x) (hb : Val tb σ H y) (hr : ∀ Q : VK, Q z H → r [x, y] H Q) : Val (tCB r (tCons ta (tCons tb tNil))) σ H z := fun Q k => ha _ (hb _ (hr Q k))
/-! statements -/
theorem q_seq (h : t { D with nx := u D } σ H) : tSeq t u D σ H := h
theorem q_sq (h : ∀ N : L2.St → Hp → Prop, (∀ σ' H', u D σ' H' → N σ' H') → t { D with nx := N } σ H) : tSeq t u D σ H := h _ fun _ _ z => z
theorem a_asg {i : Nat} (h : Val te σ H v) (q : D.nx (σ.set i (some v)) H) : tAsg te (gName i) D σ H := h _ q
theorem a_asgE {i : Nat} (h : te σ H fun v H1 => D.nx (σ.set i (some v)) H1) : tAsg te (gName i) D σ H := h
theorem a_ret (h : Val te σ H v) (q : D.rt v H) : tRet te D σ H := h _ q
theorem a_retE (h : te σ H D.rt) : tRet te D σ H := h
theorem a_dropE (h : te σ H fun _ H1 => D.nx σ H1) : tDrop te D σ H := h
theorem a_aug {i : Nat} {ti : TIp} (hx : σ[i]? = some (some x)) (h : Val te σ H y) (hr : ∀ Q : VK, Q z H → ti x y H Q) (q : D.nx (σ.set i (some z)) H) : tAug i te ti D σ H := ⟨x, hx, h _ (hr _ q)⟩
theorem a_if [Decidable p] (h : Ans tt σ H (decide p)) (h1 : p → t D σ H) (h2 : ¬ p → u D σ H) : tIfS tt t u D σ H := h _ (by
  by_cases hp : p
  · rw [decide_eq_true hp, if_pos rfl]; exact h1 hp
  · rw [decide_eq_false hp, if_neg (by simp)]; exact h2 hp)
theorem a_ifE (h : tt σ H fun b H1 => if b = true then t D σ H1 else u D σ H1) : tIfS tt t u D σ H := h
theorem ifP [Decidable p] {A B : Prop} (h : if p then A else B) (hp : p) : A := by rw [if_pos hp] at h; exact h
theorem ifN [Decidable p] {A B : Prop} (h : if p then A else B) (hp : ¬ p) : B := by rw [if_neg hp] at h; exact h
end
end Wk

namespace Wk
open PySem L2
/-! ### data that is compared -/
class Dat {α : Type} (e : Rep α) (lv : outParam Nat) where
  d : α → PyData
  dp : ∀ {K : PySem.W.Frag} {F : Hp} {v : V} {x : α}, e.r F v x → Dp K F v (d x)
  lay : ∀ x, (d x).canLay0 = true
  dep : ∀ x, (d x).depth ≤ lv
  inj : ∀ x y, PyData.eqv (d x) (d y) = true ↔ x = y
instance : Dat pI 0 := ⟨.int, fun h => by cases (show _ = V.int _ from h); exact .int _, fun _ => rfl, fun _ => Nat.le_refl _, fun x y => by
  show ((x == y) = true) ↔ _
  exact beq_iff_eq⟩
instance : Dat pN 0 := ⟨fun n => .int (n : Int), fun h => by cases (show _ = V.int _ from h); exact .int _, fun _ => rfl, fun _ => Nat.le_refl _, fun x y => by
  show (((x : Int) == (y : Int)) = true) ↔ _
  rw [beq_iff_eq]; omega⟩
instance : Dat pB 0 := ⟨.bool, fun h => by cases (show _ = V.bl _ from h); exact .bl _, fun _ => rfl, fun _ => Nat.le_refl _, fun x y => by
  show ((x == y) = true) ↔ _
  exact beq_iff_eq⟩
theorem lay_all {α : Type} {d : α → PyData} (h : ∀ x, (d x).canLay0 = true) : ∀ xs : List α, PyData.canLayAll0 (xs.map d) = true
  | [] => rfl
  | x :: xs => by show (PyData.canLay0 (d x) && PyData.canLayAll0 (xs.map d)) = true; rw [h x, lay_all h xs]; rfl
theorem dep_all {α : Type} {d : α → PyData} {n : Nat} (h : ∀ x, (d x).depth ≤ n) : ∀ xs : List α, PyData.depthAll (xs.map d) ≤ n
  | [] => Nat.zero_le _
  | x :: xs => by
    show PyData.depthAll (d x :: xs.map d) ≤ n
    have a := h x
    have b := dep_all h xs
    simp only [PyData.depthAll]
    omega
theorem eqv_all {α : Type} {d : α → PyData} (h : ∀ x y, PyData.eqv (d x) (d y) = true ↔ x = y) : ∀ xs ys : List α, PyData.eqvAll (xs.map d) (ys.map d) = true ↔ xs = ys
  | [], [] => ⟨fun _ => rfl, fun _ => rfl⟩
  | x :: xs, [] => ⟨fun q => (by cases q), fun q => (by cases q)⟩
  | [], y :: ys => ⟨fun q => (by cases q), fun q => (by cases q)⟩
  | x :: xs, y :: ys => by
    show (PyData.eqv (d x) (d y) && PyData.eqvAll (xs.map d) (ys.map d)) = true ↔ _
    rw [Bool.and_eq_true, h x y, eqv_all h xs ys, List.cons.injEq]
theorem dp_all {α : Type} {e : Rep α} {lv : Nat} [Dat e lv] {K : PySem.W.Frag} {F : Hp} : ∀ {vs : List V} {xs : List α}, All e F vs xs → DpAll K F vs (xs.map (Dat.d e))
  | [], [], _ => .nil
  | _ :: _, _ :: _, ⟨a, b⟩ => .cons (Dat.dp a) (dp_all b)
  | [], _ :: _, q => q.elim
  | _ :: _, [], q => q.elim
instance {α : Type} {e : Rep α} {n : Nat} [Dat e n] : Dat (pL e) (n + 1) := ⟨fun xs => .list (xs.map (Dat.d e)), fun {K F v xs} h => by
    obtain ⟨p, vs, rfl, hp, a⟩ := h
    exact .lst (SqL.of hp) (dp_all a), fun xs => lay_all (Dat.lay (e := e)) xs, fun xs => by
    have := dep_all (Dat.dep (e := e)) xs
    simp only [PyData.depth]
    omega, fun xs ys => by
    show PyData.eqvAll (xs.map (Dat.d e)) (ys.map (Dat.d e)) = true ↔ _
    exact eqv_all (Dat.inj (e := e)) xs ys⟩
instance {α : Type} {e : Rep α} {n : Nat} [Dat e n] : Dat (pTL e) (n + 1) := ⟨fun xs => .tuple (xs.map (Dat.d e)), fun {K F v xs} h => by
    obtain ⟨p, vs, rfl, hp, a⟩ := h
    exact .tup (SqT.of hp) (dp_all a), fun xs => lay_all (Dat.lay (e := e)) xs, fun xs => by
    have := dep_all (Dat.dep (e := e)) xs
    simp only [PyData.depth]
    omega, fun xs ys => by
    show PyData.eqvAll (xs.map (Dat.d e)) (ys.map (Dat.d e)) = true ↔ _
    exact eqv_all (Dat.inj (e := e)) xs ys⟩
instance {α β : Type} {e : Rep α} {f : Rep β} {n m : Nat} [Dat e n] [Dat f m] : Dat (pT2 e f) (max n m + 1) := ⟨fun x => .tuple [Dat.d e x.1, Dat.d f x.2], fun {K F v x} h => by
    obtain ⟨p, u, w, rfl, hp, a, b⟩ := h
    exact .tup (SqT.of hp) (.cons (Dat.dp a) (.cons (Dat.dp b) .nil)), fun x => by
    show (PyData.canLay0 (Dat.d e x.1) && (PyData.canLay0 (Dat.d f x.2) && PyData.canLayAll0 [])) = true
    rw [Dat.lay, Dat.lay]; rfl, fun x => by
    have a := Dat.dep (e := e) x.1
    have b := Dat.dep (e := f) x.2
    simp only [PyData.depth, PyData.depthAll]
    omega, fun x y => by
    show (PyData.eqv (Dat.d e x.1) (Dat.d e y.1) && (PyData.eqv (Dat.d f x.2) (Dat.d f y.2) && PyData.eqvAll [] [])) = true ↔ _
    have z : PyData.eqvAll [] [] = true := rfl
    rw [z, Bool.and_true, Bool.and_eq_true, Dat.inj, Dat.inj, Prod.ext_iff]⟩
theorem Dat.shp {α : Type} {e : Rep α} {n : Nat} [Dat e n] (h : n ≤ 64) (x : α) : SeqAt.shaped (Dat.d e x) = true := by
  unfold SeqAt.shaped
  rw [Dat.lay, decide_eq_true (Nat.le_trans (Dat.dep x) h)]; rfl
section
variable {α β : Type} {e : Rep α} {f : Rep β} {K : PySem.W.Frag} {σ : L2.St} {F0 H0 F F' H H' : Hp} {te tl ta tb : TE} {tt : TT} {tA : TA} {Q : VK} {v w u : V} {xs ys : List α} {x y : α} {D : Ends} {tu : TS} {p q : Addr} {n : Nat} {i : Int}
theorem c_eqD [DecidableEq α] [Dat e n] (ha : Val ta σ H v) (hb : Val tb σ H w) (f : Ex F H) (r : e.r F v x) (g : Ex F' H) (s : e.r F' w y) (h : n ≤ 64 := by decide) : Val (tOp (rEqD K) ta tb) σ H (.bl (decide (x = y))) :=
  v2 ha hb fun Q k => ⟨_, _, Dat.dp (e.mono f r), Dat.dp (e.mono g s), Dat.shp h x, Dat.shp h y, by
    have z : PyData.eqv (Dat.d e x) (Dat.d e y) = decide (x = y) := Bool.eq_iff_iff.mpr (by rw [Dat.inj, decide_eq_true_iff])
    rw [z]; exact k⟩
theorem c_neD [DecidableEq α] [Dat e n] (ha : Val ta σ H v) (hb : Val tb σ H w) (f : Ex F H) (r : e.r F v x) (g : Ex F' H) (s : e.r F' w y) (h : n ≤ 64 := by decide) : Val (tOp (rNeD K) ta tb) σ H (.bl (decide (x ≠ y))) :=
  v2 ha hb fun Q k => ⟨_, _, Dat.dp (e.mono f r), Dat.dp (e.mono g s), Dat.shp h x, Dat.shp h y, by
    have z : PyData.eqv (Dat.d e x) (Dat.d e y) = decide (x = y) := Bool.eq_iff_iff.mpr (by rw [Dat.inj, decide_eq_true_iff])
    rw [z, ← decide_not]; exact k⟩
/-! ### lists that are read -/
theorem XL.rd (z : XL e H0 F H p xs) : ∃ vs, H p = some (.lst vs) ∧ All e F vs xs := let ⟨vs, a, b⟩ := z.x; ⟨vs, a.h, b⟩
theorem L_rd (r : (pL e).r F v xs) (f : Ex F H) : ∃ p vs, v = .ref p ∧ H p = some (.lst vs) ∧ All e F vs xs := let ⟨p, vs, a, b, c⟩ := r; ⟨p, vs, a, f _ _ b, c⟩
theorem TL_rd (r : (pTL e).r F v xs) (f : Ex F H) : ∃ p vs, v = .ref p ∧ H p = some (.tup vs) ∧ All e F vs xs := let ⟨p, vs, a, b, c⟩ := r; ⟨p, vs, a, f _ _ b, c⟩
theorem ix_L (r : (pL e).r F v xs) (f : Ex F H) {i : Nat} (hx : xs[i]? = some x) : ∃ w, e.r F w x ∧ ∀ ⦃σ ta tb⦄, Val ta σ H v → Val tb σ H (.int (i : Int)) → Val (tOp (rIxL K) ta tb) σ H w := by
  obtain ⟨p, vs, rfl, hp, a⟩ := L_rd r f
  obtain ⟨w, h1, h2⟩ := a.get hx
  exact ⟨w, h2, fun _ _ _ ha hb => v2 ha hb fun Q k => ⟨p, vs, _, w, rfl, rfl, SqL.of hp, atI_nat h1, k⟩⟩
theorem ix_X (r : XL e H0 F H p xs) {i : Nat} (hx : xs[i]? = some x) : ∃ w, e.r F w x ∧ ∀ ⦃σ ta tb⦄, Val ta σ H (.ref p) → Val tb σ H (.int (i : Int)) → Val (tOp (rIxL K) ta tb) σ H w := by
  obtain ⟨vs, hp, a⟩ := r.rd
  obtain ⟨w, h1, h2⟩ := a.get hx
  exact ⟨w, h2, fun _ _ _ ha hb => v2 ha hb fun Q k => ⟨p, vs, _, w, rfl, rfl, SqL.of hp, atI_nat h1, k⟩⟩
theorem ix_TL (r : (pTL e).r F v xs) (f : Ex F H) {i : Nat} (hx : xs[i]? = some x) : ∃ w, e.r F w x ∧ ∀ ⦃σ ta tb⦄, Val ta σ H v → Val tb σ H (.int (i : Int)) → Val (tOp (rIxT K) ta tb) σ H w := by
  obtain ⟨p, vs, rfl, hp, a⟩ := TL_rd r f
  obtain ⟨w, h1, h2⟩ := a.get hx
  exact ⟨w, h2, fun _ _ _ ha hb => v2 ha hb fun Q k => ⟨p, vs, _, w, rfl, rfl, SqT.of hp, atI_nat h1, k⟩⟩
theorem ix_S (f : Ex F H) {ys : List Int} {i : Nat} {x : Int} (r : (pScr K).r F v ys) (hx : ys[i]? = some x) : ∀ ⦃σ ta tb⦄, Val ta σ H v → Val tb σ H (.int (i : Int)) → Val (tOp (rIxL K) ta tb) σ H (.int x) := by
  obtain ⟨p, rfl, s⟩ := (pScr K).mono f r
  exact fun _ _ _ ha hb => v2 ha hb fun Q k => ⟨p, _, _, .int x, rfl, rfl, s, atI_nat (by rw [List.getElem?_map, hx]; rfl), k⟩
theorem ix_2a {e : Rep α} {f : Rep β} {x : α × β} (r : (pT2 e f).r F v x) (h : Ex F H) : ∃ w, e.r F w x.1 ∧ ∀ ⦃σ ta tb⦄, Val ta σ H v → Val tb σ H (.int 0) → Val (tOp (rIxT K) ta tb) σ H w := by
  obtain ⟨p, u, w, rfl, hp, a, b⟩ := r
  exact ⟨u, a, fun _ _ _ ha hb => v2 ha hb fun Q k => ⟨p, _, _, u, rfl, rfl, SqT.of (h _ _ hp), rfl, k⟩⟩
theorem ix_2b {e : Rep α} {f : Rep β} {x : α × β} (r : (pT2 e f).r F v x) (h : Ex F H) : ∃ w, f.r F w x.2 ∧ ∀ ⦃σ ta tb⦄, Val ta σ H v → Val tb σ H (.int 1) → Val (tOp (rIxT K) ta tb) σ H w := by
  obtain ⟨p, u, w, rfl, hp, a, b⟩ := r
  exact ⟨w, b, fun _ _ _ ha hb => v2 ha hb fun Q k => ⟨p, _, _, w, rfl, rfl, SqT.of (h _ _ hp), rfl, k⟩⟩
/-! len -/
def rLen (K : PySem.W.Frag) : List V → Hp → VK → Prop := fun xs H Q => ∃ p ys, xs = [.ref p] ∧ (SqL K H p ys ∨ SqT K H p ys) ∧ Q (.int ys.length) H
theorem len_L (r : (pL e).r F v xs) (f : Ex F H) (ha : Val ta σ H v) : Val (tCB (rLen K) (tCons ta tNil)) σ H (.int ((xs.length : Nat) : Int)) := by
  obtain ⟨p, vs, rfl, hp, a⟩ := L_rd r f
  exact v_cb1 ha fun Q k => ⟨p, vs, rfl, .inl (SqL.of hp), by rw [a.len]; exact k⟩
theorem len_TL (r : (pTL e).r F v xs) (f : Ex F H) (ha : Val ta σ H v) : Val (tCB (rLen K) (tCons ta tNil)) σ H (.int ((xs.length : Nat) : Int)) := by
  obtain ⟨p, vs, rfl, hp, a⟩ := TL_rd r f
  exact v_cb1 ha fun Q k => ⟨p, vs, rfl, .inr (SqT.of hp), by rw [a.len]; exact k⟩
theorem len_X (r : XL e H0 F H p xs) (ha : Val ta σ H (.ref p)) : Val (tCB (rLen K) (tCons ta tNil)) σ H (.int ((xs.length : Nat) : Int)) := by
  obtain ⟨vs, hp, a⟩ := r.rd
  exact v_cb1 ha fun Q k => ⟨p, vs, rfl, .inl (SqL.of hp), by rw [a.len]; exact k⟩
theorem len_S {ys : List Int} (r : (pScr K).r F v ys) (f : Ex F H) (ha : Val ta σ H v) : Val (tCB (rLen K) (tCons ta tNil)) σ H (.int ((ys.length : Nat) : Int)) := by
  obtain ⟨p, rfl, s⟩ := (pScr K).mono f r
  exact v_cb1 ha fun Q k => ⟨p, _, rfl, .inl s, by rw [List.length_map]; exact k⟩
theorem len_T2 {e : Rep α} {f : Rep β} {x : α × β} (r : (pT2 e f).r F v x) (h : Ex F H) (ha : Val ta σ H v) : Val (tCB (rLen K) (tCons ta tNil)) σ H (.int ((2 : Nat) : Int)) := by
  obtain ⟨p, u, w, rfl, hp, a, b⟩ := r
  exact v_cb1 ha fun Q k => ⟨p, _, rfl, .inr (SqT.of (h _ _ hp)), k⟩
/-! ### new things -/
def kLst (Q : VK) (xs : List V) (H : Hp) : Prop := xs.length ≤ sizeLine ∧ ∀ p, H p = none → Q (.ref p) (upd H p (.lst xs))
def kTup (Q : VK) (xs : List V) (H : Hp) : Prop := xs.length ≤ sizeLine ∧ ∀ p, H p = none → Q (.ref p) (upd H p (.tup xs))
theorem small_len {n : Nat} (h : n < 1000000) : n < sizeLine := by rw [sizeLine_eq]; omega
theorem n_lstX {vs : List V} (a : All e F vs xs) (hl : xs.length < 1000000) (w : Wf F0 H0 F H) (k : ∀ p H', H p = none → Wf F H F H' → XL e H0 F H' p xs → Q (.ref p) H') :
    kLst Q vs H := ⟨by rw [a.len]; exact Nat.le_of_lt (small_len hl), fun p hp => k p _ hp (Wf.newX w.f hp) ⟨vs, Xc.mk' w hp, a⟩⟩
theorem n_lst {vs : List V} (a : All e F vs xs) (hl : xs.length < 1000000) (w : Wf F0 H0 F H) (k : ∀ p F' H', Wf F H F' H' → (pL e).r F' (.ref p) xs → Q (.ref p) H') :
    kLst Q vs H := ⟨by rw [a.len]; exact Nat.le_of_lt (small_len hl), fun p hp => k p _ _ (Wf.new w.f hp) ⟨p, vs, rfl, upd_same, a.mono (Ex.new (w.f.non hp))⟩⟩
theorem n_tup2 {e : Rep α} {f : Rep β} {x : α} {y : β} (a : e.r F v x) (b : f.r F w y) (h : Wf F0 H0 F H) (k : ∀ p F' H', Wf F H F' H' → (pT2 e f).r F' (.ref p) (x, y) → Q (.ref p) H') :
    kTup Q [v, w] H := ⟨Nat.le_of_lt (small_len (n := 2) (by decide)), fun p hp => k p _ _ (Wf.new h.f hp) ⟨p, v, w, rfl, upd_same, e.mono (Ex.new (h.f.non hp)) a, f.mono (Ex.new (h.f.non hp)) b⟩⟩
/-- one's own list is changed no more -/
theorem XL.frzE (x : XL e H0 F H p xs) (w : Wf F0 H0 F H) : ∃ F', Wf F0 H0 F' H ∧ Ex F F' ∧ (pL e).r F' (.ref p) xs ∧ (∀ q o, Xc H0 F H q o → q ≠ p → Xc H0 F' H q o) := by
  obtain ⟨vs, a, b⟩ := x.x
  exact ⟨_, w.freeze a, Ex.new a.n, ⟨p, vs, rfl, upd_same, b.mono (Ex.new a.n)⟩, fun q o z h => z.frz a h⟩
/-- for a while one's own list is read by others -/
theorem XL.lend (x : XL e H0 F H p xs) (w : Wf F0 H0 F H) : ∃ F', Ex F' H ∧ Ex F F' ∧ (pL e).r F' (.ref p) xs := let ⟨F', a, b, c, _⟩ := x.frzE w; ⟨F', a.f, b, c⟩
/-! append, and the like -/
theorem a_app (x : XL e H0 F H p xs) (w : Wf F0 H0 F H) (hl : xs.length < 1000000) (r : e.r F v y) (k : ∀ H', Wf F0 H0 F H' → XL e H0 F H' p (xs ++ [y]) → (∀ q o, H q = some o → q ≠ p → H' q = some o) → Q .non H') : rAppend (.ref p) [v] H Q := by
  obtain ⟨vs, a, b⟩ := x.x
  exact ⟨p, vs, v, rfl, rfl, a.h, by rw [b.len]; exact small_len hl, k _ (w.set a) ⟨_, a.set, b.snoc r⟩ fun q o h hq => by rw [upd_ne hq]; exact h⟩
/-- another's place is as it was -/
theorem Xc.kept {o : HO} (x : Xc H0 F H q o) (h : ∀ q o, H q = some o → q ≠ p → H' q = some o) (hq : q ≠ p) : Xc H0 F H' q o := ⟨x.z, x.n, h _ _ x.h hq⟩
theorem XL.kept (x : XL e H0 F H q xs) (h : ∀ q o, H q = some o → q ≠ p → H' q = some o) (hq : q ≠ p) : XL e H0 F H' q xs := let ⟨vs, a, b⟩ := x.x; ⟨vs, a.kept h hq, b⟩
/-! ### loops -/
variable {S : Type} {R : Type} {g : TG} {tb : TS} {body : β → S → (S → Prop) → (S → Prop) → Prop} {s0 : S} {k : S → Prop} {vs : List V} {zs : List β} {b : Rep β}
/-- over a list that stays -/
theorem w_forL (Inv : S → L2.St → Hp → Hp → Prop) (r : (pL b).r F v zs) (hW : forW zs s0 body k) (h0 : Inv s0 σ F H)
    (ex : ∀ s σ' F' H', Inv s σ' F' H' → Ex F F' ∧ Ex F' H') (f : Ex F H)
    (turn : ∀ (N Bk : L2.St → Hp → Prop) x u s σ' F' H' (nx bk : S → Prop), Inv s σ' F' H' → x ∈ zs → b.r F' u x → body x s nx bk → (∀ s' σ2 F2 H2, Inv s' σ2 F2 H2 → nx s' → N σ2 H2) → (∀ s' σ2 F2 H2, Inv s' σ2 F2 H2 → bk s' → Bk σ2 H2) →
      g u σ' H' fun σ2 H2 => tb { D with nx := N, ct := N, bk := Bk } σ2 H2)
    (done : ∀ s σ' F' H', Inv s σ' F' H' → k s → D.nx σ' H') :
    ∃ a, v = .ref a ∧ (∃ xs, SqL K H a xs) ∧ (fun J H1 => ∃ W : Nat → Nat → L2.St → Hp → Prop, (∃ m, W 0 m σ H1) ∧ ∀ i m σ H, W i m σ H →
      (J.stop i H ∧ D.nx σ H) ∨ (J.go i H ∧ ∃ N : L2.St → Hp → Prop, (∀ σ' H', N σ' H' → ∃ m', m' < m ∧ W (i + 1) m' σ' H') ∧ ∀ x H', J.yld i H x H' → g x σ H' fun σ2 H2 => tb { D with nx := N, ct := N, bk := D.nx } σ2 H2)) (Itl K a) H := by
  obtain ⟨p, vs, rfl, hp, a⟩ := r
  refine ⟨p, rfl, ⟨_, SqL.of (f _ _ hp)⟩, for_list (xs := vs) (fun i σ' H' => ∃ s F', Inv s σ' F' H' ∧ forW (zs.drop i) s body k) ⟨s0, F, h0, hW⟩ (fun i σ' H' _ ⟨s, F', hI, _⟩ => SqL.of ((ex _ _ _ _ hI).2 _ _ ((ex _ _ _ _ hI).1 _ _ hp))) ?_ ?_⟩
  · rintro i u σ' H' hu ⟨s, F', hI, hw⟩
    obtain ⟨x, hx, rx⟩ := a.got hu
    have e : zs.drop i = x :: zs.drop (i + 1) := by
      obtain ⟨h1, h2⟩ := List.getElem?_eq_some_iff.mp hx
      rw [← h2]; exact List.drop_eq_getElem_cons h1
    rw [e] at hw
    exact turn _ _ x u s σ' F' H' _ _ hI (List.mem_of_getElem? hx) (b.mono (ex _ _ _ _ hI).1 rx) hw (fun s' σ2 F2 H2 q n => ⟨s', F2, q, n⟩) (fun s' σ2 F2 H2 q n => done s' σ2 F2 H2 q n)
  · rintro σ' H' ⟨s, F', hI, hw⟩
    rw [List.drop_of_length_le (by rw [a.len]; exact Nat.le_refl _)] at hw
    exact done _ _ _ _ hI hw
/-- over range(n) -/
theorem w_forR {n : Nat} {body : Nat → S → (S → Prop) → (S → Prop) → Prop} (Inv : S → L2.St → Hp → Hp → Prop) (hn : n < 1000000) (hW : forW (List.range n) s0 body k) (h0 : Inv s0 σ F H)
    (turn : ∀ (N Bk : L2.St → Hp → Prop) (x : Nat) s σ' F' H' (nx bk : S → Prop), Inv s σ' F' H' → x < n → body x s nx bk → (∀ s' σ2 F2 H2, Inv s' σ2 F2 H2 → nx s' → N σ2 H2) → (∀ s' σ2 F2 H2, Inv s' σ2 F2 H2 → bk s' → Bk σ2 H2) →
      g (.int (x : Int)) σ' H' fun σ2 H2 => tb { D with nx := N, ct := N, bk := Bk } σ2 H2)
    (done : ∀ s σ' F' H', Inv s σ' F' H' → k s → D.nx σ' H') :
    ∃ j : Int, [V.int (n : Int)] = [.int j] ∧ -(2 ^ 62) ≤ j ∧ j < 2 ^ 62 ∧ (fun J H1 => ∃ W : Nat → Nat → L2.St → Hp → Prop, (∃ m, W 0 m σ H1) ∧ ∀ i m σ H, W i m σ H →
      (J.stop i H ∧ D.nx σ H) ∨ (J.go i H ∧ ∃ N : L2.St → Hp → Prop, (∀ σ' H', N σ' H' → ∃ m', m' < m ∧ W (i + 1) m' σ' H') ∧ ∀ x H', J.yld i H x H' → g x σ H' fun σ2 H2 => tb { D with nx := N, ct := N, bk := D.nx } σ2 H2)) (Itr 0 j.toNat) H := by
  refine ⟨(n : Int), rfl, by omega, by omega, for_range (lo := 0) (n := n) (fun i σ' H' => ∃ s F', Inv s σ' F' H' ∧ forW ((List.range n).drop i) s body k) ⟨s0, F, h0, hW⟩ ?_ ?_⟩
  · rintro i σ' H' hi ⟨s, F', hI, hw⟩
    have e : (List.range n).drop i = i :: (List.range n).drop (i + 1) := by
      have h1 : i < (List.range n).length := by rw [List.length_range]; exact hi
      rw [List.drop_eq_getElem_cons h1, List.getElem_range]
    rw [e] at hw
    have z : (0 : Int) + (i : Int) = (i : Int) := Int.zero_add _
    rw [z]
    exact turn _ _ i s σ' F' H' _ _ hI hi hw (fun s' σ2 F2 H2 q n => ⟨s', F2, q, n⟩) (fun s' σ2 F2 H2 q n => done s' σ2 F2 H2 q n)
  · rintro σ' H' ⟨s, F', hI, hw⟩
    rw [List.drop_of_length_le (by rw [List.length_range]; exact Nat.le_refl _)] at hw
    exact done _ _ _ _ hI hw
/-- while -/
theorem w_while {test : S → (Bool → Prop) → Prop} {body : S → (S → Prop) → (S → Prop) → Prop} (Inv : S → L2.St → Hp → Hp → Prop) (hW : whileW test body s0 k) (h0 : Inv s0 σ F H)
    (cond : ∀ s σ' F' H' (T : Bool → Prop) (Qc : Bool → Hp → Prop), Inv s σ' F' H' → test s T → (∀ b F2 H2, Inv s σ' F2 H2 → T b → Qc b H2) → tt σ' H' Qc)
    (turn : ∀ (N Bk : L2.St → Hp → Prop) s σ' F' H' (nx bk : S → Prop), Inv s σ' F' H' → body s nx bk → (∀ s' σ2 F2 H2, Inv s' σ2 F2 H2 → nx s' → N σ2 H2) → (∀ s' σ2 F2 H2, Inv s' σ2 F2 H2 → bk s' → Bk σ2 H2) →
      tb { D with nx := N, ct := N, bk := Bk } σ' H')
    (done : ∀ s σ' F' H', Inv s σ' F' H' → k s → D.nx σ' H') : tWhile tt tb D σ H := by
  obtain ⟨I, ⟨m0, hm⟩, hs⟩ := hW
  refine ⟨fun m σ' H' => ∃ s F', Inv s σ' F' H' ∧ I m s, ⟨m0, s0, F, h0, hm⟩, ?_⟩
  rintro m σ' H' ⟨s, F', hI, im⟩
  refine cond s σ' F' H' _ _ hI (hs m s im) fun b F2 H2 hI2 hb => ?_
  cases b with
  | true =>
    rw [if_pos rfl] at hb ⊢
    exact ⟨_, fun _ _ q => q, turn (fun σ2 H2 => ∃ m', m' < m ∧ ∃ s' F', Inv s' σ2 F' H2 ∧ I m' s') _ s σ' F2 H2 _ _ hI2 hb (fun s' σ2 F3 H3 q ⟨m', l, i⟩ => ⟨m', l, s', F3, q, i⟩) (fun s' σ2 F3 H3 q n => done s' σ2 F3 H3 q n)⟩
  | false =>
    rw [if_neg (by simp)] at hb ⊢
    exact done s σ' F2 H2 hI2 hb
/-- ways that meet again -/
def jn {S : Type} (f : (S → Prop) → Prop) (k : S → Prop) : Prop := f k
theorem q_jn {f : (S → Prop) → Prop} {t u : TS} (hW : jn f k) (Inv : S → L2.St → Hp → Hp → Prop)
    (h1 : ∀ N : L2.St → Hp → Prop, (∀ s σ' F' H', Inv s σ' F' H' → k s → N σ' H') → f k → t { D with nx := N } σ H) (h2 : ∀ s σ' F' H', Inv s σ' F' H' → k s → u D σ' H') : tSeq t u D σ H :=
  h1 (u D) (fun s σ' F' H' q n => h2 s σ' F' H' q n) hW
theorem e_jn {f : (S → Prop) → Prop} {Qt : Bool → Hp → Prop} (hW : jn f k) (Inv : S → Bool → Hp → Hp → Prop)
    (h1 : ∀ N : Bool → Hp → Prop, (∀ s b F' H', Inv s b F' H' → k s → N b H') → f k → tt σ H N) (h2 : ∀ s b F' H', Inv s b F' H' → k s → Qt b H') : tt σ H Qt :=
  h1 Qt (fun s σ' F' H' q n => h2 s σ' F' H' q n) hW
/-! ### comprehensions -/
/-- what a comprehension asks of its source's value -/
def kCpL (K : PySem.W.Frag) (g : TG) (tc : TT) (te : TE) (vs : List Nat) (σ : L2.St) (Q : VK) (v : V) (H : Hp) : Prop := ∃ a, v = .ref a ∧ (∃ xs, SqL K H a xs) ∧ (fun J H1 => ∀ D, H1 D = none → ∃ W : Nat → Nat → Hp → Prop, (∃ m, W 0 m (upd H1 D (.lst []))) ∧ ∀ i m H, W i m H →
      (J.stop i H ∧ Q (.ref D) H) ∨ (J.go i H ∧ ∃ Nx : Hp → Prop, (∀ H', Nx H' → ∃ m', m' < m ∧ W (i + 1) m' H') ∧ ∀ x H', J.yld i H x H' → g x (wipe σ vs) H' fun σ2 H2 => wipe σ2 vs = wipe σ vs ∧ tc σ2 H2 fun b H3 =>
        if b = true then te σ2 H3 fun y H4 => ∃ acc, H4 D = some (.lst acc) ∧ acc.length < sizeLine ∧ Nx (upd H4 D (.lst (acc ++ [y]))) else Nx H3)) (Itl K a) H
def kCpR (g : TG) (tc : TT) (te : TE) (vs : List Nat) (σ : L2.St) (Q : VK) (v : V) (H : Hp) : Prop := ∃ j : Int, [v] = [.int j] ∧ -(2 ^ 62) ≤ j ∧ j < 2 ^ 62 ∧ (fun J H1 => ∀ D, H1 D = none → ∃ W : Nat → Nat → Hp → Prop, (∃ m, W 0 m (upd H1 D (.lst []))) ∧ ∀ i m H, W i m H →
      (J.stop i H ∧ Q (.ref D) H) ∨ (J.go i H ∧ ∃ Nx : Hp → Prop, (∀ H', Nx H' → ∃ m', m' < m ∧ W (i + 1) m' H') ∧ ∀ x H', J.yld i H x H' → g x (wipe σ vs) H' fun σ2 H2 => wipe σ2 vs = wipe σ vs ∧ tc σ2 H2 fun b H3 =>
        if b = true then te σ2 H3 fun y H4 => ∃ acc, H4 D = some (.lst acc) ∧ acc.length < sizeLine ∧ Nx (upd H4 D (.lst (acc ++ [y]))) else Nx H3)) (Itr 0 j.toNat) H
theorem w_compC {ws : List V} {tc : TT} {vs : List Nat} {bd : β → (Option α → Prop) → Prop} {kk : List α → Prop} (hp : H p = some (.lst ws)) (a : All b F ws zs) (w : Wf F0 H0 F H) (hn : zs.length < 1000000) (hW : compW zs bd kk)
    (turn : ∀ (Qy : V → Hp → Prop) (Qn : Hp → Prop) x u F1 H1 (R : Option α → Prop), Wf F H F1 H1 → x ∈ zs → b.r F1 u x → bd x R → (∀ y z F2 H2, Wf F1 H1 F2 H2 → e.r F2 y z → R (some z) → Qy y H2) → (∀ F2 H2, Wf F1 H1 F2 H2 → R none → Qn H2) →
      g u (wipe σ vs) H1 fun σ2 H2 => wipe σ2 vs = wipe σ vs ∧ tc σ2 H2 fun b H3 => if b = true then te σ2 H3 Qy else Qn H3)
    (done : ∀ p ys F' H', H p = none → Wf F H F' H' → XL e H0 F' H' p ys → kk ys → Q (.ref p) H') :
    kCpL K g tc te vs σ Q (V.ref p) H := by
  unfold kCpL
  refine ⟨p, rfl, ⟨_, SqL.of hp⟩, fun D hD => lc_list (xs := ws) (fun i H' => ∃ F' ac ys, Wf F H F' H' ∧ Xc H F' H' D (.lst ac) ∧ All e F' ac ys ∧ ys.length ≤ i ∧ compG (zs.drop i) ys bd kk)
    ⟨F, [], [], Wf.newX w.f hD, Xc.mk' (Wf.id w.f) hD, trivial, Nat.le_refl _, hW⟩ (fun i H' _ ⟨F', ac, ys, q, _⟩ => SqL.of (q.h _ _ hp)) ?_ ?_⟩
  · rintro i u H' hu ⟨F', ac, ys, q, xc, al, hl, hw⟩
    obtain ⟨x, hx, rx⟩ := a.got hu
    obtain ⟨h1, h2⟩ := List.getElem?_eq_some_iff.mp hx
    have e' : zs.drop i = x :: zs.drop (i + 1) := by rw [← h2]; exact List.drop_eq_getElem_cons h1
    rw [e'] at hw
    refine turn _ _ x u F' H' _ q (List.mem_of_getElem? hx) (b.mono q.g rx) hw (fun y z F2 H2 s ry hR => ?_) (fun F2 H2 s hR => ?_)
    · have xc2 := xc.step s
      exact ⟨ac, xc2.h, by rw [al.len]; exact small_len (by omega), F2, ac ++ [y], ys ++ [z], (q.tr s).set xc2, xc2.set, (al.mono s.g).snoc ry, by rw [List.length_append]; exact Nat.succ_le_succ hl, hR⟩
    · exact ⟨F2, ac, ys, q.tr s, xc.step s, al.mono s.g, Nat.le_succ_of_le hl, by simpa using hR⟩
  · rintro H' ⟨F', ac, ys, q, xc, al, hl, hw⟩
    rw [List.drop_of_length_le (by rw [a.len]; exact Nat.le_refl _)] at hw
    exact done D ys F' H' hD q ⟨ac, ⟨w.h.non hD, xc.n, xc.h⟩, al⟩ hw
theorem w_compL {tc : TT} {vs : List Nat} {bd : β → (Option α → Prop) → Prop} {kk : List α → Prop} (r : (pL b).r F v zs) (w : Wf F0 H0 F H) (hn : zs.length < 1000000) (hW : compW zs bd kk)
    (turn : ∀ (Qy : V → Hp → Prop) (Qn : Hp → Prop) x u F1 H1 (R : Option α → Prop), Wf F H F1 H1 → x ∈ zs → b.r F1 u x → bd x R → (∀ y z F2 H2, Wf F1 H1 F2 H2 → e.r F2 y z → R (some z) → Qy y H2) → (∀ F2 H2, Wf F1 H1 F2 H2 → R none → Qn H2) →
      g u (wipe σ vs) H1 fun σ2 H2 => wipe σ2 vs = wipe σ vs ∧ tc σ2 H2 fun b H3 => if b = true then te σ2 H3 Qy else Qn H3)
    (done : ∀ p ys F' H', H p = none → Wf F H F' H' → XL e H0 F' H' p ys → kk ys → Q (.ref p) H') :
    kCpL K g tc te vs σ Q v H := by
  obtain ⟨p, ws, rfl, hp, a⟩ := r
  exact w_compC (w.f _ _ hp) a w hn hW turn done
theorem w_compX {tc : TT} {vs : List Nat} {bd : β → (Option α → Prop) → Prop} {kk : List α → Prop} (r : XL b H0 F H p zs) (w : Wf F0 H0 F H) (hn : zs.length < 1000000) (hW : compW zs bd kk)
    (turn : ∀ (Qy : V → Hp → Prop) (Qn : Hp → Prop) x u F1 H1 (R : Option α → Prop), Wf F H F1 H1 → x ∈ zs → b.r F1 u x → bd x R → (∀ y z F2 H2, Wf F1 H1 F2 H2 → e.r F2 y z → R (some z) → Qy y H2) → (∀ F2 H2, Wf F1 H1 F2 H2 → R none → Qn H2) →
      g u (wipe σ vs) H1 fun σ2 H2 => wipe σ2 vs = wipe σ vs ∧ tc σ2 H2 fun b H3 => if b = true then te σ2 H3 Qy else Qn H3)
    (done : ∀ p ys F' H', H p = none → Wf F H F' H' → XL e H0 F' H' p ys → kk ys → Q (.ref p) H') :
    kCpL K g tc te vs σ Q (V.ref p) H := by
  obtain ⟨ws, hp, a⟩ := r.rd
  exact w_compC hp a w hn hW turn done
theorem w_compR {tc : TT} {vs : List Nat} {n : Nat} {bd : Nat → (Option α → Prop) → Prop} {kk : List α → Prop} (w : Wf F0 H0 F H) (hn : n < 1000000) (hW : compW (List.range n) bd kk)
    (turn : ∀ (Qy : V → Hp → Prop) (Qn : Hp → Prop) (x : Nat) F1 H1 (R : Option α → Prop), Wf F H F1 H1 → x < n → bd x R → (∀ y z F2 H2, Wf F1 H1 F2 H2 → e.r F2 y z → R (some z) → Qy y H2) → (∀ F2 H2, Wf F1 H1 F2 H2 → R none → Qn H2) →
      g (.int (x : Int)) (wipe σ vs) H1 fun σ2 H2 => wipe σ2 vs = wipe σ vs ∧ tc σ2 H2 fun b H3 => if b = true then te σ2 H3 Qy else Qn H3)
    (done : ∀ p ys F' H', H p = none → Wf F H F' H' → XL e H0 F' H' p ys → kk ys → Q (.ref p) H') :
    kCpR g tc te vs σ Q (.int (n : Int)) H := by
  unfold kCpR
  refine ⟨(n : Int), rfl, by omega, by omega, fun D hD => lc_range (lo := 0) (n := n) (fun i H' => ∃ F' ac ys, Wf F H F' H' ∧ Xc H F' H' D (.lst ac) ∧ All e F' ac ys ∧ ys.length ≤ i ∧ compG ((List.range n).drop i) ys bd kk)
    ⟨F, [], [], Wf.newX w.f hD, Xc.mk' (Wf.id w.f) hD, trivial, Nat.le_refl _, hW⟩ ?_ ?_⟩
  · rintro i H' hi ⟨F', ac, ys, q, xc, al, hl, hw⟩
    have e' : (List.range n).drop i = i :: (List.range n).drop (i + 1) := by
      have h1 : i < (List.range n).length := by rw [List.length_range]; exact hi
      rw [List.drop_eq_getElem_cons h1, List.getElem_range]
    rw [e'] at hw
    have z : (0 : Int) + (i : Int) = (i : Int) := Int.zero_add _
    rw [z]
    refine turn _ _ i F' H' _ q hi hw (fun y z F2 H2 s ry hR => ?_) (fun F2 H2 s hR => ?_)
    · have xc2 := xc.step s
      exact ⟨ac, xc2.h, by rw [al.len]; exact small_len (by omega), F2, ac ++ [y], ys ++ [z], (q.tr s).set xc2, xc2.set, (al.mono s.g).snoc ry, by rw [List.length_append]; exact Nat.succ_le_succ hl, hR⟩
    · exact ⟨F2, ac, ys, q.tr s, xc.step s, al.mono s.g, Nat.le_succ_of_le hl, by simpa using hR⟩
  · rintro H' ⟨F', ac, ys, q, xc, al, hl, hw⟩
    rw [List.drop_of_length_le (by rw [List.length_range]; exact Nat.le_refl _)] at hw
    exact done D ys F' H' hD q ⟨ac, ⟨w.h.non hD, xc.n, xc.h⟩, al⟩ hw
end
end Wk

namespace Wk
open PySem L2
section
variable {X : Cx} {σ : L2.St} {H : Hp} {te tl ta tb : TE} {tt tc : TT} {tA : TA} {Q : VK} {v w x y z : V} {D : Ends} {tu : TS} {g : TG} {K : PySem.W.Frag} {p q : Prop}
theorem f_L (h : Val tl σ H v) (k : ∃ a, v = .ref a ∧ (∃ xs, SqL K H a xs) ∧ (fun J H1 => ∃ W : Nat → Nat → L2.St → Hp → Prop, (∃ m, W 0 m σ H1) ∧ ∀ i m σ H, W i m σ H →
      (J.stop i H ∧ D.nx σ H) ∨ (J.go i H ∧ ∃ N : L2.St → Hp → Prop, (∀ σ' H', N σ' H' → ∃ m', m' < m ∧ W (i + 1) m' σ' H') ∧ ∀ x H', J.yld i H x H' → g x σ H' fun σ2 H2 => tu { D with nx := N, ct := N, bk := D.nx } σ2 H2)) (Itl K a) H) : tFor (iList K tl) g tu D σ H := h _ k
theorem f_LE (h : tl σ H fun v H => ∃ a, v = .ref a ∧ (∃ xs, SqL K H a xs) ∧ (fun J H1 => ∃ W : Nat → Nat → L2.St → Hp → Prop, (∃ m, W 0 m σ H1) ∧ ∀ i m σ H, W i m σ H →
      (J.stop i H ∧ D.nx σ H) ∨ (J.go i H ∧ ∃ N : L2.St → Hp → Prop, (∀ σ' H', N σ' H' → ∃ m', m' < m ∧ W (i + 1) m' σ' H') ∧ ∀ x H', J.yld i H x H' → g x σ H' fun σ2 H2 => tu { D with nx := N, ct := N, bk := D.nx } σ2 H2)) (Itl K a) H) : tFor (iList K tl) g tu D σ H := h
theorem f_R (h : Val te σ H v) (k : ∃ j : Int, [v] = [.int j] ∧ -(2 ^ 62) ≤ j ∧ j < 2 ^ 62 ∧ (fun J H1 => ∃ W : Nat → Nat → L2.St → Hp → Prop, (∃ m, W 0 m σ H1) ∧ ∀ i m σ H, W i m σ H →
      (J.stop i H ∧ D.nx σ H) ∨ (J.go i H ∧ ∃ N : L2.St → Hp → Prop, (∀ σ' H', N σ' H' → ∃ m', m' < m ∧ W (i + 1) m' σ' H') ∧ ∀ x H', J.yld i H x H' → g x σ H' fun σ2 H2 => tu { D with nx := N, ct := N, bk := D.nx } σ2 H2)) (Itr 0 j.toNat) H) : tFor (iRng1 (tCons te tNil)) g tu D σ H := h _ k
theorem f_RE (h : te σ H fun v H => ∃ j : Int, [v] = [.int j] ∧ -(2 ^ 62) ≤ j ∧ j < 2 ^ 62 ∧ (fun J H1 => ∃ W : Nat → Nat → L2.St → Hp → Prop, (∃ m, W 0 m σ H1) ∧ ∀ i m σ H, W i m σ H →
      (J.stop i H ∧ D.nx σ H) ∨ (J.go i H ∧ ∃ N : L2.St → Hp → Prop, (∀ σ' H', N σ' H' → ∃ m', m' < m ∧ W (i + 1) m' σ' H') ∧ ∀ x H', J.yld i H x H' → g x σ H' fun σ2 H2 => tu { D with nx := N, ct := N, bk := D.nx } σ2 H2)) (Itr 0 j.toNat) H) : tFor (iRng1 (tCons te tNil)) g tu D σ H := h
theorem c_LE {vs : List Nat} (h : tl σ H (kCpL K g tc te vs σ Q)) : tLc (iList K tl) g tc te vs σ H Q := h
theorem c_RE {vs : List Nat} (h : ta σ H (kCpR g tc te vs σ Q)) : tLc (iRng1 (tCons ta tNil)) g tc te vs σ H Q := h
theorem c_yes {A B : Hp → Prop} (h : A H) : tYes σ H fun b H3 => if b = true then A H3 else B H3 := by show if true = true then A H else B H; rw [if_pos rfl]; exact h
theorem c_if [Decidable p] {A B : Hp → Prop} (h : Ans tt σ H (decide p)) (h1 : p → A H) (h2 : ¬ p → B H) : tt σ H fun b H3 => if b = true then A H3 else B H3 := h _ (by
  by_cases hp : p
  · rw [decide_eq_true hp, if_pos rfl]; exact h1 hp
  · rw [decide_eq_false hp, if_neg (by simp)]; exact h2 hp)
theorem b_if {p : Prop} [Decidable p] {A B : Prop} (h1 : p → A) (h2 : ¬ p → B) : if decide p = true then A else B := by
  by_cases hp : p
  · rw [decide_eq_true hp, if_pos rfl]; exact h1 hp
  · rw [decide_eq_false hp, if_neg (by simp)]; exact h2 hp
theorem bb_if {b : Bool} {A B : Prop} (h1 : b = true → A) (h2 : ¬ b = true → B) : if b = true then A else B := by
  by_cases hp : b = true
  · rw [if_pos hp]; exact h1 hp
  · rw [if_neg hp]; exact h2 hp
theorem e_op {r : R2} (h : ta σ H fun x H1 => tb σ H1 fun y H2 => r x y H2 Q) : tOp r ta tb σ H Q := h
theorem rv2 {r : R2} (h : Val (tOp r (tC x) (tC y)) [] H z) (q : Q z H) : r x y H Q := h Q q
theorem rv2T {r : R2} {b : Bool} {Qt : Bool → Hp → Prop} (h : Val (tOp r (tC x) (tC y)) [] H (.bl b)) (q : Qt b H) : r x y H (fun x H' => ∃ k, x = .bl k ∧ Qt k H') := h _ ⟨b, rfl, q⟩
theorem rcb1 {r : List V → Hp → VK → Prop} (h : Val (tCB r (tCons (tC x) tNil)) [] H z) (q : Q z H) : r [x] H Q := h Q q
theorem rcb2 {r : List V → Hp → VK → Prop} (h : Val (tCB r (tCons (tC x) (tCons (tC y) tNil))) [] H z) (q : Q z H) : r [x, y] H Q := h Q q
theorem e_cb {r : List V → Hp → VK → Prop} (h : tA σ H fun vs H1 => r vs H1 Q) : tCB r tA σ H Q := h
theorem e_tB {Qt : Bool → Hp → Prop} (h : te σ H fun x H1 => ∃ c, x = .bl c ∧ Qt c H1) : tB te σ H Qt := h
theorem e_tT {Qt : Bool → Hp → Prop} (h : te σ H fun x H1 => ∃ c, x = .bl c ∧ Qt c H1) : tTest te σ H Qt := h
theorem e_bl {Qt : Bool → Hp → Prop} {b : Bool} (h : Qt b H) : ∃ c, V.bl b = .bl c ∧ Qt c H := ⟨b, rfl, h⟩
theorem e_tNot {Qt : Bool → Hp → Prop} (h : tt σ H fun c H1 => Qt (!c) H1) : tNot tt σ H Qt := h
theorem e_ans {Qt : Bool → Hp → Prop} {b : Bool} (h : Ans tt σ H b) (q : Qt b H) : tt σ H Qt := h Qt q
theorem e_tup (h : tA σ H (kTup Q)) : tTup tA σ H Q := h
theorem e_lst (h : tA σ H (kLst Q)) : tLst tA σ H Q := h
theorem a_asgG (h : te σ H fun v H1 => g v σ H1 D.nx) : tAsg te g D σ H := h
theorem a_augE {i : Nat} {ti : TIp} (hx : σ[i]? = some (some x)) (h : te σ H fun y H1 => ti x y H1 fun z H2 => D.nx (σ.set i (some z)) H2) : tAug i te ti D σ H := ⟨x, hx, h⟩
theorem a_augV {i : Nat} {ti : TIp} (hx : σ[i]? = some (some x)) (h : Val te σ H y) (hv : Val (tOp ti (tC x) (tC y)) [] H z) (q : D.nx (σ.set i (some z)) H) : tAug i te ti D σ H := ⟨x, hx, h _ (hv _ q)⟩
theorem XL.base {α : Type} {e : Rep α} {F0 H0 F F' H' : Hp} {p : Addr} {xs : List α} (x : XL e H F' H' p xs) (w : Wf F0 H0 F H) : XL e H0 F' H' p xs := let ⟨vs, a, b⟩ := x.x; ⟨vs, ⟨w.h.non a.z, a.n, a.h⟩, b⟩
end
/-- a def that may be called -/
structure Fn (P : Program) (w : World) (K : PySem.W.Frag) (mg : Str → Option Value) (base : Heap) (CX : CXT) (k : Nat) (x : Str) (ps : List Str) (sp : Sp) : Prop where
  ex : ∃ f fd, FnOk P w K mg base CX k f fd ps sp ∧ mg x = some (.ref f) ∧ PySem.W.keepIn K (.ref f) = true ∧ Binds K fd ps []
theorem pe_fn {X : Cx} {k : Nat} {x : Str} {ps : List Str} {sp : Sp} {e : Expr} {es : List Expr} {p pos : Pos} {t : TA} (C : Fn X.prog X.w X.K X.mg X.base CX0 k x ps sp) (hr : Room k X.A) (hg : Gl X x) (ha : PA X (e :: es) t) (hdb : (x == ("__debug__" : Str)) = false := by decide)
    (he : starEach (e :: es) X.env = (false, eval e X.env) :: starEach es X.env := by rfl) (hpl : (backTo pos (starEach es X.env)).any (·.1) = false := by rfl) : PE X (.Call (.Name x p) (e :: es) [] pos) (tCall sp [] E0 t) := by
  obtain ⟨f, fd, F, hm, hk, hb⟩ := C.ex
  exact pe_call F hr hg hm hk hb .nil pass0 ha hdb he hpl
theorem pe_fn0 {X : Cx} {k : Nat} {x : Str} {ps : List Str} {sp : Sp} {p pos : Pos} (C : Fn X.prog X.w X.K X.mg X.base CX0 k x ps sp) (hr : Room k X.A) (hg : Gl X x) (hdb : (x == ("__debug__" : Str)) = false := by decide) : PE X (.Call (.Name x p) [] [] pos) (tCall sp [] E0 tNil) := by
  obtain ⟨f, fd, F, hm, hk, hb⟩ := C.ex
  exact pe_call0 F hr hg hm hk hb .nil pass0 hdb
end Wk

namespace Wk
open PySem L2
theorem dec_and {p q : Prop} [Decidable p] [Decidable q] : (decide p && decide q) = decide (p ∧ q) := by
  by_cases hp : p
  · by_cases hq : q
    · rw [decide_eq_true hp, decide_eq_true hq, decide_eq_true (And.intro hp hq)]; rfl
    · rw [decide_eq_false hq, decide_eq_false (fun z : p ∧ q => hq z.2), Bool.and_false]
  · rw [decide_eq_false hp, decide_eq_false (fun z : p ∧ q => hp z.1), Bool.false_and]
theorem dec_tt {b : Bool} : b = decide (b = true) := by cases b <;> rfl
theorem dec_T : true = decide True := rfl
theorem dec_F : false = decide False := rfl
section
variable {α β : Type} {e : Rep α} {f : Rep β} {K : PySem.W.Frag} {σ : L2.St} {F0 H0 F F' H H' : Hp} {te ta tb : TE} {Q : VK} {v w u : V} {xs : List α} {p : Addr} {i : Int} {n : Nat} {x : V}
/-- bit_length -/
def bits (n : Nat) : Nat := if n = 0 then 0 else n.log2 + 1
theorem bits_int (n : Nat) : Builtin.Int.intBits (n : Int) = bits n := by
  unfold Builtin.Int.intBits bits
  by_cases h : n = 0
  · subst h; rfl
  · rw [if_neg (show ¬ (((n : Nat) : Int) == 0) = true by simpa using h), if_neg h]; rfl
theorem vn_bitl (ha : Val ta σ H (.int (n : Int))) : Val (tBits ta) σ H (.int ((bits n : Nat) : Int)) := fun _ k => ha _ ⟨_, rfl, by rw [bits_int]; exact k⟩
theorem v_isi {b : Bool} {cn tn : String} (ha : Val ta σ H x) (ty : TyX K H x (.type tn)) (h : kitB tn cn = some b) : Val (tCB (rIsi K) (tCons ta (tCons (tC (.ty cn)) tNil))) σ H (.bl b) := fun Q k => ha _ ⟨x, .ty cn, _, _, b, rfl, .ty cn, ty, kit_ty h, k⟩
theorem ty_L (r : (pL e).r F v xs) (f : Ex F H) : TyX K H v (.type "list") := by obtain ⟨p, vs, rfl, hp, _⟩ := r; exact .base (.lst (f _ _ hp))
theorem ty_TL (r : (pTL e).r F v xs) (f : Ex F H) : TyX K H v (.type "tuple") := by obtain ⟨p, vs, rfl, hp, _⟩ := r; exact .base (.tup (f _ _ hp))
theorem ty_T2 {z : α × β} (r : (pT2 e f).r F v z) (h : Ex F H) : TyX K H v (.type "tuple") := by obtain ⟨p, _, _, rfl, hp, _⟩ := r; exact .base (.tup (h _ _ hp))
theorem ty_X (r : XL e H0 F H p xs) : TyX K H (.ref p) (.type "list") := by obtain ⟨vs, hp, _⟩ := r.rd; exact .base (.lst hp)
def rInt1 : List V → Hp → VK → Prop := fun xs H Q => (∃ i, xs = [.int i] ∧ Q (.int i) H) ∨ ∃ k, xs = [.bl k] ∧ Q (.int (if k then 1 else 0)) H
theorem v_intI (ha : Val ta σ H (.int i)) : Val (tCB rInt1 (tCons ta tNil)) σ H (.int i) := fun _ k => ha _ (.inl ⟨i, rfl, k⟩)
theorem v_intB {b : Bool} (ha : Val ta σ H (.bl b)) : Val (tCB rInt1 (tCons ta tNil)) σ H (.int ((b.toNat : Nat) : Int)) := fun _ k => ha _ (.inr ⟨b, rfl, by cases b <;> exact k⟩)
end
end Wk

namespace Wk
open PySem L2
/-! ### readings by short names -/
abbrev kAdd : R2 := L2.rI0 fun i j => .int (i + j)
abbrev kSub : R2 := L2.rI0 fun i j => .int (i - j)
abbrev kMul : R2 := L2.rI CMul fun i j => .int (i * j)
abbrev kMulX : R2 := L2.rI CMulX fun i j => .int (i * j)
abbrev kDiv : R2 := L2.rI CDivW fun i j => .int (i / j)
abbrev kMod : R2 := L2.rI (fun _ j => 0 < j) fun i j => .int (i % j)
abbrev kPow : R2 := L2.rI CPow fun i j => .int (i ^ j.toNat)
abbrev kShl : R2 := L2.rI CShl fun i j => .int (i * 2 ^ j.toNat)
abbrev kShr : R2 := L2.rI (fun _ j => 0 ≤ j) fun i j => .int (i / 2 ^ j.toNat)
abbrev kAnd : R2 := L2.rI0 fun i j => .int (Builtin.bitAnd i j)
abbrev kOr : R2 := L2.rI0 fun i j => .int (Builtin.bitOr i j)
abbrev kXor : R2 := L2.rI0 fun i j => .int (Builtin.bitXor i j)
abbrev kLt : R2 := L2.rI0 fun i j => .bl (decide (i < j))
abbrev kLe : R2 := L2.rI0 fun i j => .bl (decide (i ≤ j))
abbrev kGt : R2 := L2.rI0 fun i j => .bl (decide (j < i))
abbrev kGe : R2 := L2.rI0 fun i j => .bl (decide (j ≤ i))
abbrev kNeg : V → Hp → VK → Prop := L2.rU fun i => .int (-i)
def rLenS : List V → Hp → VK → Prop := fun xs H Q => ∃ z, xs = [.str z] ∧ z.length ≤ sizeLine ∧ Q (.int z.length) H
def rListOf (K : PySem.W.Frag) : List V → Hp → VK → Prop := fun xs H Q => ∃ p ys, xs = [.ref p] ∧ (SqL K H p ys ∨ SqT K H p ys) ∧ ∀ l, H l = none → Q (.ref l) (upd H l (.lst ys))
section
variable {α β : Type} {e : Rep α} {f : Rep β} {K : PySem.W.Frag} {σ : L2.St} {F0 H0 F F' H H' : Hp} {te ta tb : TE} {Q : VK} {v w u : V} {xs ys : List α} {p q : Addr} {i : Int} {n a b : Nat} {x : V} {tl th : TO}
theorem len_Str {s : Str} (h : s.length < 1000000) (ha : Val ta σ H (.str s)) : Val (tCB rLenS (tCons ta tNil)) σ H (.int ((s.length : Nat) : Int)) := fun _ k => ha _ ⟨s, rfl, Nat.le_of_lt (small_len h), k⟩
theorem XL.frzO (x : XL e H0 F H q xs) (h : ∀ q o, Xc H0 F H q o → q ≠ p → Xc H0 F' H q o) (hq : q ≠ p) (g : Ex F F') : XL e H0 F' H q xs := let ⟨vs, a, b⟩ := x.x; ⟨vs, h _ _ a hq, b.mono g⟩
/-- list(xs): a new one -/
theorem n_listX (r : (pL e).r F v xs) (w : Wf F0 H0 F H) (k : ∀ p H', H p = none → Wf F H F H' → XL e H0 F H' p xs → Q (.ref p) H') : rListOf K [v] H Q := by
  obtain ⟨p, vs, rfl, hp, a⟩ := r
  exact ⟨p, vs, rfl, .inl (SqL.of (w.f _ _ hp)), fun l hl => k l _ hl (Wf.newX w.f hl) ⟨vs, Xc.mk' w hl, a⟩⟩
theorem n_listXX (r : XL e H0 F H q xs) (w : Wf F0 H0 F H) (k : ∀ p H', H p = none → Wf F H F H' → XL e H0 F H' p xs → Q (.ref p) H') : rListOf K [.ref q] H Q := by
  obtain ⟨vs, hp, a⟩ := r.rd
  exact ⟨q, vs, rfl, .inl (SqL.of hp), fun l hl => k l _ hl (Wf.newX w.f hl) ⟨vs, Xc.mk' w hl, a⟩⟩
theorem n_listXT (r : (pTL e).r F v xs) (w : Wf F0 H0 F H) (k : ∀ p H', H p = none → Wf F H F H' → XL e H0 F H' p xs → Q (.ref p) H') : rListOf K [v] H Q := by
  obtain ⟨p, vs, rfl, hp, a⟩ := r
  exact ⟨p, vs, rfl, .inr (SqT.of (w.f _ _ hp)), fun l hl => k l _ hl (Wf.newX w.f hl) ⟨vs, Xc.mk' w hl, a⟩⟩
/-- xs + ys -/
theorem n_cat (r : (pL e).r F v xs) (s : (pL e).r F u ys) (w : Wf F0 H0 F H) (hl : xs.length + ys.length < 1000000) (k : ∀ p H', H p = none → Wf F H F H' → XL e H0 F H' p (xs ++ ys) → Q (.ref p) H') : rCat v u H Q := by
  obtain ⟨p, vs, rfl, hp, a⟩ := r
  obtain ⟨q, us, rfl, hq, b⟩ := s
  exact ⟨p, q, vs, us, rfl, rfl, w.f _ _ hp, w.f _ _ hq, by rw [a.len, b.len]; exact Nat.le_of_lt (small_len hl), fun l hl => k l _ hl (Wf.newX w.f hl) ⟨_, Xc.mk' w hl, a.app b⟩⟩
theorem All.rep (a : All e F vs' xs) : ∀ n, All e F (List.replicate n vs').flatten (List.replicate n xs).flatten
  | 0 => trivial
  | n + 1 => by rw [List.replicate_succ, List.replicate_succ, List.flatten_cons, List.flatten_cons]; exact a.app (All.rep a n)
/-- xs * n -/
theorem n_rep (r : (pL e).r F v xs) (w : Wf F0 H0 F H) (hl : xs.length * n < 1000000) (hn : n < 1000000) (k : ∀ p H', H p = none → Wf F H F H' → XL e H0 F H' p (List.replicate n xs).flatten → Q (.ref p) H') : rRep v (.int (n : Int)) H Q := by
  obtain ⟨p, vs, rfl, hp, a⟩ := r
  exact ⟨p, _, vs, rfl, rfl, w.f _ _ hp, by omega, by omega, by rw [a.len]; exact Nat.le_of_lt (small_len hl), fun l hl => k l _ hl (Wf.newX w.f hl) ⟨_, Xc.mk' w hl, All.rep a n⟩⟩
/-! slices -/
def cutT (xs : List α) (lo hi : Option Nat) : List α := match lo, hi with
  | none, none => xs
  | none, some b => xs.take b
  | some a, none => xs.drop a
  | some a, some b => (xs.drop a).take (b - a)
theorem cutV_T {ws : List V} (lo hi : Option Nat) : cutV ws (lo.map Int.ofNat) (hi.map Int.ofNat) = cutT ws lo hi := by
  have tk : ∀ (n : Nat) (l : List V), l.take (min n l.length) = l.take n := fun n l => by
    by_cases h : n ≤ l.length
    · rw [Nat.min_eq_left h]
    · rw [Nat.min_eq_right (by omega), List.take_of_length_le (Nat.le_refl _), List.take_of_length_le (by omega)]
  unfold cutV cutT
  cases lo with
  | none =>
    cases hi with
    | none => simp only [Option.map_none, HT.sIx_none, List.drop_zero, Nat.sub_zero, List.take_length]
    | some b =>
      simp only [Option.map_none, Option.map_some, HT.sIx_none, List.drop_zero, Nat.sub_zero]
      rw [show HT.sIx ws.length ws.length (some (Int.ofNat b)) = min b ws.length from HT.sIx_nat _ _ _]
      exact tk b ws
  | some a =>
    have dr : ws.drop (min a ws.length) = ws.drop a := by
      by_cases h : a ≤ ws.length
      · rw [Nat.min_eq_left h]
      · rw [Nat.min_eq_right (by omega), List.drop_of_length_le (Nat.le_refl _), List.drop_of_length_le (by omega)]
    cases hi with
    | none =>
      simp only [Option.map_none, Option.map_some, HT.sIx_none]
      rw [show HT.sIx ws.length 0 (some (Int.ofNat a)) = min a ws.length from HT.sIx_nat _ _ _, dr]
      exact List.take_of_length_le (by rw [List.length_drop]; omega)
    | some b =>
      simp only [Option.map_some]
      rw [show HT.sIx ws.length 0 (some (Int.ofNat a)) = min a ws.length from HT.sIx_nat _ _ _, show HT.sIx ws.length ws.length (some (Int.ofNat b)) = min b ws.length from HT.sIx_nat _ _ _, dr]
      by_cases h : b ≤ ws.length
      · rw [Nat.min_eq_left h]
        by_cases h' : a ≤ ws.length
        · rw [Nat.min_eq_left h']
        · rw [List.drop_of_length_le (by omega), List.take_nil, List.take_nil]
      · rw [Nat.min_eq_right (by omega)]
        rw [List.take_of_length_le (by rw [List.length_drop]; omega), List.take_of_length_le (by rw [List.length_drop]; omega)]
theorem All.cut {ws : List V} (a : All e F ws xs) (lo hi : Option Nat) : All e F (cutT ws lo hi) (cutT xs lo hi) := by
  cases lo <;> cases hi
  · exact a
  · exact a.take _
  · exact a.drop _
  · exact (a.drop _).take _
/-- the two ends of a slice -/
def Part (tl : TO) (σ : L2.St) (H : Hp) (o : Option Nat) : Prop := ∀ Q : Option Int → Hp → Prop, Q (o.map Int.ofNat) H → tl σ H Q
theorem po_n : Part tNoPart σ H none := fun _ k => k
theorem po_s (h : Val te σ H (.int (n : Int))) : Part (tPart te) σ H (some n) := fun _ k => h _ ⟨_, rfl, k⟩
theorem n_cutX {lo hi : Option Nat} (r : (pL e).r F v xs) (hv : Val te σ H v) (h1 : Part tl σ H lo) (h2 : Part th σ H hi) (w : Wf F0 H0 F H) (k : ∀ p H', H p = none → Wf F H F H' → XL e H0 F H' p (cutT xs lo hi) → Q (.ref p) H') : tSl (rSlL K) te tl th σ H Q := by
  obtain ⟨p, vs, rfl, hp, a⟩ := r
  exact hv _ (h1 _ (h2 _ ⟨p, vs, rfl, SqL.of (w.f _ _ hp), fun l hl => by
    rw [cutV_T]
    exact k l _ hl (Wf.newX w.f hl) ⟨_, Xc.mk' w hl, a.cut lo hi⟩⟩))
theorem n_cutS {lo hi : Option Nat} {zs : List Int} (r : (pScr K).r F v zs) (hv : Val te σ H v) (h1 : Part tl σ H lo) (h2 : Part th σ H hi) (w : Wf F0 H0 F H) (k : ∀ p H', H p = none → Wf F H F H' → XL pI H0 F H' p (cutT zs lo hi) → Q (.ref p) H') : tSl (rSlL K) te tl th σ H Q := by
  obtain ⟨p, rfl, s⟩ := (pScr K).mono w.f r
  exact hv _ (h1 _ (h2 _ ⟨p, _, rfl, s, fun l hl => by
    rw [cutV_T]
    exact k l _ hl (Wf.newX w.f hl) ⟨_, Xc.mk' w hl, (All.ofInts (xs := zs)).cut lo hi⟩⟩))
end
end Wk

namespace Wk
open PySem L2
section
variable {α β γ : Type} {e : Rep α} {f : Rep β} {g : Rep γ} {K : PySem.W.Frag} {σ : L2.St} {F0 H0 F F' H H' : Hp} {te ta tb to : TE} {tt : TT} {tA : TA} {Q : VK} {v w u : V} {xs ys : List α} {p q : Addr} {i : Nat} {D : Ends} {pr : Prop} {ti : TIp} {x y : V}
theorem if_t {A B : Prop} (h : A) : if true = true then A else B := by rw [if_pos rfl]; exact h
theorem if_f {A B : Prop} (h : B) : if false = true then A else B := by rw [if_neg (by simp)]; exact h
theorem b_ifn {p : Prop} [Decidable p] {A B : Prop} (h1 : p → B) (h2 : ¬ p → A) : if (!decide p) = true then A else B := by
  by_cases hp : p
  · rw [decide_eq_true hp, if_neg (by simp)]; exact h1 hp
  · rw [decide_eq_false hp, if_pos (by rfl)]; exact h2 hp
theorem bb_ifn {b : Bool} {A B : Prop} (h1 : b = true → B) (h2 : ¬ b = true → A) : if (!b) = true then A else B := by
  cases b with
  | true => rw [if_neg (by simp)]; exact h1 rfl
  | false => rw [if_pos (by rfl)]; exact h2 (by simp)
theorem nx_v {P : V → Prop} (h : v = w) (q : P v) : P w := h ▸ q
theorem nx_set {P : L2.St → Hp → Prop} {σ : L2.St} {i : Nat} {H : Hp} (h : v = w) (q : P (σ.set i (some v)) H) : P (σ.set i (some w)) H := h ▸ q
theorem g_name {R : L2.St → Hp → Prop} (h : R (σ.set i (some v)) H) : gName i v σ H R := h
theorem set_same {σ : L2.St} {i : Nat} {v : V} (h : σ[i]? = some (some v)) : σ.set i (some v) = σ := by
  refine List.ext_getElem? fun j => ?_
  rw [List.getElem?_set]
  split
  · rename_i h1
    subst h1
    split
    · exact h.symm
    · rename_i h2
      rw [List.getElem?_eq_none (by omega)] at h; cases h
  · rfl
theorem a_ifAsg [Decidable pr] (h : Ans tt σ H (decide pr)) (h1 : pr → Val te σ H v) (h2 : ¬ pr → σ[i]? = some (some v)) (q : D.nx (σ.set i (some v)) H) : tIfS tt (tAsg te (gName i)) tNext D σ H := h _ (b_if (fun hp => h1 hp _ q) fun hp => by
  have e := set_same (h2 hp)
  rw [e] at q
  exact q)
theorem a_ifAug [Decidable pr] (h : Ans tt σ H (decide pr)) (hx : σ[i]? = some (some x)) (hy : Val te σ H y) (h1 : pr → Val (tOp ti (tC x) (tC y)) [] H v) (h2 : ¬ pr → σ[i]? = some (some v)) (q : D.nx (σ.set i (some v)) H) : tIfS tt (tAug i te ti) tNext D σ H := h _ (b_if (fun hp => ⟨x, hx, hy _ (h1 hp _ q)⟩) fun hp => by
  have e := set_same (h2 hp)
  rw [e] at q
  exact q)
theorem n_tup3 {x : α} {y : β} {z : γ} (a : e.r F v x) (b : f.r F w y) (c : g.r F u z) (h : Wf F0 H0 F H) (k : ∀ p F' H', Wf F H F' H' → (pT3 e f g).r F' (.ref p) (x, y, z) → Q (.ref p) H') :
    kTup Q [v, w, u] H := ⟨Nat.le_of_lt (small_len (n := 3) (by decide)), fun p hp => k p _ _ (Wf.new h.f hp) ⟨p, v, w, u, rfl, upd_same, e.mono (Ex.new (h.f.non hp)) a, f.mono (Ex.new (h.f.non hp)) b, g.mono (Ex.new (h.f.non hp)) c⟩⟩
theorem n_tupL {vs : List V} (a : All e F vs xs) (hl : xs.length < 1000000) (w : Wf F0 H0 F H) (k : ∀ p F' H', Wf F H F' H' → (pTL e).r F' (.ref p) xs → Q (.ref p) H') :
    kTup Q vs H := ⟨by rw [a.len]; exact Nat.le_of_lt (small_len hl), fun p hp => k p _ _ (Wf.new w.f hp) ⟨p, vs, rfl, upd_same, a.mono (Ex.new (w.f.non hp))⟩⟩
theorem m_list {r : V → List V → Hp → VK → Prop} (z : XL e H0 F H p xs) (ho : Val to σ H (.ref p)) (k : tA σ H fun vs H2 => r (.ref p) vs H2 Q) : tBM K "list" r to tA σ H Q := ho _ ⟨let ⟨_, a, _⟩ := z.x; Or.inl ⟨rfl, _, Or.inl (Or.inl a.h)⟩, k⟩
theorem a_clr (x : XL e H0 F H p xs) (w : Wf F0 H0 F H) (k : ∀ H', Wf F0 H0 F H' → XL e H0 F H' p [] → (∀ q o, H q = some o → q ≠ p → H' q = some o) → Q .non H') : rClear (.ref p) [] H Q := by
  obtain ⟨vs, a, b⟩ := x.x
  exact ⟨p, vs, rfl, rfl, a.h, k _ (w.set a) ⟨_, a.set, trivial⟩ fun q o h hq => by rw [upd_ne hq]; exact h⟩
theorem a_ext (x : XL e H0 F H p xs) (r : (pL e).r F v ys) (w : Wf F0 H0 F H) (hl : xs.length + ys.length < 1000000) (k : ∀ H', Wf F0 H0 F H' → XL e H0 F H' p (xs ++ ys) → (∀ q o, H q = some o → q ≠ p → H' q = some o) → Q .non H') : rExtend (.ref p) [v] H Q := by
  obtain ⟨vs, a, b⟩ := x.x
  obtain ⟨q, us, rfl, hq, c⟩ := r
  exact ⟨p, q, vs, us, rfl, rfl, a.h, w.f _ _ hq, by rw [b.len, c.len]; exact Nat.le_of_lt (small_len hl), k _ (w.set a) ⟨_, a.set, b.app c⟩ fun q o h hq => by rw [upd_ne hq]; exact h⟩
end
end Wk

namespace Wk
open PySem L2
/-! ### dicts: their pairs in order, keys numbers or texts -/
class KeyT (κ : Type) where
  k : κ → Key
  inj : ∀ {a b : κ}, k a = k b → a = b
instance : KeyT Nat := ⟨fun n => .inl (n : Int), fun h => by have := Sum.inl.inj h; omega⟩
instance : KeyT Int := ⟨fun n => .inl n, fun h => Sum.inl.inj h⟩
instance : KeyT Str := ⟨fun n => .inr n, fun h => Sum.inr.inj h⟩
section
variable {κ α : Type} [DecidableEq κ] [KeyT κ]
def valT (m : List (κ × α)) (j : κ) : Option α := (m.find? fun q => decide (q.1 = j)).map (·.2)
def hasT (m : List (κ × α)) (j : κ) : Bool := (valT m j).isSome
def putT (m : List (κ × α)) (j : κ) (x : α) : List (κ × α) := if hasT m j = true then m.map (fun q => if q.1 = j then (q.1, x) else q) else m ++ [(j, x)]
def DA (e : Rep α) (F : Hp) : List (Key × V) → List (κ × α) → Prop
  | [], [] => True
  | p :: r, q :: s => p.1 = KeyT.k q.1 ∧ e.r F p.2 q.2 ∧ DA e F r s
  | _, _ => False
variable {e : Rep α} {F F' : Hp}
omit [DecidableEq κ] in
theorem DA.mono (h : Ex F F') : ∀ {kvs : List (Key × V)} {m : List (κ × α)}, DA e F kvs m → DA e F' kvs m
  | [], [], _ => trivial
  | _ :: _, _ :: _, ⟨a, b, c⟩ => ⟨a, e.mono h b, DA.mono h c⟩
  | [], _ :: _, q => q.elim
  | _ :: _, [], q => q.elim
theorem DA.len : ∀ {kvs : List (Key × V)} {m : List (κ × α)}, DA e F kvs m → kvs.length = m.length
  | [], [], _ => rfl
  | _ :: _, _ :: _, ⟨_, _, c⟩ => by rw [List.length_cons, List.length_cons, DA.len c]
  | [], _ :: _, q => q.elim
  | _ :: _, [], q => q.elim
theorem valT_cons {q : κ × α} {m : List (κ × α)} {j : κ} : valT (q :: m) j = if q.1 = j then some q.2 else valT m j := by
  unfold valT
  rw [List.find?_cons]
  by_cases h : q.1 = j
  · rw [if_pos h, decide_eq_true h]; rfl
  · rw [if_neg h, decide_eq_false h]
theorem DA.get : ∀ {kvs : List (Key × V)} {m : List (κ × α)} (j : κ), DA e F kvs m → (∀ x, valT m j = some x → ∃ v, valV kvs (KeyT.k j) = some v ∧ e.r F v x) ∧ (valT m j = none → valV kvs (KeyT.k j) = none)
  | [], [], _, _ => ⟨fun x h => (by cases h), fun _ => rfl⟩
  | p :: r, q :: s, j, ⟨a, b, c⟩ => by
    obtain ⟨ih1, ih2⟩ := DA.get j c
    rw [valT_cons]
    by_cases h : q.1 = j
    · rw [if_pos h]
      have e1 : p.1 = KeyT.k j := by rw [a, h]
      exact ⟨fun x hx => ⟨p.2, valV_pos e1, by cases hx; exact b⟩, fun z => by cases z⟩
    · rw [if_neg h]
      have e1 : ¬ p.1 = KeyT.k j := fun z => h (KeyT.inj (a.symm.trans z))
      rw [valV_neg e1]
      exact ⟨ih1, ih2⟩
  | [], _ :: _, _, q => q.elim
  | _ :: _, [], _, q => q.elim
theorem DA.has {kvs : List (Key × V)} {m : List (κ × α)} (j : κ) (d : DA e F kvs m) : (valV kvs (KeyT.k j)).isSome = hasT m j := by
  obtain ⟨h1, h2⟩ := d.get j
  unfold hasT
  cases q : valT m j with
  | none => rw [h2 q]; rfl
  | some x => obtain ⟨v, h, _⟩ := h1 x q; rw [h]; rfl
theorem DA.app : ∀ {kvs : List (Key × V)} {m : List (κ × α)} {kvs' : List (Key × V)} {m' : List (κ × α)}, DA e F kvs m → DA e F kvs' m' → DA e F (kvs ++ kvs') (m ++ m')
  | [], [], _, _, _, h => h
  | _ :: _, _ :: _, _, _, ⟨a, b, c⟩, h => ⟨a, b, DA.app c h⟩
  | [], _ :: _, _, _, q, _ => q.elim
  | _ :: _, [], _, _, q, _ => q.elim
theorem DA.upd {v : V} {x : α} {j : κ} (r : e.r F v x) : ∀ {kvs : List (Key × V)} {m : List (κ × α)}, DA e F kvs m → DA e F (kvs.map fun kv => if kv.1 = KeyT.k j then (kv.1, v) else kv) (m.map fun q => if q.1 = j then (q.1, x) else q)
  | [], [], _ => trivial
  | p :: _, q :: _, ⟨a, b, c⟩ => by
    rw [List.map_cons, List.map_cons]
    refine ⟨?_, ?_, DA.upd r c⟩
    · by_cases h : q.1 = j
      · rw [if_pos h, if_pos (by rw [a, h])]; exact a
      · rw [if_neg h, if_neg (fun z => h (KeyT.inj (a.symm.trans z)))]; exact a
    · by_cases h : q.1 = j
      · rw [if_pos h, if_pos (by rw [a, h])]; exact r
      · rw [if_neg h, if_neg (fun z => h (KeyT.inj (a.symm.trans z)))]; exact b
  | [], _ :: _, q => q.elim
  | _ :: _, [], q => q.elim
theorem DA.put {v : V} {x : α} {j : κ} {kvs : List (Key × V)} {m : List (κ × α)} (d : DA e F kvs m) (r : e.r F v x) : DA e F (putK kvs (KeyT.k j) v) (putT m j x) := by
  unfold putK putT
  rw [valV_any, d.has j]
  by_cases h : hasT m j = true
  · rw [if_pos h, if_pos h]; exact d.upd r
  · rw [if_neg h, if_neg h]; exact d.app ⟨rfl, r, trivial⟩
end
def pD {κ α : Type} [KeyT κ] (e : Rep α) : Rep (List (κ × α)) := ⟨fun F v m => ∃ p kvs, v = .ref p ∧ F p = some (.dK kvs) ∧ DA e F kvs m, fun h ⟨p, kvs, a, b, c⟩ => ⟨p, kvs, a, h _ _ b, c.mono h⟩⟩
structure XD {κ α : Type} [KeyT κ] (e : Rep α) (H0 F H : Hp) (p : Addr) (m : List (κ × α)) : Prop where
  x : ∃ kvs, Xc H0 F H p (.dK kvs) ∧ DA e F kvs m
section
variable {κ α : Type} [DecidableEq κ] [KeyT κ] {e : Rep α} {K : PySem.W.Frag} {σ : L2.St} {F0 H0 F F' H H' : Hp} {te td ty tx tv : TE} {Q : VK} {v w y z : V} {m : List (κ × α)} {p q : Addr} {j : κ} {x : α} {D : Ends}
theorem XD.step (x : XD e H0 F H p m) (w : Wf F H F' H') : XD e H0 F' H' p m := let ⟨vs, a, b⟩ := x.x; ⟨vs, a.step w, b.mono w.g⟩
theorem XD.ne (x : XD e H0 F H p m) (h : H q = none) : p ≠ q := let ⟨_, a, _⟩ := x.x; a.ne h
theorem XD.zero (x : XD e H0 F H p m) : H0 p = none := let ⟨_, a, _⟩ := x.x; a.z
theorem XD.base (x : XD e H F' H' p m) (w : Wf F0 H0 F H) : XD e H0 F' H' p m := let ⟨vs, a, b⟩ := x.x; ⟨vs, ⟨w.h.non a.z, a.n, a.h⟩, b⟩
theorem XD.kept (x : XD e H0 F H q m) (h : ∀ q o, H q = some o → q ≠ p → H' q = some o) (hq : q ≠ p) : XD e H0 F H' q m := let ⟨vs, a, b⟩ := x.x; ⟨vs, a.kept h hq, b⟩
theorem XD.frzO (x : XD e H0 F H q m) (h : ∀ q o, Xc H0 F H q o → q ≠ p → Xc H0 F' H q o) (hq : q ≠ p) (g : Ex F F') : XD e H0 F' H q m := let ⟨vs, a, b⟩ := x.x; ⟨vs, h _ _ a hq, b.mono g⟩
theorem XD.frzE (x : XD e H0 F H p m) (w : Wf F0 H0 F H) : ∃ F', Wf F0 H0 F' H ∧ Ex F F' ∧ (pD e).r F' (.ref p) m ∧ (∀ q o, Xc H0 F H q o → q ≠ p → Xc H0 F' H q o) := by
  obtain ⟨vs, a, b⟩ := x.x
  exact ⟨_, w.freeze a, Ex.new a.n, ⟨p, vs, rfl, upd_same, b.mono (Ex.new a.n)⟩, fun q o z h => z.frz a h⟩
theorem XD.lend (x : XD e H0 F H p m) (w : Wf F0 H0 F H) : ∃ F', Ex F' H ∧ Ex F F' ∧ (pD e).r F' (.ref p) m := let ⟨F', a, b, c, _⟩ := x.frzE w; ⟨F', a.f, b, c⟩
theorem XD.rd (x : XD e H0 F H p m) : ∃ kvs, H p = some (.dK kvs) ∧ DA e F kvs m := let ⟨vs, a, b⟩ := x.x; ⟨vs, a.h, b⟩
theorem D_rd (r : (pD e).r F v m) (f : Ex F H) : ∃ p kvs, v = .ref p ∧ H p = some (.dK kvs) ∧ DA e F kvs m := let ⟨p, vs, a, b, c⟩ := r; ⟨p, vs, a, f _ _ b, c⟩
/-- {} -/
theorem n_dict (w : Wf F0 H0 F H) (k : ∀ p H', H p = none → Wf F H F H' → XD e H0 F H' p ([] : List (κ × α)) → Q (.ref p) H') : tDNewK σ H Q := fun p hp => k p _ hp (Wf.newX w.f hp) ⟨[], Xc.mk' w hp, trivial⟩
/-! reading -/
theorem in_D (r : (pD e).r F v m) (f : Ex F H) (hy : Val ty σ H (kV (KeyT.k j))) (hd : Val td σ H v) : Val (tDIn ty td) σ H (.bl (hasT m j)) := by
  obtain ⟨p, kvs, rfl, hp, a⟩ := D_rd r f
  exact fun Q k => hy _ (hd _ ⟨p, _, rfl, DGet.k hp, by rw [a.has j]; exact k⟩)
theorem in_XD (r : XD e H0 F H p m) (hy : Val ty σ H (kV (KeyT.k j))) (hd : Val td σ H (.ref p)) : Val (tDIn ty td) σ H (.bl (hasT m j)) := by
  obtain ⟨kvs, hp, a⟩ := r.rd
  exact fun Q k => hy _ (hd _ ⟨p, _, rfl, DGet.k hp, by rw [a.has j]; exact k⟩)
theorem nin_D (r : (pD e).r F v m) (f : Ex F H) (hy : Val ty σ H (kV (KeyT.k j))) (hd : Val td σ H v) : Val (tDNotIn ty td) σ H (.bl (!hasT m j)) := by
  obtain ⟨p, kvs, rfl, hp, a⟩ := D_rd r f
  exact fun Q k => hy _ (hd _ ⟨p, _, rfl, DGet.k hp, by rw [a.has j]; exact k⟩)
theorem nin_XD (r : XD e H0 F H p m) (hy : Val ty σ H (kV (KeyT.k j))) (hd : Val td σ H (.ref p)) : Val (tDNotIn ty td) σ H (.bl (!hasT m j)) := by
  obtain ⟨kvs, hp, a⟩ := r.rd
  exact fun Q k => hy _ (hd _ ⟨p, _, rfl, DGet.k hp, by rw [a.has j]; exact k⟩)
theorem ix_D (r : (pD e).r F v m) (f : Ex F H) (hx : valT m j = some x) : ∃ w, e.r F w x ∧ ∀ ⦃σ td ty⦄, Val td σ H v → Val ty σ H (kV (KeyT.k j)) → Val (tDGet td ty) σ H w := by
  obtain ⟨p, kvs, rfl, hp, a⟩ := D_rd r f
  obtain ⟨w, h1, h2⟩ := (a.get j).1 x hx
  exact ⟨w, h2, fun _ _ _ hd hy Q k => hd _ (hy _ ⟨p, w, rfl, by rw [← h1]; exact DGet.k hp, k⟩)⟩
theorem ix_XD (r : XD e H0 F H p m) (hx : valT m j = some x) : ∃ w, e.r F w x ∧ ∀ ⦃σ td ty⦄, Val td σ H (.ref p) → Val ty σ H (kV (KeyT.k j)) → Val (tDGet td ty) σ H w := by
  obtain ⟨kvs, hp, a⟩ := r.rd
  obtain ⟨w, h1, h2⟩ := (a.get j).1 x hx
  exact ⟨w, h2, fun _ _ _ hd hy Q k => hd _ (hy _ ⟨p, w, rfl, by rw [← h1]; exact DGet.k hp, k⟩)⟩
/-- d.get(k, x) -/
theorem get_XD (r : XD e H0 F H p m) (hz : e.r F z x) : ∃ w, e.r F w ((valT m j).getD x) ∧ ∀ ⦃σ td ty tx⦄, Val td σ H (.ref p) → Val ty σ H (kV (KeyT.k j)) → Val tx σ H z → Val (tDGet2 td ty tx) σ H w := by
  obtain ⟨kvs, hp, a⟩ := r.rd
  obtain ⟨h1, h2⟩ := a.get j
  have isd : IsD H p := .inl ⟨kvs, .inl hp⟩
  cases q : valT m j with
  | none => exact ⟨z, hz, fun _ _ _ _ hd hy hx Q k => hd _ ⟨p, rfl, isd, hy _ (hx _ ⟨none, by rw [← h2 q]; exact DGet.k hp, k⟩)⟩⟩
  | some x' =>
    obtain ⟨w, h3, h4⟩ := h1 x' q
    exact ⟨w, h4, fun _ _ _ _ hd hy hx Q k => hd _ ⟨p, rfl, isd, hy _ (hx _ ⟨some w, by rw [← h3]; exact DGet.k hp, k⟩)⟩⟩
theorem get_D (r : (pD e).r F v m) (f : Ex F H) (hz : e.r F z x) : ∃ w, e.r F w ((valT m j).getD x) ∧ ∀ ⦃σ td ty tx⦄, Val td σ H v → Val ty σ H (kV (KeyT.k j)) → Val tx σ H z → Val (tDGet2 td ty tx) σ H w := by
  obtain ⟨p, kvs, rfl, hp, a⟩ := D_rd r f
  obtain ⟨h1, h2⟩ := a.get j
  have isd : IsD H p := .inl ⟨kvs, .inl hp⟩
  cases q : valT m j with
  | none => exact ⟨z, hz, fun _ _ _ _ hd hy hx Q k => hd _ ⟨p, rfl, isd, hy _ (hx _ ⟨none, by rw [← h2 q]; exact DGet.k hp, k⟩)⟩⟩
  | some x' =>
    obtain ⟨w, h3, h4⟩ := h1 x' q
    exact ⟨w, h4, fun _ _ _ _ hd hy hx Q k => hd _ ⟨p, rfl, isd, hy _ (hx _ ⟨some w, by rw [← h3]; exact DGet.k hp, k⟩)⟩⟩
/-- d[k] = v, v evaluated -/
theorem d_put (r : XD e H0 F H p m) (w : Wf F0 H0 F H) (hl : m.length < 1000000) (rv : e.r F v x) (hd : Val td σ H (.ref p)) (hy : Val ty σ H (kV (KeyT.k j))) (k : ∀ H', Wf F0 H0 F H' → XD e H0 F H' p (putT m j x) → (∀ q o, H q = some o → q ≠ p → H' q = some o) → D.nx σ H') :
    (fun v H1 => td σ H1 fun x H2 => ty σ H2 fun y H3 => ∃ a H4, x = .ref a ∧ DPut H3 a y v H4 ∧ D.nx σ H4) v H := by
  obtain ⟨kvs, a, b⟩ := r.x
  exact hd _ (hy _ ⟨p, _, rfl, DPut.k a.h (by rw [b.len]; exact small_len hl), k _ (w.set a) ⟨_, a.set, b.put rv⟩ fun q o h hq => by rw [upd_ne hq]; exact h⟩)
theorem e_dput (h : tv σ H fun v H1 => td σ H1 fun x H2 => ty σ H2 fun y H3 => ∃ a H4, x = .ref a ∧ DPut H3 a y v H4 ∧ D.nx σ H4) : sDPut td ty tv D σ H := h
end
/-! ### ways of a test or a truth that meet -/
section
variable {S : Type} {σ : L2.St} {H : Hp} {te ta tb : TE} {tt tu : TT} {Q : VK} {k : Bool → Prop}
theorem e_jnT {f : (Bool → Prop) → Prop} {Qt : Bool → Hp → Prop} (hW : jn f k) (Inv : Bool → Hp → Hp → Prop)
    (h1 : ∀ N : Bool → Hp → Prop, (∀ b F' H', Inv b F' H' → k b → N b H') → f k → tt σ H N) (h2 : ∀ b F' H', Inv b F' H' → k b → Qt b H') : tt σ H Qt :=
  h1 Qt (fun b F' H' q n => h2 b F' H' q n) hW
theorem e_jnV {f : (Bool → Prop) → Prop} (hW : jn f k) (Inv : Bool → Hp → Hp → Prop)
    (h1 : ∀ N : VK, (∀ b F' H', Inv b F' H' → k b → N (.bl b) H') → f k → te σ H N) (h2 : ∀ b F' H', Inv b F' H' → k b → Q (.bl b) H') : te σ H Q :=
  h1 Q (fun b F' H' q n => h2 b F' H' q n) hW
theorem e_tAnd {Qt : Bool → Hp → Prop} (h : tt σ H fun c H1 => if c = true then tu σ H1 Qt else Qt false H1) : tAnd tt tu σ H Qt := h
theorem e_tOr {Qt : Bool → Hp → Prop} (h : tt σ H fun c H1 => if c = true then Qt true H1 else tu σ H1 Qt) : tOr tt tu σ H Qt := h
theorem e_AndV (h : ta σ H fun x H1 => ∃ c, x = .bl c ∧ if c = true then tb σ H1 Q else Q (.bl false) H1) : tAndV ta tb σ H Q := h
theorem e_OrV (h : ta σ H fun x H1 => ∃ c, x = .bl c ∧ if c = true then Q (.bl true) H1 else tb σ H1 Q) : tOrV ta tb σ H Q := h
theorem e_NotV (h : ta σ H fun x H1 => ∃ c, x = .bl c ∧ Q (.bl (!c)) H1) : tNotV ta σ H Q := h
theorem bl_if {b : Bool} {A B : Prop} (h : if b = true then A else B) : ∃ c, V.bl b = .bl c ∧ if c = true then A else B := ⟨b, rfl, h⟩
theorem bl_v {b : Bool} {A : Bool → Prop} (h : A b) : ∃ c, V.bl b = .bl c ∧ A c := ⟨b, rfl, h⟩
end
end Wk

namespace Wk
theorem dec_nt {b : Bool} : (!b) = decide (¬ (b = true)) := by cases b <;> rfl
end Wk

namespace Wk.LR
open PySem PyProof.Rows L2
section
variable {prog : Program} {w : World} {A : Around} {E : Value → Shared → Prop} {s : Shared}
theorem extend_rev {R : Result → Shared → Prop} {it l : Addr} {items : Array Value} (hh : A.handled = none) (hit : s.heap.IsRevIter it l ((items.size : Int) - 1)) (hl : s.heap.IsList l items) (hne : l ≠ it) (hn : items.size ≤ sizeLine) (S : Addr) (res : Value) {c₀ : Nat} (hS : s.heap.get? S = some { cls := .type "list", data := .seq #[] c₀ })
    (hSl : S ≠ l)
    (hR : ∀ h' tk acc' c', (∀ b o, b ≠ S → b ≠ it → s.heap.get? b = some o → h'.get? b = some o) → h'.get? S = some { cls := .type "list", dict := none, data := .seq acc' c', slots := #[] } →
      ItemsOf (fun i v => items[items.size - 1 - i]? = some v) acc' items.size → R (.ok (.ret res)) { s with heap := h', toks := tk }) :
    wpAny (model prog w) A.in1 (Builtin.List.listExtendWith (.ref S) (.ref it) res)
      (fun fin s' => match fin with | .done f => R (.ok f) s' | .again c' => c'.quiet = true ∧ codeAny (model prog w) A c' R s') (fun e s' => R (.error e) s') s := by
  have hT : s.TypeIs (.ref it) "list_reverseiterator" := Heap.IsRevIter.typeIs hit
  have hSi : S ≠ it := fun e => by
    obtain ⟨o, ho, hc⟩ := hT
    rw [← e, hS] at ho; cases ho
    simp at hc
  have W := (Walks.listRev (prog := prog) (w := w) (A := A.in1) hh it l hne items).toS
  have hSf : S ∉ [it, l] := fun hm => by
    rcases List.mem_cons.mp hm with e | hm
    · exact hSi e
    · exact hSl (List.mem_singleton.mp hm)
  have h1 : Builtin.List.listSameRef (.ref S) (.ref it) = false := by simp [Builtin.List.listSameRef, hSi]
  unfold Builtin.List.listExtendWith
  refine wpAny_bind (wpAny_typeOf hT ?_)
  rw [if_neg (by rw [h1]; decide)]
  refine wpAny_bind (wpAny_pyIter_revIter hit ?_)
  refine wpAny_bind (wpAny_holding ?_)
  unfold Builtin.List.listLengthHint
  refine wpAny_bind (wpAny_specialOf hT RT.nolen_lri ?_)
  show wpAny _ A.in1 (specialOf (Value.ref it) (Str.ofString "__length_hint__") >>= _) _ _ _
  refine wpAny_bind (wpAny_specialOf hT RT.hint_lri ?_)
  generalize hid : ("list_reverseiterator.__length_hint__" : String) = id0
  wp_delta
  rw [show splitId id0 = some ("list_reverseiterator", "__length_hint__") from by subst hid; decide +kernel]
  subst hid
  refine wpAny_bind (wpAny_isInstance (b := true) hT (by rw [isSubtype_type]; kernel_rfl) ?_)
  refine wpAny_pure ?_
  rw [if_neg (by decide)]
  have e0 : ((items.size : Nat) : Int) - 1 - ((0 : Nat) : Int) = (items.size : Int) - 1 := by omega
  refine wpAny_pure ⟨plainId_quiet F.plain_extend_loop _, codeAny_extend_loopS W hn _ hSf _ items.size 0 _ _ _ rfl (Nat.zero_le _) ⟨Nat.zero_le _, by rw [e0]; exact hit, hl⟩ hS (ItemsOf.nil _) fun s' acc' c' hm hS' hacc => ?_⟩
  rw [Moved.eq_with hm]
  refine hR s'.heap s'.toks acc' c' (fun b o hb hb2 e => hm.heap b o (fun hmem => ?_) e) hS' hacc
  rcases List.mem_cons.mp hmem with e' | hmem
  · exact hb e'
  · exact hb2 (List.mem_singleton.mp hmem)
theorem call_list_rev {Q : Value → Shared → Prop} {it l : Addr} {items : Array Value} (hh : A.handled = none) (hit : s.heap.IsRevIter it l ((items.size : Int) - 1)) (hl : s.heap.IsList l items) (hne : l ≠ it) (hn : items.size ≤ sizeLine)
    (hQ : ∀ h' tk acc' c', (∀ b o, b ≠ it → s.heap.get? b = some o → h'.get? b = some o) →
      h'.get? s.heap.objs.size = some { cls := .type "list", dict := none, data := .seq acc' c', slots := #[] } → ItemsOf (fun i v => items[items.size - 1 - i]? = some v) acc' items.size → Q (.ref s.heap.objs.size) { s with heap := h', toks := tk }) :
    wpAny (model prog w) A (call (.type "list") [.ref it]) Q E s := by
  refine callType_codes (Q₁ := fun obj s₁ => obj = .ref s.heap.objs.size ∧ s₁ = { s with heap := s.heap.push { cls := .type "list", data := .seq #[] } }) F.called_list (F.typeCall_list_1 _) F.entry_list_init
    (code_list_new _ ⟨rfl, rfl⟩) fun obj s₁ h₁ => ?_
  obtain ⟨rfl, rfl⟩ := h₁
  have hS : (s.heap.push { cls := .type "list", data := .seq #[] }).get? s.heap.objs.size = some { cls := .type "list", data := .seq #[] } := Heap.get?_push_size _ rfl
  have hlt : l < s.heap.objs.size := let ⟨o, e, _⟩ := hl; Heap.lt_size e
  have hSl : s.heap.objs.size ≠ l := fun e => by rw [← e] at hlt; exact Nat.lt_irrefl _ hlt
  refine ⟨⟨_, hS, rfl⟩, F.args_list_init_2 _ _, ?_⟩
  show wpAny _ _ (do let old ← Builtin.List.listItems (.ref s.heap.objs.size); Builtin.List.listUpdate (.ref s.heap.objs.size) (fun _ => #[]); letGo old.toList.reverse; Builtin.List.listExtendWith (.ref s.heap.objs.size) (.ref it) .none) _ _ _
  refine wpAny_bind ?_
  unfold Builtin.List.listItems
  refine wpAny_bind (wpAny_seqItems hS rfl (wpAny_pure ?_))
  show wpAny _ _ (updateSeq s.heap.objs.size (fun _ => #[]) >>= fun _ => letGo (#[] : Array Value).toList.reverse >>= fun _ => Builtin.List.listExtendWith (.ref s.heap.objs.size) (.ref it) .none) _ _ _
  refine wpAny_bind (wpAny_updateSeq hS rfl ?_)
  obtain ⟨c₂, hS₂⟩ : ∃ c, ((s.heap.push { cls := .type "list", data := .seq #[] }).update s.heap.objs.size (Obj.mapSeq (fun _ => (#[] : Array Value)))).get? s.heap.objs.size = some { cls := .type "list", data := .seq #[] c } := ⟨_, Heap.get?_update_self (Obj.mapSeq (fun _ => (#[] : Array Value))) hS rfl⟩
  have oth : ∀ b o, b ≠ s.heap.objs.size → s.heap.get? b = some o → ((s.heap.push { cls := .type "list", data := .seq #[] }).update s.heap.objs.size (Obj.mapSeq (fun _ => (#[] : Array Value)))).get? b = some o :=
    fun b o hb e => (Heap.get?_update_other _ _ (Ne.symm hb)).trans (Heap.get?_push_of_some _ e)
  have oth2 : ∀ b o, s.heap.get? b = some o → ((s.heap.push { cls := .type "list", data := .seq #[] }).update s.heap.objs.size (Obj.mapSeq (fun _ => (#[] : Array Value)))).get? b = some o := fun b o e => oth b o (Nat.ne_of_lt (Heap.lt_size e)) e
  refine wpAny_bind (wpAny_letGo ?_)
  refine extend_rev (A := A.in1) (prog := prog) (w := w) (R := wants (fun r s₂ => r = Value.none ∧ Q (Value.ref s.heap.objs.size) s₂) E) (s := { s with heap := (s.heap.push { cls := .type "list", data := .seq #[] }).update s.heap.objs.size (Obj.mapSeq (fun _ => (#[] : Array Value))) }) (c₀ := c₂) hh (hit.at fun o e => oth2 _ _ e) (hl.at fun o e => oth2 _ _ e) hne hn _ .none hS₂ hSl fun h' tk acc' c' hk hS' hacc => ?_
  exact ⟨rfl, hQ h' tk acc' c' (fun b o hb e => hk b o (Nat.ne_of_lt (Heap.lt_size e)) hb (oth2 b o e)) hS' hacc⟩
end
end Wk.LR
namespace Wk
open PySem L2 PyProof.Rows
def rLstRev (K : PySem.W.Frag) (Q : VK) (v : V) (H1 : Hp) : Prop := ∃ (a : Addr) (xs : List V), v = .ref a ∧ SqL K H1 a xs ∧ ∀ q, H1 q = none → Q (.ref q) (upd H1 q (.lst xs.reverse))
def tLstRev (K : PySem.W.Frag) (te : TE) : TE := fun σ H Q => te σ H (rLstRev K Q)
theorem All.rev {α : Type} {e : Rep α} {F : Hp} : ∀ {vs : List V} {xs : List α}, All e F vs xs → All e F vs.reverse xs.reverse
  | [], [], _ => trivial
  | _ :: _, _ :: _, ⟨a, b⟩ => by rw [List.reverse_cons, List.reverse_cons]; exact (All.rev b).snoc a
  | [], _ :: _, q => q.elim
  | _ :: _, [], q => q.elim
theorem e_lrev {K : PySem.W.Frag} {te : TE} {σ : L2.St} {H : Hp} {Q : VK} (h : te σ H (rLstRev K Q)) : tLstRev K te σ H Q := h
theorem n_lrevX {α : Type} {e : Rep α} {K : PySem.W.Frag} {F0 H0 F H : Hp} {v : V} {xs : List α} {Q : VK} (r : (pL e).r F v xs) (w : Wf F0 H0 F H) (k : ∀ p H', H p = none → Wf F H F H' → XL e H0 F H' p xs.reverse → Q (.ref p) H') : rLstRev K Q v H := by
  obtain ⟨p, vs, rfl, hp, a⟩ := r
  exact ⟨p, vs, rfl, SqL.of (w.f _ _ hp), fun l hl => k l _ hl (Wf.newX w.f hl) ⟨vs.reverse, Xc.mk' w hl, a.rev⟩⟩
theorem n_lrevXX {α : Type} {e : Rep α} {K : PySem.W.Frag} {F0 H0 F H : Hp} {q : Addr} {xs : List α} {Q : VK} (r : XL e H0 F H q xs) (w : Wf F0 H0 F H) (k : ∀ p H', H p = none → Wf F H F H' → XL e H0 F H' p xs.reverse → Q (.ref p) H') : rLstRev K Q (.ref q) H := by
  obtain ⟨vs, hp, a⟩ := r.rd
  exact ⟨q, vs, rfl, SqL.of hp, fun l hl => k l _ hl (Wf.newX w.f hl) ⟨vs.reverse, Xc.mk' w hl, a.rev⟩⟩
section
variable {X : Cx}
theorem pe_lstRev {e : Expr} {te : TE} {p p2 pos pos2 : Pos} (hc : X.calm = true) (hg : Gl X "list") (hm : X.mg "list" = none) (hg2 : Gl X "reversed") (hm2 : X.mg "reversed" = none) (he : PE X e te)
    (hs : starEach [e] X.env = (false, eval e X.env) :: starEach [] X.env := by rfl)
    (hs2 : starEach [.Call (.Name "reversed" p2) [e] [] pos2] X.env = (false, eval (.Call (.Name "reversed" p2) [e] [] pos2) X.env) :: starEach [] X.env := by rfl) :
    PE X (.Call (.Name "list" p) [.Call (.Name "reversed" p2) [e] [] pos2] [] pos) (tLstRev X.K te) := by
  refine ⟨fun pins s σ H Q I h => ?_⟩
  refine Call_ (ld_blt I hg hm PyProof.Rows.boot_list (PyProof.Rows.callWith_type1 (args_cons (Call_ (ld_blt I hg2 hm2 PyProof.Rows.boot_reversed (PyProof.Rows.callWith_type1 (args_cons (thn (he.run pins s σ H _ I h) fun u s1 ⟨v, H1, I1, r1, q1⟩ => args_nil ?_) hs) hs rfl))) hs2) hs2 rfl))
  obtain ⟨a, xs, ev, hq, q⟩ := q1
  subst ev
  obtain rfl : u = Value.ref a := r1
  obtain ⟨its, rv, p', hz⟩ := I1.list hq
  refine call_reversed_list p'.isList (args_nil ?_)
  have k0 : ∀ b o, s1.heap.get? b = some o → (s1.heap.push (revObj a ((its.toArray.size : Int) - 1))).get? b = some o := fun b o e => Heap.get?_push_of_some _ e
  have hl := p'.isList
  obtain ⟨ol, hol, _⟩ := id hl
  have hne : a ≠ s1.heap.objs.size := Nat.ne_of_lt (Heap.lt_size hol)
  have hn : its.toArray.size ≤ sizeLine := by rw [List.size_toArray, ← rv.length]; exact hz
  refine LR.call_list_rev (s := { s1 with heap := s1.heap.push (revObj a ((its.toArray.size : Int) - 1)) }) (I1.ok.hd hc) ⟨_, Heap.get?_push_size _ rfl, rfl, rfl⟩ (hl.push _) hne hn fun h' tk acc c' hk hS hi => ?_
  have hsz : (s1.heap.push (revObj a ((its.toArray.size : Int) - 1))).objs.size = s1.heap.objs.size + 1 := Heap.size_push _ _
  rw [hsz] at hS
  exact ⟨.ref (s1.heap.objs.size + 1), upd H1 (s1.heap.objs.size + 1) (.lst xs.reverse), I1.laid (t' := tk) (fun b u e => hk b u (Nat.ne_of_lt (Heap.lt_size e)) (k0 b u e)) (Nat.le_succ _) (show ObjOk X.prog X.w _ _ _ (.lst xs.reverse) from
    ⟨by rw [List.length_reverse]; exact hz, acc.toList, c', RT.vals_rev rv hi, by rw [Array.toArray_toList]; exact hS⟩), congrArg Value.ref hsz, q _ (I1.hok.fresh (Nat.le_succ _))⟩
end
end Wk
/-! Pl: plain lemmas that no law owns. -/
namespace Wk
section
variable {α β S : Type}
theorem forW_ind {xs : List α} {s : S} {body : α → S → (S → Prop) → (S → Prop) → Prop} {k : S → Prop} (P : List α → S → Prop) (h0 : P [] s)
    (hb : ∀ pre x post s nx bk, xs = pre ++ x :: post → P pre s → (∀ s', P (pre ++ [x]) s' → nx s') → (∀ s', k s' → bk s') → body x s nx bk)
    (hk : ∀ s, P xs s → k s) : forW xs s body k := by
  suffices h : ∀ (post pre : List α) (s : S), xs = pre ++ post → P pre s → forW post s body k from h xs [] s rfl h0
  intro post
  induction post with
  | nil => intro pre s e p; rw [List.append_nil] at e; subst e; exact hk s p
  | cons x post ih => intro pre s e p; exact hb pre x post s _ _ e p (fun s' p' => ih (pre ++ [x]) s' (by rw [e, List.append_assoc]; rfl) p') (fun _ h => h)
theorem forW_foldI {xs : List α} {s : S} {body : α → S → (S → Prop) → (S → Prop) → Prop} {k : S → Prop} (f : S → α → S) (I : S → Prop) (h0 : I s)
    (hb : ∀ x ∈ xs, ∀ s nx bk, I s → (I (f s x) → nx (f s x)) → body x s nx bk) (hi : ∀ x ∈ xs, ∀ s, I s → I (f s x))
    (hk : I (xs.foldl f s) → k (xs.foldl f s)) : forW xs s body k := by
  induction xs generalizing s with
  | nil => exact hk h0
  | cons x xs ih =>
    refine hb x (List.mem_cons_self ..) s _ _ h0 fun h1 => ih (s := f s x) h1 (fun y hy => hb y (List.mem_cons_of_mem _ hy)) (fun y hy => hi y (List.mem_cons_of_mem _ hy)) hk
theorem forW_fold {xs : List α} {s : S} {body : α → S → (S → Prop) → (S → Prop) → Prop} {k : S → Prop} (f : S → α → S)
    (hb : ∀ x ∈ xs, ∀ s nx bk, nx (f s x) → body x s nx bk) (hk : k (xs.foldl f s)) : forW xs s body k :=
  forW_foldI f (fun _ => True) trivial (fun x hx s nx bk _ h => hb x hx s nx bk (h trivial)) (fun _ _ _ _ => trivial) fun _ => hk
theorem forW_unit {xs : List α} {body : α → Unit → (Unit → Prop) → (Unit → Prop) → Prop} {k : Unit → Prop}
    (hb : ∀ x ∈ xs, ∀ nx bk, nx () → body x () nx bk) (hk : k ()) : forW xs () body k :=
  forW_fold (fun s _ => s) (fun x hx _ nx bk h => hb x hx nx bk h) hk
theorem compG_fm {xs : List α} {acc : List β} {b : α → (Option β → Prop) → Prop} {k : List β → Prop} (f : α → Option β) (hb : ∀ x ∈ xs, ∀ kk, kk (f x) → b x kk) (hk : k (acc ++ xs.filterMap f)) : compG xs acc b k := by
  induction xs generalizing acc with
  | nil => simpa [compG] using hk
  | cons x xs ih =>
    refine hb x (List.mem_cons_self ..) _ (ih (fun y hy => hb y (List.mem_cons_of_mem _ hy)) ?_)
    rw [List.filterMap_cons] at hk
    cases h : f x with
    | none => rw [h] at hk; simpa using hk
    | some y => rw [h] at hk; simpa using hk
theorem compW_fm {xs : List α} {b : α → (Option β → Prop) → Prop} {k : List β → Prop} (f : α → Option β) (hb : ∀ x ∈ xs, ∀ kk, kk (f x) → b x kk) (hk : k (xs.filterMap f)) : compW xs b k :=
  compG_fm f hb (by simpa using hk)
theorem compW_map {xs : List α} {b : α → (Option β → Prop) → Prop} {k : List β → Prop} (f : α → β) (hb : ∀ x ∈ xs, ∀ kk, kk (some (f x)) → b x kk) (hk : k (xs.map f)) : compW xs b k :=
  compW_fm (fun x => some (f x)) hb (by rw [show (fun x => some (f x)) = some ∘ f from rfl, List.filterMap_eq_map]; exact hk)
theorem compW_filter {xs : List α} {b : α → (Option α → Prop) → Prop} {k : List α → Prop} (p : α → Bool) (hb : ∀ x ∈ xs, ∀ kk, (p x = true → kk (some x)) → (p x = false → kk none) → b x kk) (hk : k (xs.filter p)) : compW xs b k :=
  compW_fm (fun x => if p x = true then some x else none) (fun x hx kk h => hb x hx kk (fun e => by simpa [e] using h) (fun e => by simpa [e] using h)) (by
    have : (fun x => if p x = true then some x else none) = Option.guard (fun x => p x) := by funext x; by_cases h : p x = true <;> simp [Option.guard, h]
    rw [this, List.filterMap_eq_filter]; exact hk)
theorem whileW_of {test : S → (Bool → Prop) → Prop} {body : S → (S → Prop) → (S → Prop) → Prop} {s : S} {k : S → Prop} (I : S → Prop) (μ : S → Nat) (h0 : I s)
    (hb : ∀ s, I s → test s fun b => if b = true then body s (fun s' => (μ s' < μ s ∧ I s')) k else k s) (hm : ∀ {s p q}, (∀ x, p x → q x) → (test s fun b => if b = true then body s p k else k s) → (test s fun b => if b = true then body s q k else k s)) : whileW test body s k :=
  ⟨fun m s => m = μ s ∧ I s, ⟨_, rfl, h0⟩, fun m s ⟨e, h⟩ => hm (fun s' ⟨a, b⟩ => ⟨μ s', by rw [e]; exact a, rfl, b⟩) (hb s h)⟩
theorem forW_append {xs ys : List α} {s : S} {body : α → S → (S → Prop) → (S → Prop) → Prop} {k : S → Prop} : forW (xs ++ ys) s body k = forW xs s (fun x s nx bk => body x s nx k) (fun s => forW ys s body k) := by
  induction xs generalizing s with
  | nil => rfl
  | cons x xs ih =>
    show body x s (fun s' => forW (xs ++ ys) s' body k) k = body x s (fun s' => forW xs s' _ _) k
    simp only [ih]
/-- a comprehension whose turns are told by what they may give -/
def CR (P : α → Option β → Prop) : List α → List β → Prop
  | [], ys => ys = []
  | x :: xs, ys => ∃ o ys', P x o ∧ ys = o.toList ++ ys' ∧ CR P xs ys'
theorem compG_rel {xs : List α} {acc : List β} {b : α → (Option β → Prop) → Prop} {k : List β → Prop} (P : α → Option β → Prop) (hb : ∀ x ∈ xs, ∀ kk, (∀ o, P x o → kk o) → b x kk) (hk : ∀ ys, CR P xs ys → k (acc ++ ys)) : compG xs acc b k := by
  induction xs generalizing acc with
  | nil => have := hk [] rfl; rwa [List.append_nil] at this
  | cons x xs ih =>
    refine hb x (List.mem_cons_self ..) _ fun o ho => ih (fun y hy => hb y (List.mem_cons_of_mem _ hy)) fun ys hy => ?_
    rw [List.append_assoc]
    exact hk _ ⟨o, ys, ho, rfl, hy⟩
theorem compW_rel {xs : List α} {b : α → (Option β → Prop) → Prop} {k : List β → Prop} (P : α → Option β → Prop) (hb : ∀ x ∈ xs, ∀ kk, (∀ o, P x o → kk o) → b x kk) (hk : ∀ ys, CR P xs ys → k ys) : compW xs b k := compG_rel P hb fun ys h => by rw [List.nil_append]; exact hk ys h
theorem jnI {f : (S → Prop) → Prop} {k : S → Prop} (h : f k) : jn f k := h
/-- a while loop without a measure that must be told -/
theorem whileW_ind {test : S → (Bool → Prop) → Prop} {body : S → (S → Prop) → (S → Prop) → Prop} {s : S} {k : S → Prop} (I : S → Prop) (μ : S → Nat) (h0 : I s)
    (hb : ∀ s (nx : S → Prop), I s → (∀ s', I s' → μ s' < μ s → nx s') → test s fun b => if b = true then body s nx k else k s) : whileW test body s k :=
  ⟨fun m s => m = μ s ∧ I s, ⟨_, rfl, h0⟩, fun m s ⟨e, h⟩ => hb s _ h fun s' h' hl => ⟨μ s', by rw [e]; exact hl, rfl, h'⟩⟩
end
end Wk
/-! Bt: masks as sets of bits. -/
namespace Wk
theorem halfBit (n i : Nat) : (n / 2).testBit i = n.testBit (i + 1) := by rw [Nat.testBit_add_one]
theorem half_xor (a b : Nat) : (a ^^^ b) / 2 = a / 2 ^^^ b / 2 := Nat.eq_of_testBit_eq fun i => by rw [Nat.testBit_xor, halfBit, halfBit, halfBit, Nat.testBit_xor]
theorem half_and (a b : Nat) : (a &&& b) / 2 = a / 2 &&& b / 2 := Nat.eq_of_testBit_eq fun i => by rw [Nat.testBit_and, halfBit, halfBit, halfBit, Nat.testBit_and]
/-- is the number of bits odd? -/
def par (n : Nat) : Bool := if h : n = 0 then false else xor (n.testBit 0) (par (n / 2))
termination_by n
decreasing_by omega
theorem par_zero : par 0 = false := by rw [par]; simp
theorem par_step (n : Nat) : par n = xor (n.testBit 0) (par (n / 2)) := by
  by_cases h : n = 0
  · subst h; simp [par_zero]
  · rw [par, dif_neg h]
theorem par_xor : ∀ a b : Nat, par (a ^^^ b) = xor (par a) (par b) := by
  intro a
  induction a using Nat.strongRecOn with
  | ind a ih =>
    intro b
    by_cases h : a = 0
    · subst h; simp [par_zero]
    · rw [par_step (a ^^^ b), par_step a, par_step b, half_xor, ih (a / 2) (by omega), Nat.testBit_xor]
      cases a.testBit 0 <;> cases b.testBit 0 <;> cases par (a / 2) <;> cases par (b / 2) <;> rfl
theorem par_two_pow (k : Nat) : par (2 ^ k) = true := by
  induction k with
  | zero => rw [par_step]; simp [par_zero]
  | succ k ih =>
    rw [par_step, Nat.testBit_two_pow]
    have e : 2 ^ (k + 1) / 2 = 2 ^ k := by rw [Nat.pow_succ]; omega
    rw [e, ih]; simp
/-- the places of the bits below k -/
def bl (k n : Nat) : List Nat := (List.range k).filter n.testBit
theorem mem_bl {k n j : Nat} : j ∈ bl k n ↔ j < k ∧ n.testBit j = true := by simp [bl, List.mem_filter, List.mem_range]
theorem bl_len (k n : Nat) : (bl k n).length ≤ k := by
  have := List.length_filter_le n.testBit (List.range k)
  rw [List.length_range] at this; exact this
theorem bl_nodup (k n : Nat) : (bl k n).Nodup := (List.nodup_range).filter _
theorem bl_snoc (k n : Nat) : bl (k + 1) n = bl k n ++ if n.testBit k = true then [k] else [] := by
  unfold bl
  rw [List.range_succ, List.filter_append]
  by_cases h : n.testBit k = true
  · rw [if_pos h, List.filter_cons_of_pos h]; rfl
  · rw [if_neg h, List.filter_cons_of_neg h]; rfl
theorem bl_more {p k n : Nat} (h : p ≤ k) (z : n >>> p = 0) : bl k n = bl p n := by
  induction k with
  | zero => have : p = 0 := by omega
            subst this; rfl
  | succ k ih =>
    by_cases e : p = k + 1
    · subst e; rfl
    · rw [bl_snoc, ih (by omega)]
      have : n.testBit k = false := by
        have a : (n >>> p).testBit (k - p) = n.testBit (p + (k - p)) := Nat.testBit_shiftRight ..
        rw [z, Nat.zero_testBit] at a
        rw [show p + (k - p) = k by omega] at a
        exact a.symm
      simp [this]
theorem par_bl {k : Nat} : ∀ {n : Nat}, n < 2 ^ k → par n = decide ((bl k n).length % 2 = 1) := by
  induction k with
  | zero => intro n h; have : n = 0 := by simpa using h
            subst this; simp [par_zero, bl]
  | succ k ih =>
    intro n h
    have e : (bl (k + 1) n).length = (n.testBit 0).toNat + (bl k (n / 2)).length := by
      unfold bl
      rw [List.range_succ_eq_map, List.filter_cons]
      have m : (List.map Nat.succ (List.range k)).filter n.testBit = ((List.range k).filter (n / 2).testBit).map Nat.succ := by
        rw [List.filter_map]
        congr 1
        refine List.filter_congr fun x _ => ?_
        show n.testBit (x + 1) = (n / 2).testBit x
        rw [halfBit]
      rw [m]
      cases n.testBit 0 <;> simp [List.length_map] <;> omega
    rw [par_step, ih (n := n / 2) (by rw [Nat.pow_succ] at h; omega), e]
    cases n.testBit 0
    · simp
    · simp only [Bool.toNat_true]
      by_cases q : (bl k (n / 2)).length % 2 = 1
      · simp [q]; omega
      · simp [q]; omega
/-- the mask of places, each as often as it stands there -/
def mofI (m : Nat) (ps : List Nat) : Nat := ps.foldl (fun m p => m ^^^ 2 ^ p) m
def mof (ps : List Nat) : Nat := mofI 0 ps
theorem mofI_bit (ps : List Nat) (m j : Nat) : (mofI m ps).testBit j = xor (m.testBit j) (decide (ps.count j % 2 = 1)) := by
  induction ps generalizing m with
  | nil => simp [mofI]
  | cons p ps ih =>
    show (mofI (m ^^^ 2 ^ p) ps).testBit j = _
    rw [ih, Nat.testBit_xor, Nat.testBit_two_pow, List.count_cons]
    by_cases h : p = j
    · subst h
      by_cases q : ps.count p % 2 = 1
      · simp [q]; cases m.testBit p <;> simp <;> omega
      · simp [q]; cases m.testBit p <;> simp <;> omega
    · simp [h]
theorem mof_bit (ps : List Nat) (j : Nat) : (mof ps).testBit j = decide (ps.count j % 2 = 1) := by
  unfold mof; rw [mofI_bit, Nat.zero_testBit, Bool.false_xor]
theorem mofI_xor (ps : List Nat) (m : Nat) : mofI m ps = m ^^^ mof ps := Nat.eq_of_testBit_eq fun j => by rw [mofI_bit, Nat.testBit_xor, mof_bit]
theorem mof_append (ps qs : List Nat) : mof (ps ++ qs) = mof ps ^^^ mof qs := Nat.eq_of_testBit_eq fun j => by
  rw [Nat.testBit_xor, mof_bit, mof_bit, mof_bit, List.count_append]
  by_cases a : ps.count j % 2 = 1 <;> by_cases b : qs.count j % 2 = 1 <;> simp [a, b] <;> omega
theorem mof_reverse (ps : List Nat) : mof ps.reverse = mof ps := Nat.eq_of_testBit_eq fun j => by rw [mof_bit, mof_bit, List.count_reverse]
theorem testBit_big {n k j : Nat} (h : n < 2 ^ k) (hj : k ≤ j) : n.testBit j = false := Nat.testBit_lt_two_pow (Nat.lt_of_lt_of_le h (Nat.pow_le_pow_right (by decide) hj))
theorem count_bl {k n j : Nat} : (bl k n).count j = if j < k ∧ n.testBit j = true then 1 else 0 := by
  by_cases h : j < k ∧ n.testBit j = true
  · rw [if_pos h]
    exact Nat.le_antisymm (List.nodup_iff_count.mp (bl_nodup k n) j) (List.count_pos_iff.mpr (mem_bl.mpr h))
  · rw [if_neg h]
    exact List.count_eq_zero.mpr fun z => h (mem_bl.mp z)
theorem mof_bl {k n : Nat} (h : n < 2 ^ k) : mof (bl k n) = n := Nat.eq_of_testBit_eq fun j => by
  rw [mof_bit, count_bl]
  by_cases a : j < k
  · by_cases b : n.testBit j = true <;> simp [a, b]
  · have : n.testBit j = false := testBit_big h (Nat.le_of_not_lt a)
    simp [a, this]
/-! dicts -/
section
variable {κ α : Type} [DecidableEq κ] [KeyT κ]
theorem valT_nil (j : κ) : valT ([] : List (κ × α)) j = none := rfl
theorem valT_app {m : List (κ × α)} {j i : κ} {x : α} (h : hasT m j = false) : valT (m ++ [(j, x)]) i = if j = i then some x else valT m i := by
  induction m with
  | nil => show valT [(j, x)] i = _; rw [valT_cons]
  | cons q m ih =>
    have h' : q.1 ≠ j ∧ hasT m j = false := by
      unfold hasT at h ⊢
      rw [valT_cons] at h
      by_cases e : q.1 = j
      · rw [if_pos e] at h; cases h
      · rw [if_neg e] at h; exact ⟨e, h⟩
    rw [List.cons_append, valT_cons, valT_cons, ih h'.2]
    by_cases e : q.1 = i
    · rw [if_pos e, if_pos e, if_neg]
      intro z; exact h'.1 (e.trans z.symm)
    · rw [if_neg e, if_neg e]
theorem valT_map {m : List (κ × α)} {j i : κ} {x : α} : valT (m.map fun q => if q.1 = j then (q.1, x) else q) i = if j = i ∧ hasT m j = true then some x else valT m i := by
  induction m with
  | nil => show none = _; rw [if_neg (fun z => by cases z.2)]; rfl
  | cons q m ih =>
    rw [List.map_cons, valT_cons, valT_cons, ih]
    have hh : hasT (q :: m) j = if q.1 = j then true else hasT m j := by
      unfold hasT; rw [valT_cons]
      by_cases e : q.1 = j
      · rw [if_pos e, if_pos e]; rfl
      · rw [if_neg e, if_neg e]
    rw [hh]
    by_cases e : q.1 = j
    · rw [if_pos e, if_pos e]
      by_cases f : q.1 = i
      · rw [if_pos f, if_pos ⟨e.symm.trans f, rfl⟩]
      · rw [if_neg f, if_neg (fun z => f (e.trans z.1)), if_neg (fun z => f (e.trans z.1)), if_neg f]
    · rw [if_neg e, if_neg e]
      by_cases f : q.1 = i
      · rw [if_pos f, if_neg (fun z => e (f.trans z.1.symm))]
        rw [if_pos f]
      · rw [if_neg f, if_neg f]
theorem valT_putT {m : List (κ × α)} {j i : κ} {x : α} : valT (putT m j x) i = if j = i then some x else valT m i := by
  unfold putT
  cases h : hasT m j with
  | true =>
    rw [if_pos rfl, valT_map]
    by_cases e : j = i
    · rw [if_pos ⟨e, h⟩, if_pos e]
    · rw [if_neg (fun z => e z.1), if_neg e]
  | false => rw [if_neg (by simp), valT_app h]
theorem hasT_putT {m : List (κ × α)} {j i : κ} {x : α} : hasT (putT m j x) i = (decide (j = i) || hasT m i) := by
  unfold hasT; rw [valT_putT]
  by_cases e : j = i
  · rw [if_pos e, decide_eq_true e]; rfl
  · rw [if_neg e, decide_eq_false e]; rfl
theorem hasT_iff {m : List (κ × α)} {j : κ} : hasT m j = true ↔ j ∈ m.map (·.1) := by
  induction m with
  | nil => exact ⟨fun h => (by cases h), fun h => (by cases h)⟩
  | cons q m ih =>
    unfold hasT at ih ⊢
    rw [valT_cons, List.map_cons, List.mem_cons]
    by_cases e : q.1 = j
    · rw [if_pos e]; exact ⟨fun _ => .inl e.symm, fun _ => rfl⟩
    · rw [if_neg e, ih]; exact ⟨.inr, fun h => h.resolve_left fun z => e z.symm⟩
theorem putT_len {m : List (κ × α)} {j : κ} {x : α} : (putT m j x).length ≤ m.length + 1 := by
  unfold putT
  by_cases h : hasT m j = true
  · rw [if_pos h, List.length_map]; omega
  · rw [if_neg h, List.length_append]; exact Nat.le_refl _
end
theorem NDiv_pow {k : Nat} (h : k < 9000) : NDiv (2 ^ k) := ⟨Nat.two_pow_pos k, by rw [Nat.log2_two_pow]; exact h⟩
end Wk
/-! Gf: sums of masks. -/
namespace Wk
/-! the size of a number -/
theorem bits_zero : bits 0 = 0 := rfl
theorem bits_le {n k : Nat} : bits n ≤ k ↔ n < 2 ^ k := by
  unfold bits
  by_cases h : n = 0
  · subst h; simp [Nat.two_pow_pos]
  · rw [if_neg h]
    exact ⟨fun z => (Nat.log2_lt h).mp (Nat.lt_of_succ_le z), fun z => Nat.succ_le_of_lt ((Nat.log2_lt h).mpr z)⟩
theorem lt_bits (n : Nat) : n < 2 ^ bits n := bits_le.mp (Nat.le_refl _)
theorem bits_pos {n : Nat} (h : n ≠ 0) : 0 < bits n := by unfold bits; rw [if_neg h]; exact Nat.succ_pos _
theorem bits_eq_zero {n : Nat} : bits n = 0 ↔ n = 0 := ⟨fun h => by
  by_cases e : n = 0
  · exact e
  · have := bits_pos e; omega, fun h => by subst h; rfl⟩
theorem bits_ge {n k : Nat} (h : n.testBit k = true) : k < bits n := by
  refine Nat.lt_of_not_le fun z => ?_
  rw [testBit_big (bits_le.mp z) (Nat.le_refl _)] at h; cases h
theorem bits_bit {n : Nat} (h : n ≠ 0) : n.testBit (bits n - 1) = true := by
  have hp := bits_pos h
  have h1 : n < 2 ^ (bits n - 1 + 1) := by rw [Nat.sub_add_cancel hp]; exact lt_bits n
  have h2 : 2 ^ (bits n - 1) ≤ n := by
    refine Nat.le_of_not_lt fun z => ?_
    have := bits_le.mpr z
    omega
  rw [Nat.testBit_eq_decide_div_mod_eq, decide_eq_true_iff]
  have h3 : n / 2 ^ (bits n - 1) = 1 := by
    refine Nat.le_antisymm ?_ ?_
    · refine Nat.le_of_lt_succ (Nat.div_lt_of_lt_mul ?_)
      rw [Nat.pow_succ] at h1; exact h1
    · exact (Nat.one_le_div_iff (Nat.two_pow_pos _)).mpr h2
  rw [h3]
theorem bits_of_bit {n k : Nat} (h : n.testBit k = true) (h2 : n < 2 ^ (k + 1)) : bits n = k + 1 := Nat.le_antisymm (bits_le.mpr h2) (bits_ge h)
theorem bits_xor_ne {u l : Nat} (h : bits u < bits l) : bits (u ^^^ l) = bits l := by
  have hl : l ≠ 0 := fun z => by subst z; rw [bits_zero] at h; omega
  have hp := bits_pos hl
  have e : bits l - 1 + 1 = bits l := Nat.sub_add_cancel hp
  rw [← e]
  refine bits_of_bit ?_ ?_
  · rw [Nat.testBit_xor, bits_bit hl, testBit_big (lt_bits u) (by omega)]; rfl
  · rw [e]; exact Nat.xor_lt_two_pow (Nat.lt_trans (lt_bits u) (Nat.pow_lt_pow_right (by decide) h)) (lt_bits l)
theorem bits_xor_max {u l : Nat} (h : bits u ≠ bits l) : bits (u ^^^ l) = max (bits u) (bits l) := by
  rcases Nat.lt_or_gt_of_ne h with q | q
  · rw [bits_xor_ne q, Nat.max_eq_right (Nat.le_of_lt q)]
  · rw [Nat.xor_comm, bits_xor_ne q, Nat.max_eq_left (Nat.le_of_lt q)]
theorem bits_xor_eq {u l : Nat} (h : bits u = bits l) (hu : u ≠ 0) : bits (u ^^^ l) < bits u := by
  have hl : l ≠ 0 := fun z => by subst z; rw [bits_zero] at h; exact hu (bits_eq_zero.mp h)
  have hp := bits_pos hu
  refine Nat.lt_of_le_of_ne (bits_le.mpr (Nat.xor_lt_two_pow (lt_bits u) (by rw [h]; exact lt_bits l))) fun z => ?_
  have n0 : u ^^^ l ≠ 0 := fun q => by rw [q, bits_zero] at z; omega
  have := bits_bit n0
  rw [z, Nat.testBit_xor, bits_bit hu, h, bits_bit hl] at this
  cases this
theorem xor0 {a b : Nat} (h : a ^^^ b = 0) : a = b := by
  have e : (a ^^^ b) ^^^ b = b := by rw [h, Nat.zero_xor]
  rw [Nat.xor_assoc, Nat.xor_self, Nat.xor_zero] at e; exact e
/-! sums of rows -/
def comb : List Nat → Nat → Nat
  | [], _ => 0
  | r :: rs, S => (if S.testBit 0 = true then r else 0) ^^^ comb rs (S / 2)
theorem comb_xor : ∀ (rs : List Nat) (S T : Nat), comb rs (S ^^^ T) = comb rs S ^^^ comb rs T
  | [], _, _ => by simp [comb]
  | r :: rs, S, T => by
    show (if (S ^^^ T).testBit 0 = true then r else 0) ^^^ comb rs ((S ^^^ T) / 2) = _
    rw [half_xor, comb_xor rs, Nat.testBit_xor]
    show _ = ((if S.testBit 0 = true then r else 0) ^^^ comb rs (S / 2)) ^^^ ((if T.testBit 0 = true then r else 0) ^^^ comb rs (T / 2))
    generalize comb rs (S / 2) = a
    generalize comb rs (T / 2) = b
    cases S.testBit 0 <;> cases T.testBit 0
    · simp
    · simp only [Bool.false_xor, if_true, Bool.false_eq_true, if_false, Nat.zero_xor]
      rw [← Nat.xor_assoc, ← Nat.xor_assoc, Nat.xor_comm a r]
    · simp only [Bool.xor_false, if_true, Bool.false_eq_true, if_false, Nat.zero_xor]
      rw [Nat.xor_assoc]
    · simp only [Bool.xor_self, if_true, Bool.false_eq_true, if_false, Nat.zero_xor]
      rw [Nat.xor_comm r b, ← Nat.xor_assoc, Nat.xor_assoc (r ^^^ a), ]
      rw [Nat.xor_comm r a, Nat.xor_assoc a r, ← Nat.xor_assoc r b r, Nat.xor_comm r b, Nat.xor_assoc b r r, Nat.xor_self, Nat.xor_zero]
theorem comb_zero : ∀ rs : List Nat, comb rs 0 = 0
  | [] => rfl
  | r :: rs => by show (if Nat.testBit 0 0 = true then r else 0) ^^^ comb rs (0 / 2) = 0; rw [Nat.zero_div, comb_zero rs]; simp
theorem comb_ext : ∀ {rs : List Nat} {S T : Nat}, (∀ j, j < rs.length → S.testBit j = T.testBit j) → comb rs S = comb rs T
  | [], _, _, _ => rfl
  | r :: rs, S, T, h => by
    show (if S.testBit 0 = true then r else 0) ^^^ comb rs (S / 2) = (if T.testBit 0 = true then r else 0) ^^^ comb rs (T / 2)
    rw [h 0 (by simp), comb_ext (rs := rs) (S := S / 2) (T := T / 2) fun j hj => by
      rw [halfBit, halfBit]; exact h (j + 1) (by simpa using hj)]
theorem comb_snoc : ∀ (rs : List Nat) (r S : Nat), comb (rs ++ [r]) S = comb rs S ^^^ if S.testBit rs.length = true then r else 0
  | [], r, S => by simp [comb]
  | q :: rs, r, S => by
    show (if S.testBit 0 = true then q else 0) ^^^ comb (rs ++ [r]) (S / 2) = _
    rw [comb_snoc rs, halfBit]
    show _ = ((if S.testBit 0 = true then q else 0) ^^^ comb rs (S / 2)) ^^^ _
    rw [← Nat.xor_assoc]; rfl
theorem comb_lt : ∀ {rs : List Nat} {S k : Nat}, (∀ r ∈ rs, r < 2 ^ k) → comb rs S < 2 ^ k
  | [], _, _, _ => Nat.two_pow_pos _
  | r :: rs, S, k, h => by
    refine Nat.xor_lt_two_pow ?_ (comb_lt fun x hx => h x (List.mem_cons_of_mem _ hx))
    by_cases q : S.testBit 0 = true
    · rw [if_pos q]; exact h r (List.mem_cons_self ..)
    · rw [if_neg q]; exact Nat.two_pow_pos _
theorem comb_pow_len (rs : List Nat) : comb rs (2 ^ rs.length) = 0 := by
  rw [← comb_zero rs]
  refine comb_ext fun j hj => ?_
  rw [Nat.testBit_two_pow, Nat.zero_testBit, decide_eq_false (by omega)]
theorem comb_map (f : Nat → Nat) (h0 : f 0 = 0) (hf : ∀ a b, f (a ^^^ b) = f a ^^^ f b) : ∀ (vs : List Nat) (S : Nat), comb (vs.map f) S = f (comb vs S)
  | [], _ => h0.symm
  | v :: vs, S => by
    show (if S.testBit 0 = true then f v else 0) ^^^ comb (vs.map f) (S / 2) = f ((if S.testBit 0 = true then v else 0) ^^^ comb vs (S / 2))
    rw [comb_map f h0 hf vs, hf]
    by_cases q : S.testBit 0 = true
    · rw [if_pos q, if_pos q]
    · rw [if_neg q, if_neg q, h0]
/-- the sums of the rows -/
def Span (vs : List Nat) (v : Nat) : Prop := ∃ S, comb vs S = v
theorem Span.zero (vs : List Nat) : Span vs 0 := ⟨0, comb_zero vs⟩
theorem Span.xor {vs : List Nat} {u v : Nat} : Span vs u → Span vs v → Span vs (u ^^^ v) := fun ⟨S, a⟩ ⟨T, b⟩ => ⟨S ^^^ T, by rw [comb_xor, a, b]⟩
theorem Span.low {vs : List Nat} {v : Nat} : Span vs v → ∃ S, S < 2 ^ vs.length ∧ comb vs S = v := fun ⟨S, a⟩ => ⟨S % 2 ^ vs.length, Nat.mod_lt _ (Nat.two_pow_pos _), by
  rw [← a]
  refine comb_ext fun j hj => ?_
  rw [Nat.testBit_mod_two_pow, decide_eq_true hj, Bool.true_and]⟩
theorem Span.snoc {vs : List Nat} {r v : Nat} : Span (vs ++ [r]) v ↔ Span vs v ∨ Span vs (v ^^^ r) := by
  constructor
  · rintro ⟨S, h⟩
    rw [comb_snoc] at h
    by_cases q : S.testBit vs.length = true
    · rw [if_pos q] at h
      exact .inr ⟨S, by rw [← h, Nat.xor_assoc, Nat.xor_self, Nat.xor_zero]⟩
    · rw [if_neg q, Nat.xor_zero] at h
      exact .inl ⟨S, h⟩
  · rintro (h | h)
    · obtain ⟨S, hl, e⟩ := h.low
      exact ⟨S, by rw [comb_snoc, testBit_big hl (Nat.le_refl _), e]; simp⟩
    · obtain ⟨S, hl, e⟩ := h.low
      refine ⟨S ^^^ 2 ^ vs.length, ?_⟩
      rw [comb_snoc, comb_xor, comb_pow_len, e, Nat.testBit_xor, testBit_big hl (Nat.le_refl _), Nat.testBit_two_pow, decide_eq_true rfl]
      simp [Nat.xor_assoc]
theorem Span.nil {v : Nat} : Span [] v ↔ v = 0 := ⟨fun ⟨_, h⟩ => h.symm, fun h => by subst h; exact Span.zero _⟩
theorem Span.inj {vs : List Nat} {k : Nat} (f : Nat → Nat) (h0 : f 0 = 0) (hf : ∀ a b, f (a ^^^ b) = f a ^^^ f b) (hi : ∀ a, a < 2 ^ k → f a = 0 → a = 0) (hv : ∀ v ∈ vs, v < 2 ^ k) {v : Nat} (hk : v < 2 ^ k) : Span (vs.map f) (f v) ↔ Span vs v := by
  constructor
  · rintro ⟨S, h⟩
    rw [comb_map f h0 hf] at h
    refine ⟨S, ?_⟩
    have : comb vs S ^^^ v = 0 := hi _ (Nat.xor_lt_two_pow (comb_lt hv) hk) (by rw [hf, h, Nat.xor_self])
    exact xor0 this
  · rintro ⟨S, h⟩
    exact ⟨S, by rw [comb_map f h0 hf, h]⟩
/-- masks with unlike highest bits, rising -/
def Incr (ws : List Nat) : Prop := ws.Pairwise (fun a b => bits a < bits b) ∧ ∀ w ∈ ws, w ≠ 0
theorem Incr.snoc {ws : List Nat} {w : Nat} (h : Incr ws) (hb : ∀ x ∈ ws, bits x < bits w) (h0 : w ≠ 0) : Incr (ws ++ [w]) := ⟨List.pairwise_append.mpr ⟨h.1, List.pairwise_singleton _ _, fun a ha b hb' => by rw [List.mem_singleton.mp hb']; exact hb a ha⟩, fun x hx => by
  rcases List.mem_append.mp hx with q | q
  · exact h.2 x q
  · rw [List.mem_singleton.mp q]; exact h0⟩
theorem comb_snoc_bits {ws : List Nat} {w S : Nat} (hb : ∀ x ∈ ws, bits x < bits w) : bits (comb ws S) < bits w ∨ w = 0 := by
  by_cases h : w = 0
  · exact .inr h
  · left
    have hp := bits_pos h
    refine Nat.lt_of_le_of_lt (bits_le.mpr (comb_lt (k := bits w - 1) fun x hx => ?_)) (by omega)
    have := hb x hx
    exact bits_le.mp (by omega)
theorem Incr.inj : ∀ {ws : List Nat} {S : Nat}, Incr ws → S < 2 ^ ws.length → comb ws S = 0 → S = 0 := by
  intro ws
  induction hn : ws.length generalizing ws with
  | zero => intro S _ hS _; simpa using hS
  | succ n ih =>
    intro S hI hS h
    obtain ⟨us, w, rfl⟩ : ∃ us w, ws = us ++ [w] := ⟨ws.dropLast, ws.getLast (by intro z; subst z; cases hn), (List.dropLast_concat_getLast _).symm⟩
    have hl : us.length = n := by rw [List.length_append] at hn; simpa using hn
    obtain ⟨hp, h0⟩ := hI
    rw [List.pairwise_append] at hp
    have hw : w ≠ 0 := h0 w (List.mem_append_right _ (List.mem_singleton_self _))
    have hb : ∀ x ∈ us, bits x < bits w := fun x hx => hp.2.2 x hx w (List.mem_singleton_self _)
    rw [comb_snoc, hl] at h
    by_cases q : S.testBit n = true
    · rw [if_pos q] at h
      have e := xor0 h
      rcases comb_snoc_bits (S := S) hb with z | z
      · rw [e] at z; exact absurd z (Nat.lt_irrefl _)
      · exact absurd z hw
    · rw [if_neg q, Nat.xor_zero] at h
      have hS' : S < 2 ^ n := by
        refine Nat.lt_pow_two_of_testBit _ fun j hj => ?_
        by_cases e : j = n
        · subst e; simpa using q
        · exact testBit_big hS (by omega)
      exact ih (ws := us) hl ⟨hp.1, fun x hx => h0 x (List.mem_append_left _ hx)⟩ hS' h
/-- the places of rows that are no sums of rows ahead -/
noncomputable def fndP (rs : List Nat) : List Nat := open Classical in (List.range rs.length).filter fun j => decide (¬ Span (rs.take j) (rs.getD j 0))
theorem fndP_nil : fndP [] = [] := rfl
theorem fndP_snoc (rs : List Nat) (r : Nat) : fndP (rs ++ [r]) = fndP rs ++ open Classical in if Span rs r then [] else [rs.length] := by
  classical
  unfold fndP
  rw [List.length_append, List.length_singleton, List.range_succ, List.filter_append]
  congr 1
  · refine List.filter_congr fun j hj => ?_
    have hj' := List.mem_range.mp hj
    rw [List.take_append_of_le_length (Nat.le_of_lt hj'), List.getD_eq_getElem?_getD, List.getD_eq_getElem?_getD, List.getElem?_append_left hj']
  · have e1 : (rs ++ [r]).take rs.length = rs := by rw [List.take_append_of_le_length (Nat.le_refl _), List.take_length]
    have e2 : (rs ++ [r]).getD rs.length 0 = r := by rw [List.getD_eq_getElem?_getD, List.getElem?_append_right (Nat.le_refl _), Nat.sub_self]; rfl
    by_cases q : Span rs r
    · rw [if_pos q, List.filter_cons_of_neg (by rw [e1, e2]; simpa using q)]; rfl
    · rw [if_neg q, List.filter_cons_of_pos (by rw [e1, e2]; simpa using q)]; rfl
theorem fndP_len (rs : List Nat) : (fndP rs).length ≤ rs.length := by
  unfold fndP
  have := List.length_filter_le (fun j => open Classical in decide (¬ Span (rs.take j) (rs.getD j 0))) (List.range rs.length)
  rw [List.length_range] at this; exact this
theorem fndP_congr {rs qs : List Nat} (hl : rs.length = qs.length) (h : ∀ j, j < rs.length → (Span (rs.take j) (rs.getD j 0) ↔ Span (qs.take j) (qs.getD j 0))) : fndP rs = fndP qs := by
  classical
  unfold fndP
  rw [← hl]
  refine List.filter_congr fun j hj => ?_
  rw [decide_eq_decide, h j (List.mem_range.mp hj)]
theorem fndP_map {rs : List Nat} {k : Nat} (f : Nat → Nat) (h0 : f 0 = 0) (hf : ∀ a b, f (a ^^^ b) = f a ^^^ f b) (hi : ∀ a, a < 2 ^ k → f a = 0 → a = 0) (hv : ∀ v ∈ rs, v < 2 ^ k) : fndP (rs.map f) = fndP rs := by
  refine fndP_congr (List.length_map _) fun j hj => ?_
  rw [List.length_map] at hj
  rw [← List.map_take]
  have e : (rs.map f).getD j 0 = f (rs.getD j 0) := by
    rw [List.getD_eq_getElem?_getD, List.getD_eq_getElem?_getD, List.getElem?_map, List.getElem?_eq_getElem hj]; rfl
  rw [e]
  have hm : rs.getD j 0 ∈ rs := by rw [List.getD_eq_getElem?_getD, List.getElem?_eq_getElem hj]; exact List.getElem_mem hj
  exact Span.inj f h0 hf hi (fun v hv' => hv v (List.mem_of_mem_take hv')) (hv _ hm)
/-- numbers below k, none twice: at most k of them -/
theorem nodup_len : ∀ {k : Nat} {l : List Nat}, l.Nodup → (∀ x ∈ l, x < k) → l.length ≤ k
  | 0, l, _, h => by cases l with
    | nil => exact Nat.le_refl _
    | cons x l => exact absurd (h x (List.mem_cons_self ..)) (Nat.not_lt_zero _)
  | k + 1, l, hn, h => by
    have h1 : (l.erase k).length ≤ k := nodup_len (hn.erase k) fun x hx => by
      have hm := List.mem_of_mem_erase hx
      have := h x hm
      have hk : x ≠ k := fun z => by subst z; exact (List.Nodup.not_mem_erase hn) hx
      omega
    have h2 : l.length ≤ (l.erase k).length + 1 := by
      by_cases q : k ∈ l
      · rw [List.length_erase_of_mem q]; omega
      · rw [List.erase_of_not_mem q]; omega
    omega
end Wk
/-! Ob: walks of any kind, objects with fields, things that are only read. -/
namespace Wk
open PySem L2
section
variable {α β S : Type} {K : PySem.W.Frag} {σ : L2.St} {F0 H0 F F' H H' : Hp} {te tl ta tb to : TE} {tt tc : TT} {tA : TA} {Q : VK} {v w u : V} {xs ys : List α} {x y : α} {D : Ends} {tu : TS} {p q : Addr} {n : Nat} {i : Int} {g : TG} {J : It} {e : Rep α} {b : Rep β} {zs : List β} {o : HO}
/-! ### walks -/
def kFor (g : TG) (tu : TS) (D : Ends) (σ : L2.St) (J : It) (H : Hp) : Prop := ∃ W : Nat → Nat → L2.St → Hp → Prop, (∃ m, W 0 m σ H) ∧ ∀ i m σ H, W i m σ H →
  (J.stop i H ∧ D.nx σ H) ∨ (J.go i H ∧ ∃ N : L2.St → Hp → Prop, (∀ σ' H', N σ' H' → ∃ m', m' < m ∧ W (i + 1) m' σ' H') ∧ ∀ x H', J.yld i H x H' → g x σ H' fun σ2 H2 => tu { D with nx := N, ct := N, bk := D.nx } σ2 H2)
def kCp (g : TG) (tc : TT) (te : TE) (vs : List Nat) (σ : L2.St) (Q : VK) (J : It) (H : Hp) : Prop := ∀ D, H D = none → ∃ W : Nat → Nat → Hp → Prop, (∃ m, W 0 m (upd H D (.lst []))) ∧ ∀ i m H, W i m H →
  (J.stop i H ∧ Q (.ref D) H) ∨ (J.go i H ∧ ∃ Nx : Hp → Prop, (∀ H', Nx H' → ∃ m', m' < m ∧ W (i + 1) m' H') ∧ ∀ x H', J.yld i H x H' → g x (wipe σ vs) H' fun σ2 H2 => wipe σ2 vs = wipe σ vs ∧ tc σ2 H2 fun b H3 =>
    if b = true then te σ2 H3 fun y H4 => ∃ acc, H4 D = some (.lst acc) ∧ acc.length < sizeLine ∧ Nx (upd H4 D (.lst (acc ++ [y]))) else Nx H3)
/-- a walk over frozen things: its turns give the items of zs -/
def TWk (J : It) (F : Hp) (b : Rep β) (zs : List β) : Prop := ∃ G Y, Walk J zs.length G Y ∧ (∀ F' H', Ex F F' → Ex F' H' → G H') ∧
  ∀ i H x H' F', i < zs.length → Ex F F' → Ex F' H → Y i H x H' → ∃ z F1, zs[i]? = some z ∧ Wf F' H F1 H' ∧ b.r F1 x z
theorem f_J {wi : TI} (h : wi σ H (kFor g tu D σ)) : tFor wi g tu D σ H := h
theorem c_J {wi : TI} {vs : List Nat} (h : wi σ H (kCp g tc te vs σ Q)) : tLc wi g tc te vs σ H Q := h
theorem w_forG {s0 : S} {k : S → Prop} {body : β → S → (S → Prop) → (S → Prop) → Prop} (T : TWk J F b zs) (Inv : S → L2.St → Hp → Hp → Prop) (hW : forW zs s0 body k) (h0 : Inv s0 σ F H)
    (ex : ∀ s σ' F' H', Inv s σ' F' H' → Ex F F' ∧ Ex F' H') (f : Ex F H)
    (turn : ∀ (N Bk : L2.St → Hp → Prop) x u s σ' F' H' F1 H1 (nx bk : S → Prop), Inv s σ' F' H' → x ∈ zs → Wf F' H' F1 H1 → b.r F1 u x → body x s nx bk → (∀ s' σ2 F2 H2, Inv s' σ2 F2 H2 → nx s' → N σ2 H2) → (∀ s' σ2 F2 H2, Inv s' σ2 F2 H2 → bk s' → Bk σ2 H2) →
      g u σ' H1 fun σ2 H2 => tu { D with nx := N, ct := N, bk := Bk } σ2 H2)
    (done : ∀ s σ' F' H', Inv s σ' F' H' → k s → D.nx σ' H') : kFor g tu D σ J H := by
  obtain ⟨G, Y, wk, hG, hY⟩ := T
  refine for_it wk (fun i σ' H' => ∃ s F', Inv s σ' F' H' ∧ forW (zs.drop i) s body k) ⟨s0, F, h0, hW⟩ (fun i σ' H' _ ⟨s, F', hI, _⟩ => hG F' H' (ex _ _ _ _ hI).1 (ex _ _ _ _ hI).2) ?_ ?_
  · rintro i u σ' H' H1 hi ⟨s, F', hI, hw⟩ hy
    obtain ⟨x, F1, hx, q, rx⟩ := hY i H' u H1 F' hi (ex _ _ _ _ hI).1 (ex _ _ _ _ hI).2 hy
    have e : zs.drop i = x :: zs.drop (i + 1) := by
      obtain ⟨h1, h2⟩ := List.getElem?_eq_some_iff.mp hx
      rw [← h2]; exact List.drop_eq_getElem_cons h1
    rw [e] at hw
    exact turn _ _ x u s σ' F' H' F1 H1 _ _ hI (List.mem_of_getElem? hx) q rx hw (fun s' σ2 F2 H2 q n => ⟨s', F2, q, n⟩) (fun s' σ2 F2 H2 q n => done s' σ2 F2 H2 q n)
  · rintro σ' H' ⟨s, F', hI, hw⟩
    rw [List.drop_of_length_le (Nat.le_refl _)] at hw
    exact done _ _ _ _ hI hw
theorem w_compG {vs : List Nat} {bd : β → (Option α → Prop) → Prop} {kk : List α → Prop} (T : TWk J F b zs) (w : Wf F0 H0 F H) (hn : zs.length < 1000000) (hW : compW zs bd kk)
    (turn : ∀ (Qy : V → Hp → Prop) (Qn : Hp → Prop) x u F1 H1 (R : Option α → Prop), Wf F H F1 H1 → x ∈ zs → b.r F1 u x → bd x R → (∀ y z F2 H2, Wf F1 H1 F2 H2 → e.r F2 y z → R (some z) → Qy y H2) → (∀ F2 H2, Wf F1 H1 F2 H2 → R none → Qn H2) →
      g u (wipe σ vs) H1 fun σ2 H2 => wipe σ2 vs = wipe σ vs ∧ tc σ2 H2 fun b H3 => if b = true then te σ2 H3 Qy else Qn H3)
    (done : ∀ p ys F' H', H p = none → Wf F H F' H' → XL e H0 F' H' p ys → kk ys → Q (.ref p) H') : kCp g tc te vs σ Q J H := by
  obtain ⟨G, Y, wk, hG, hY⟩ := T
  intro D hD
  refine lc_it wk (fun i H' => ∃ F' ac ys, Wf F H F' H' ∧ Xc H F' H' D (.lst ac) ∧ All e F' ac ys ∧ ys.length ≤ i ∧ compG (zs.drop i) ys bd kk)
    ⟨F, [], [], Wf.newX w.f hD, Xc.mk' (Wf.id w.f) hD, trivial, Nat.le_refl _, hW⟩ (fun i H' _ ⟨F', ac, ys, q, _⟩ => hG F' H' q.g q.f) ?_ ?_
  · rintro i u H' H1 hi ⟨F', ac, ys, q, xc, al, hl, hw⟩ hy
    obtain ⟨x, F1, hx, q1, rx⟩ := hY i H' u H1 F' hi q.g q.f hy
    have e' : zs.drop i = x :: zs.drop (i + 1) := by
      obtain ⟨h1, h2⟩ := List.getElem?_eq_some_iff.mp hx
      rw [← h2]; exact List.drop_eq_getElem_cons h1
    rw [e'] at hw
    have xc1 := xc.step q1
    have al1 := al.mono q1.g
    refine turn _ _ x u F1 H1 _ (q.tr q1) (List.mem_of_getElem? hx) rx hw (fun y z F2 H2 s ry hR => ?_) (fun F2 H2 s hR => ?_)
    · have xc2 := xc1.step s
      exact ⟨ac, xc2.h, by rw [al.len]; exact small_len (by omega), F2, ac ++ [y], ys ++ [z], ((q.tr q1).tr s).set xc2, xc2.set, (al1.mono s.g).snoc ry, by rw [List.length_append]; exact Nat.succ_le_succ hl, hR⟩
    · exact ⟨F2, ac, ys, (q.tr q1).tr s, xc1.step s, al1.mono s.g, Nat.le_succ_of_le hl, by simpa using hR⟩
  · rintro H' ⟨F', ac, ys, q, xc, al, hl, hw⟩
    rw [List.drop_of_length_le (Nat.le_refl _)] at hw
    exact done D ys F' H' hD q ⟨ac, ⟨w.h.non hD, xc.n, xc.h⟩, al⟩ hw
/-! sources -/
theorem TWk.pairs {γ δ : Type} {c : Rep γ} {d : Rep δ} {G : Hp → Prop} {X Y : Nat → Option V} {us : List (γ × δ)} (wk : Walk J us.length G (YPair X Y)) (hG : ∀ F' H', Ex F F' → Ex F' H' → G H')
    (hx : ∀ i F' x, Ex F F' → i < us.length → X i = some x → ∃ z, (us[i]?.map Prod.fst) = some z ∧ c.r F' x z) (hy : ∀ i F' x, Ex F F' → i < us.length → Y i = some x → ∃ z, (us[i]?.map Prod.snd) = some z ∧ d.r F' x z) : TWk J F (pT2 c d) us := by
  refine ⟨G, _, wk, hG, fun i H v H' F' hi f g hy' => ?_⟩
  obtain ⟨T, x, y, rfl, hT, rfl, h1, h2⟩ := hy'
  obtain ⟨z1, e1, r1⟩ := hx i F' x f hi h1
  obtain ⟨z2, e2, r2⟩ := hy i F' y f hi h2
  have e : us[i]? = some (z1, z2) := by
    cases q : us[i]? with
    | none => rw [q] at e1; cases e1
    | some t =>
      rw [q] at e1 e2
      have a : t.1 = z1 := Option.some.inj e1
      have b : t.2 = z2 := Option.some.inj e2
      rw [← a, ← b]
  exact ⟨(z1, z2), _, e, Wf.new g hT, ⟨T, x, y, rfl, upd_same, c.mono (Ex.new (g.non hT)) r1, d.mono (Ex.new (g.non hT)) r2⟩⟩
def enumT (xs : List α) : List (Nat × α) := (List.range xs.length).zip xs
theorem enumT_len (xs : List α) : (enumT xs).length = xs.length := by unfold enumT; rw [List.length_zip, List.length_range]; exact Nat.min_self _
theorem enumT_get (xs : List α) (i : Nat) : (enumT xs)[i]? = xs[i]?.map fun x => (i, x) := by
  show ((List.range xs.length).zip xs)[i]? = _
  by_cases h : i < xs.length
  · have h2 : i < ((List.range xs.length).zip xs).length := by rw [List.length_zip, List.length_range]; omega
    rw [List.getElem?_eq_getElem h2, List.getElem?_eq_getElem h, List.getElem_zip, List.getElem_range]; rfl
  · rw [List.getElem?_eq_none (by rw [List.length_zip, List.length_range]; omega), List.getElem?_eq_none (by omega)]; rfl
/-- enumerate(xs) -/
theorem src_enum {R : It → Hp → Prop} (r : (pL e).r F v xs) (f : Ex F H) (k : ∀ a, TWk (Ite K a) F (pT2 pN e) (enumT xs) → R (Ite K a) H) : ∃ a ws, [v] = [V.ref a] ∧ SqL K H a ws ∧ R (Ite K a) H := by
  obtain ⟨p, vs, rfl, hp, a⟩ := r
  refine ⟨p, vs, rfl, SqL.of (f _ _ hp), k p ?_⟩
  refine TWk.pairs (G := fun H => SqL K H p vs) (X := fun i => some (.int (i : Nat))) (Y := fun i => vs[i]?) (by rw [enumT_len, ← a.len]; exact walk_enum) (fun F' H' h1 h2 => SqL.of (h2 _ _ (h1 _ _ hp))) ?_ ?_
  · intro i F' x _ hi hx
    rw [enumT_len] at hi
    rw [enumT_get, List.getElem?_eq_getElem hi]
    exact ⟨i, rfl, (Option.some.inj hx).symm⟩
  · intro i F' x h1 hi hx
    obtain ⟨z, hz, rz⟩ := a.got hx
    rw [enumT_get, hz]
    exact ⟨z, rfl, e.mono h1 rz⟩
/-- zip(xs, ys) -/
theorem src_zip {γ : Type} {c : Rep γ} {us : List γ} {R : It → Hp → Prop} (r : (pL e).r F v xs) (s : (pL c).r F w us) (f : Ex F H) (k : ∀ a b, TWk (Itz K a b) F (pT2 e c) (xs.zip us) → R (Itz K a b) H) : ∃ a b ws us, [v, w] = [V.ref a, V.ref b] ∧ SqL K H a ws ∧ SqL K H b us ∧ R (Itz K a b) H := by
  obtain ⟨p, vs, rfl, hp, a⟩ := r
  obtain ⟨q, ws, rfl, hq, b⟩ := s
  refine ⟨p, q, vs, ws, rfl, SqL.of (f _ _ hp), SqL.of (f _ _ hq), k p q ?_⟩
  refine TWk.pairs (G := fun H => SqL K H p vs ∧ SqL K H q ws) (X := fun i => vs[i]?) (Y := fun i => ws[i]?) (walk_zip (by rw [List.length_zip, a.len, b.len])) (fun F' H' h1 h2 => ⟨SqL.of (h2 _ _ (h1 _ _ hp)), SqL.of (h2 _ _ (h1 _ _ hq))⟩) ?_ ?_
  · intro i F' x h1 hi hx
    obtain ⟨z, hz, rz⟩ := a.got hx
    obtain ⟨u, hu⟩ : ∃ u, us[i]? = some u := ⟨_, List.getElem?_eq_getElem (by rw [List.length_zip] at hi; omega)⟩
    exact ⟨z, by rw [(List.getElem?_zip_eq_some (z := (z, u))).mpr ⟨hz, hu⟩]; rfl, e.mono h1 rz⟩
  · intro i F' x h1 hi hx
    obtain ⟨u, hu, ru⟩ := b.got hx
    obtain ⟨z, hz⟩ : ∃ z, xs[i]? = some z := ⟨_, List.getElem?_eq_getElem (by rw [List.length_zip] at hi; omega)⟩
    exact ⟨u, by rw [(List.getElem?_zip_eq_some (z := (z, u))).mpr ⟨hz, hu⟩]; rfl, c.mono h1 ru⟩
/-- a tuple -/
theorem src_tup {R : It → Hp → Prop} (r : (pTL e).r F v xs) (f : Ex F H) (k : ∀ a, TWk (Itt K a) F e xs → R (Itt K a) H) : ∃ a, v = .ref a ∧ (∃ ws, SqT K H a ws) ∧ R (Itt K a) H := by
  obtain ⟨p, vs, rfl, hp, a⟩ := r
  refine ⟨p, rfl, ⟨vs, SqT.of (f _ _ hp)⟩, k p ⟨_, _, by rw [← a.len]; exact walk_tup, fun F' H' h1 h2 => SqT.of (h2 _ _ (h1 _ _ hp)), fun i H v H' F' hi h1 h2 hy => ?_⟩⟩
  obtain ⟨rfl, hv⟩ := hy
  obtain ⟨z, hz, rz⟩ := a.got hv
  exact ⟨z, F', hz, Wf.id h2, e.mono h1 rz⟩
/-- range(i, j) -/
theorem src_range2 {R : It → Hp → Prop} {i j : Nat} (hj : j < 1000000) (hi : i < 1000000) (k : TWk (Itr (i : Int) ((j : Int) - (i : Int)).toNat) F pN (List.range' i (j - i)) → R (Itr (i : Int) ((j : Int) - (i : Int)).toNat) H) : ∃ i' j' : Int, [V.int (i : Int), V.int (j : Int)] = [.int i', .int j'] ∧ (-(2 ^ 62) ≤ i' ∧ i' < 2 ^ 62 ∧ -(2 ^ 62) ≤ j' ∧ j' < 2 ^ 62) ∧ R (Itr i' (j' - i').toNat) H := by
  refine ⟨i, j, rfl, ⟨by omega, by omega, by omega, by omega⟩, k ⟨fun _ => True, YFn fun m => .int ((i : Int) + (m : Nat)), ?_, fun _ _ _ _ => trivial, fun m H x H' F' hm h1 h2 hy => ?_⟩⟩
  · have : ((j : Int) - (i : Int)).toNat = (List.range' i (j - i)).length := by rw [List.length_range']; omega
    rw [this]; exact walk_range
  · obtain ⟨rfl, rfl⟩ := hy
    rw [List.length_range'] at hm
    exact ⟨i + m, F', by rw [List.getElem?_range' hm]; simp, Wf.id h2, by show V.int _ = V.int _; congr 1⟩
/-! ### objects -/
theorem lk_ne {k g : Str} {v : V} {r : List (Str × V)} (h : (k == g) = false) : List.lookup k ((g, v) :: r) = List.lookup k r := by simp only [List.lookup, h]
theorem lk_eq {k : Str} {v : V} {r : List (Str × V)} : List.lookup k ((k, v) :: r) = some v := by
  have e : (k == k) = true := beq_self_eq_true k
  simp only [List.lookup, e]
/-- an instance of C that stays as it is: its fields, all told by Fs -/
def pOb (C : Addr) (Fs : Hp → List (Str × V) → α → Prop) (mono : ∀ {F F' : Hp} {fs : List (Str × V)} {x : α}, Ex F F' → Fs F fs x → Fs F' fs x) : Rep α :=
  ⟨fun F v x => ∃ p dx fs, v = .ref p ∧ F p = some (.ins C dx fs) ∧ Fs F fs x, fun h ⟨p, dx, fs, a, b, c⟩ => ⟨p, dx, fs, a, h _ _ b, mono h c⟩⟩
def F1s {α : Type} (n : Str) (e : Rep α) (F : Hp) (fs : List (Str × V)) (x : α) : Prop := ∃ u, fs = [(n, u)] ∧ e.r F u x
def F2s {α β : Type} (n m : Str) (e : Rep α) (f : Rep β) (F : Hp) (fs : List (Str × V)) (x : α × β) : Prop := ∃ u w, fs = [(n, u), (m, w)] ∧ e.r F u x.1 ∧ f.r F w x.2
def F3s {α β γ : Type} (n m l : Str) (e : Rep α) (f : Rep β) (g : Rep γ) (F : Hp) (fs : List (Str × V)) (x : α × β × γ) : Prop := ∃ u w y, fs = [(n, u), (m, w), (l, y)] ∧ e.r F u x.1 ∧ f.r F w x.2.1 ∧ g.r F y x.2.2
theorem F1s.mono {α : Type} {n : Str} {e : Rep α} {F F' : Hp} {fs : List (Str × V)} {x : α} (h : Ex F F') : F1s n e F fs x → F1s n e F' fs x := fun ⟨u, a, b⟩ => ⟨u, a, e.mono h b⟩
theorem F2s.mono {α β : Type} {n m : Str} {e : Rep α} {f : Rep β} {F F' : Hp} {fs : List (Str × V)} {x : α × β} (h : Ex F F') : F2s n m e f F fs x → F2s n m e f F' fs x := fun ⟨u, w, a, b, c⟩ => ⟨u, w, a, e.mono h b, f.mono h c⟩
theorem F3s.mono {α β γ : Type} {n m l : Str} {e : Rep α} {f : Rep β} {g : Rep γ} {F F' : Hp} {fs : List (Str × V)} {x : α × β × γ} (h : Ex F F') : F3s n m l e f g F fs x → F3s n m l e f g F' fs x := fun ⟨u, w, y, a, b, c, d⟩ => ⟨u, w, y, a, e.mono h b, f.mono h c, g.mono h d⟩
def pO1 {α : Type} (C : Addr) (n : Str) (e : Rep α) : Rep α := pOb C (F1s n e) F1s.mono
def pO2 {α β : Type} (C : Addr) (n m : Str) (e : Rep α) (f : Rep β) : Rep (α × β) := pOb C (F2s n m e f) F2s.mono
def pO3 {α β γ : Type} (C : Addr) (n m l : Str) (e : Rep α) (f : Rep β) (g : Rep γ) : Rep (α × β × γ) := pOb C (F3s n m l e f g) F3s.mono
section
variable {γ : Type} {C : Addr} {a b c : Str} {f : Rep β} {g' : Rep γ} {s : α} {t : α × β} {z : α × β × γ}
/-- reading o.f -/
theorem fl_11 (cl : Cls K C) (na : NoAttr K C a) (r : (pO1 C a e).r F v s) (h : Ex F H) : ∃ w, e.r F w s ∧ ∀ ⦃σ ta⦄, Val ta σ H v → Val (tFld K ta a) σ H w := by
  obtain ⟨p, dx, fs, rfl, hp, u, rfl, r1⟩ := r
  exact ⟨u, r1, fun _ _ ha Q k => ha _ ⟨p, C, dx, _, u, rfl, h _ _ hp, cl, na, lk_eq, k⟩⟩
theorem fl_21 (cl : Cls K C) (na : NoAttr K C a) (r : (pO2 C a b e f).r F v t) (h : Ex F H) : ∃ w, e.r F w t.1 ∧ ∀ ⦃σ ta⦄, Val ta σ H v → Val (tFld K ta a) σ H w := by
  obtain ⟨p, dx, fs, rfl, hp, u, w, rfl, r1, r2⟩ := r
  exact ⟨u, r1, fun _ _ ha Q k => ha _ ⟨p, C, dx, _, u, rfl, h _ _ hp, cl, na, lk_eq, k⟩⟩
theorem fl_22 (cl : Cls K C) (na : NoAttr K C b) (r : (pO2 C a b e f).r F v t) (h : Ex F H) (h1 : (b == a) = false := by decide +kernel) : ∃ w, f.r F w t.2 ∧ ∀ ⦃σ ta⦄, Val ta σ H v → Val (tFld K ta b) σ H w := by
  obtain ⟨p, dx, fs, rfl, hp, u, w, rfl, r1, r2⟩ := r
  exact ⟨w, r2, fun _ _ ha Q k => ha _ ⟨p, C, dx, _, w, rfl, h _ _ hp, cl, na, (lk_ne h1).trans lk_eq, k⟩⟩
theorem fl_31 (cl : Cls K C) (na : NoAttr K C a) (r : (pO3 C a b c e f g').r F v z) (h : Ex F H) : ∃ w, e.r F w z.1 ∧ ∀ ⦃σ ta⦄, Val ta σ H v → Val (tFld K ta a) σ H w := by
  obtain ⟨p, dx, fs, rfl, hp, u, w, y, rfl, r1, r2, r3⟩ := r
  exact ⟨u, r1, fun _ _ ha Q k => ha _ ⟨p, C, dx, _, u, rfl, h _ _ hp, cl, na, lk_eq, k⟩⟩
theorem fl_32 (cl : Cls K C) (na : NoAttr K C b) (r : (pO3 C a b c e f g').r F v z) (h : Ex F H) (h1 : (b == a) = false := by decide +kernel) : ∃ w, f.r F w z.2.1 ∧ ∀ ⦃σ ta⦄, Val ta σ H v → Val (tFld K ta b) σ H w := by
  obtain ⟨p, dx, fs, rfl, hp, u, w, y, rfl, r1, r2, r3⟩ := r
  exact ⟨w, r2, fun _ _ ha Q k => ha _ ⟨p, C, dx, _, w, rfl, h _ _ hp, cl, na, (lk_ne h1).trans lk_eq, k⟩⟩
theorem fl_33 (cl : Cls K C) (na : NoAttr K C c) (r : (pO3 C a b c e f g').r F v z) (h : Ex F H) (h1 : (c == a) = false := by decide +kernel) (h2 : (c == b) = false := by decide +kernel) : ∃ w, g'.r F w z.2.2 ∧ ∀ ⦃σ ta⦄, Val ta σ H v → Val (tFld K ta c) σ H w := by
  obtain ⟨p, dx, fs, rfl, hp, u, w, y, rfl, r1, r2, r3⟩ := r
  exact ⟨y, r3, fun _ _ ha Q k => ha _ ⟨p, C, dx, _, y, rfl, h _ _ hp, cl, na, (lk_ne h1).trans ((lk_ne h2).trans lk_eq), k⟩⟩
/-- the object of a method's call -/
theorem me_1 {m : Str} (r : (pO1 C a e).r F v s) (h : Ex F H) (h1 : (m == a) = false := by decide +kernel) : ∃ p dx fs, v = .ref p ∧ H p = some (.ins C dx fs) ∧ fs.lookup m = none := by
  obtain ⟨p, dx, fs, rfl, hp, u, rfl, _⟩ := r
  exact ⟨p, dx, _, rfl, h _ _ hp, (lk_ne h1).trans rfl⟩
theorem me_2 {m : Str} (r : (pO2 C a b e f).r F v t) (h : Ex F H) (h1 : (m == a) = false := by decide +kernel) (h2 : (m == b) = false := by decide +kernel) : ∃ p dx fs, v = .ref p ∧ H p = some (.ins C dx fs) ∧ fs.lookup m = none := by
  obtain ⟨p, dx, fs, rfl, hp, u, w, rfl, _⟩ := r
  exact ⟨p, dx, _, rfl, h _ _ hp, (lk_ne h1).trans ((lk_ne h2).trans rfl)⟩
theorem me_3 {m : Str} (r : (pO3 C a b c e f g').r F v z) (h : Ex F H) (h1 : (m == a) = false := by decide +kernel) (h2 : (m == b) = false := by decide +kernel) (h3 : (m == c) = false := by decide +kernel) : ∃ p dx fs, v = .ref p ∧ H p = some (.ins C dx fs) ∧ fs.lookup m = none := by
  obtain ⟨p, dx, fs, rfl, hp, u, w, y, rfl, _⟩ := r
  exact ⟨p, dx, _, rfl, h _ _ hp, (lk_ne h1).trans ((lk_ne h2).trans ((lk_ne h3).trans rfl))⟩
end
/-! one's own object, while it is made -/
/-- the heap without p -/
def wo (H : Hp) (p : Addr) : Hp := fun a => if a = p then none else H a
theorem wo_same {H : Hp} {p : Addr} : wo H p p = none := if_pos rfl
theorem wo_ne {H : Hp} {p q : Addr} (h : q ≠ p) : wo H p q = H q := if_neg h
theorem Wf.start (f : Ex F H) (n : F p = none) : Wf F (wo H p) F H := ⟨fun a o h => by
    by_cases q : a = p
    · subst q; rw [wo_same] at h; cases h
    · rw [wo_ne q] at h; exact h, f, Ex.rfl', fun a o h h0 => by rw [h] at h0; cases h0⟩
theorem Xc.start (n : F p = none) (h : H p = some o) : Xc (wo H p) F H p o := ⟨wo_same, n, h⟩
/-- behind the making of x -/
theorem Wf.made {x dx : Addr} {o u : HO} (nx : H x = none) (nd : H dx = none) (w : Wf F (wo (upd (upd H dx o) x u) x) F' H') : Wf F H F' H' := by
  have e : Ex H (wo (upd (upd H dx o) x u) x) := fun a v h => by
    have h1 : a ≠ x := ne_of_none h nx
    have h2 : a ≠ dx := ne_of_none h nd
    rw [wo_ne h1, upd_ne h1, upd_ne h2]; exact h
  exact ⟨e.tr w.h, w.f, w.g, fun a o h h0 => e.non (w.n a o h h0)⟩
theorem Ex.made {x dx : Addr} {o u : HO} (f : Ex F H) (nx : H x = none) (nd : H dx = none) : Ex F (upd (upd H dx o) x u) := fun a v h => by
  have h' := f a v h
  rw [upd_ne (ne_of_none h' nx), upd_ne (ne_of_none h' nd)]; exact h'
theorem Xc.frzO {u : HO} (x : Xc H0 F H q u) (h : ∀ q o, Xc H0 F H q o → q ≠ p → Xc H0 F' H q o) (hq : q ≠ p) (g : Ex F F') : Xc H0 F' H q u := h _ _ x hq
/-- self.f = v -/
theorem a_fld {C dx : Addr} {fs : List (Str × V)} {a : Str} (cl : Cls K C) (na : NoAttr K C a) (x : Xc H0 F H p (.ins C dx fs)) (w : Wf F0 H0 F H) (hl : fs.length < 1000) (ho : Val to σ H (.ref p))
    (k : ∀ H', Wf F0 H0 F H' → Xc H0 F H' p (.ins C dx (putF a v fs)) → (∀ q o, H q = some o → q ≠ p → H' q = some o) → D.nx σ H') :
    (fun y H1 => to σ H1 fun x H2 => ∃ a' C' dx' fs', x = .ref a' ∧ H2 a' = some (.ins C' dx' fs') ∧ Cls K C' ∧ NoAttr K C' a ∧ fs'.length < 1000 ∧ D.nx σ (upd H2 a' (.ins C' dx' (putF a y fs')))) v H :=
  ho _ ⟨p, C, dx, fs, rfl, x.h, cl, na, hl, k _ (w.set x) x.set fun q o h hq => by rw [upd_ne hq]; exact h⟩
theorem e_fld {tv : TE} {a : Str} (h : tv σ H fun y H1 => to σ H1 fun x H2 => ∃ a' C' dx' fs', x = .ref a' ∧ H2 a' = some (.ins C' dx' fs') ∧ Cls K C' ∧ NoAttr K C' a ∧ fs'.length < 1000 ∧ D.nx σ (upd H2 a' (.ins C' dx' (putF a y fs')))) : sFld K to tv a D σ H := h
/-- reading a field of one's own object -/
theorem fl_X {C dx : Addr} {fs : List (Str × V)} {a : Str} (cl : Cls K C) (na : NoAttr K C a) (x : Xc H0 F H p (.ins C dx fs)) (hl : fs.lookup a = some u) (ho : Val to σ H (.ref p)) : Val (tFld K to a) σ H u :=
  fun Q k => ho _ ⟨p, C, dx, fs, u, rfl, x.h, cl, na, hl, k⟩
/-- it is made: it changes no more -/
theorem Xc.frzE {o : HO} (x : Xc H0 F H p o) (w : Wf F0 H0 F H) : ∃ F', Wf F0 H0 F' H ∧ Ex F F' ∧ F' p = some o := ⟨_, w.freeze x, Ex.new x.n, upd_same⟩
/-! ### borrowed lists and dicts: read only, their place not told -/
structure BL {α : Type} (e : Rep α) (F H : Hp) (p : Addr) (xs : List α) : Prop where
  x : ∃ vs, H p = some (.lst vs) ∧ All e F vs xs
structure BD {κ α : Type} [KeyT κ] (e : Rep α) (F H : Hp) (p : Addr) (m : List (κ × α)) : Prop where
  x : ∃ kvs, H p = some (.dK kvs) ∧ DA e F kvs m
theorem BL.step (x : BL e F H p xs) (w : Wf F H F' H') : BL e F' H' p xs := let ⟨vs, a, b⟩ := x.x; ⟨vs, w.h _ _ a, b.mono w.g⟩
theorem BL.ne (x : BL e F H p xs) (h : H q = none) : p ≠ q := let ⟨_, a, _⟩ := x.x; ne_of_none a h
theorem BL.frzO {X : Prop} (x : BL e F H q xs) (h : X) (hq : q ≠ p) (g : Ex F F') : BL e F' H q xs := let ⟨vs, a, b⟩ := x.x; ⟨vs, a, b.mono g⟩
theorem BL.kept (x : BL e F H q xs) (h : ∀ q o, H q = some o → q ≠ p → H' q = some o) (hq : q ≠ p) : BL e F H' q xs := let ⟨vs, a, b⟩ := x.x; ⟨vs, h _ _ a hq, b⟩
theorem XL.bw (x : XL e H0 F H p xs) : BL e F H p xs := let ⟨vs, a, b⟩ := x.x; ⟨vs, a.h, b⟩
end
section
variable {κ α : Type} [DecidableEq κ] [KeyT κ] {e : Rep α} {K : PySem.W.Frag} {σ : L2.St} {F0 H0 F F' H H' : Hp} {te td ty tx tv : TE} {Q : VK} {v w y z : V} {m : List (κ × α)} {p q : Addr} {j : κ} {x : α} {D : Ends}
omit [DecidableEq κ] in
theorem BD.step (x : BD e F H p m) (w : Wf F H F' H') : BD e F' H' p m := let ⟨vs, a, b⟩ := x.x; ⟨vs, w.h _ _ a, b.mono w.g⟩
omit [DecidableEq κ] in
theorem BD.ne (x : BD e F H p m) (h : H q = none) : p ≠ q := let ⟨_, a, _⟩ := x.x; ne_of_none a h
omit [DecidableEq κ] in
theorem BD.frzO {X : Prop} (x : BD e F H q m) (h : X) (hq : q ≠ p) (g : Ex F F') : BD e F' H q m := let ⟨vs, a, b⟩ := x.x; ⟨vs, a, b.mono g⟩
omit [DecidableEq κ] in
theorem BD.kept (x : BD e F H q m) (h : ∀ q o, H q = some o → q ≠ p → H' q = some o) (hq : q ≠ p) : BD e F H' q m := let ⟨vs, a, b⟩ := x.x; ⟨vs, h _ _ a hq, b⟩
omit [DecidableEq κ] in
theorem XD.bw (x : XD e H0 F H p m) : BD e F H p m := let ⟨vs, a, b⟩ := x.x; ⟨vs, a.h, b⟩
omit [DecidableEq κ] in
theorem D_bw (r : (pD e).r F v m) (f : Ex F H) : ∃ p, v = .ref p ∧ BD e F H p m := let ⟨p, vs, a, b, c⟩ := r; ⟨p, a, ⟨vs, f _ _ b, c⟩⟩
theorem in_BD (r : BD e F H p m) (hy : Val ty σ H (kV (KeyT.k j))) (hd : Val td σ H (.ref p)) : Val (tDIn ty td) σ H (.bl (hasT m j)) := by
  obtain ⟨kvs, hp, a⟩ := r.x
  exact fun Q k => hy _ (hd _ ⟨p, _, rfl, DGet.k hp, by rw [a.has j]; exact k⟩)
theorem ix_BD (r : BD e F H p m) (hx : valT m j = some x) : ∃ w, e.r F w x ∧ ∀ ⦃σ td ty⦄, Val td σ H (.ref p) → Val ty σ H (kV (KeyT.k j)) → Val (tDGet td ty) σ H w := by
  obtain ⟨kvs, hp, a⟩ := r.x
  obtain ⟨w, h1, h2⟩ := (a.get j).1 x hx
  exact ⟨w, h2, fun _ _ _ hd hy Q k => hd _ (hy _ ⟨p, w, rfl, by rw [← h1]; exact DGet.k hp, k⟩)⟩
/-- list(d) -/
def keyC (κ : Type) [KeyT κ] (b : Rep κ) : Prop := ∀ (F : Hp) (k : κ), b.r F (kV (KeyT.k k)) k
theorem keyN : keyC Nat pN := fun _ _ => rfl
theorem keyI : keyC Int pI := fun _ _ => rfl
theorem keyS : keyC Str pS := fun _ _ => rfl
omit [DecidableEq κ] in
theorem DA.keys {b : Rep κ} (hb : keyC κ b) : ∀ {kvs : List (Key × V)} {m : List (κ × α)}, DA e F kvs m → All b F (kvs.map fun kv => kV kv.1) (m.map (·.1))
  | [], [], _ => trivial
  | p :: r, q :: s, ⟨a, _, c⟩ => ⟨by show b.r F (kV p.1) q.1; rw [a]; exact hb F q.1, DA.keys hb c⟩
  | [], _ :: _, q => q.elim
  | _ :: _, [], q => q.elim
def rListD : List V → Hp → VK → Prop := fun xs H Q => ∃ (a : Addr) (kvs : List (Key × V)), xs = [.ref a] ∧ Rd H a (.dK kvs) ∧ ∀ p, H p = none → Q (.ref p) (upd H p (.lst (kvs.map fun kv => kV kv.1)))
omit [DecidableEq κ] in
theorem n_listD {b : Rep κ} (hb : keyC κ b) (r : (pD e).r F v m) (w : Wf F0 H0 F H) (k : ∀ p H', H p = none → Wf F H F H' → XL b H0 F H' p (m.map (·.1)) → Q (.ref p) H') : rListD [v] H Q := by
  obtain ⟨p, kvs, rfl, hp, a⟩ := r
  exact ⟨p, kvs, rfl, .inl (w.f _ _ hp), fun l hl => k l _ hl (Wf.newX w.f hl) ⟨_, Xc.mk' w hl, a.keys hb⟩⟩
theorem n_listXD {b : Rep κ} (hb : keyC κ b) (r : XD e H0 F H q m) (w : Wf F0 H0 F H) (k : ∀ p H', H p = none → Wf F H F H' → XL b H0 F H' p (m.map (·.1)) → Q (.ref p) H') : rListD [.ref q] H Q := by
  obtain ⟨kvs, hp, a⟩ := r.rd
  exact ⟨q, kvs, rfl, .inl hp, fun l hl => k l _ hl (Wf.newX w.f hl) ⟨_, Xc.mk' w hl, a.keys hb⟩⟩
end
/-- a method that may be called -/
structure Md (P : Program) (w : World) (K : PySem.W.Frag) (mg : Str → Option Value) (base : Heap) (CX : CXT) (k : Nat) (C : Addr) (m : Str) (ps : List Str) (sp : Sp) : Prop where
  ex : ∃ f fd, FnOk P w K mg base CX k f fd ps sp ∧ Meth K C m f ∧ Binds K fd ps []
/-- a class that makes -/
structure Nw (P : Program) (w : World) (K : PySem.W.Frag) (mg : Str → Option Value) (base : Heap) (CX : CXT) (k : Nat) (C : Addr) (x : Str) (ps : List Str) (sp : Sp) : Prop where
  ex : ∃ f fd, FnOk P w K mg base CX k f fd ps sp ∧ Mk K C f ∧ mg x = some (.ref C) ∧ Binds K fd ps []
section
variable {X : Cx} {k : Nat} {C : Addr} {x m : Str} {ps : List Str} {sp : Sp} {o e : Expr} {es : List Expr} {p pos apos : Pos} {ta : TE} {t : TA} {pl : Sem Bool}
theorem pe_md (M : Md X.prog X.w X.K X.mg X.base CX0 k C m ps sp) (cl : Cls X.K C) (hr : Room k X.A) (he : PE X o ta) (ha : PA X (e :: es) t)
    (hst : starEach (e :: es) X.env = (false, eval e X.env) :: starEach es X.env := by rfl) (hpl : (backTo pos (starEach es X.env)).any (·.1) = false := by rfl)
    (ht : eval (.Call (.Attribute o m apos) (e :: es) [] pos) X.env = (do
      let ov ← eval o X.env
      standAt apos.atName
      let (f, first) ← holding [ov] (getMethod ov m pl)
      callWith pos f first (backTo pos (starEach (e :: es) X.env)) (backToKw pos (keywordEach [] X.env))) := by rfl) :
    PE X (.Call (.Attribute o m apos) (e :: es) [] pos) (tMeth C m sp [] E0 ta t) := by
  obtain ⟨f, fd, F, hm, hb⟩ := M.ex
  exact pe_meth he cl hm F hr hb .nil pass0 ha hst hpl ht
theorem pe_md0 (M : Md X.prog X.w X.K X.mg X.base CX0 k C m ps sp) (cl : Cls X.K C) (hr : Room k X.A) (he : PE X o ta)
    (ht : eval (.Call (.Attribute o m apos) [] [] pos) X.env = (do
      let ov ← eval o X.env
      standAt apos.atName
      let (f, first) ← holding [ov] (getMethod ov m pl)
      callWith pos f first (backTo pos (starEach [] X.env)) (backToKw pos (keywordEach [] X.env))) := by rfl) :
    PE X (.Call (.Attribute o m apos) [] [] pos) (tMeth C m sp [] E0 ta tNil) := by
  obtain ⟨f, fd, F, hm, hb⟩ := M.ex
  exact pe_meth0 he cl hm F hr hb .nil pass0 ht
theorem pe_nw (M : Nw X.prog X.w X.K X.mg X.base CX0 k C x ps sp) (hr : Room (k + 1) X.A) (hg : Gl X x) (ha : PA X (e :: es) t) (hdb : (x == ("__debug__" : Str)) = false := by decide)
    (he : starEach (e :: es) X.env = (false, eval e X.env) :: starEach es X.env := by rfl) (hpl : (backTo pos (starEach es X.env)).any (·.1) = false := by rfl) : PE X (.Call (.Name x p) (e :: es) [] pos) (tMake C sp [] E0 t) := by
  obtain ⟨f, fd, F, hk, hm, hb⟩ := M.ex
  exact pe_make hk F hr hg hm hb .nil pass0 ha hdb he hpl
end
section
variable {σ : L2.St} {H : Hp} {C : Addr} {m : Str} {sp : Sp} {E : XK} {ta : TE} {t : TA} {Q : VK} {v : V} {p dx : Addr} {fs : List (Str × V)} {vs : List V}
theorem e_md (h : ta σ H fun x H1 => ∃ a dx fs, x = .ref a ∧ H1 a = some (.ins C dx fs) ∧ fs.lookup m = none ∧ t σ H1 fun vs H2 => sp (x :: vs) H2 Q E) : tMeth C m sp [] E ta t σ H Q := by
  show ta σ H fun x H1 => ∃ a dx fs, x = .ref a ∧ H1 a = some (.ins C dx fs) ∧ fs.lookup m = none ∧ t σ H1 fun vs H2 => sp (x :: (vs ++ [])) H2 Q E
  simpa only [List.append_nil] using h
theorem e_nw (h : t σ H fun vs H1 => ∀ x dx, H1 x = none → H1 dx = none → dx ≠ x → sp (.ref x :: vs) (upd (upd H1 dx (.own x)) x (.ins C dx [])) (fun v H2 => v = .non ∧ Q (.ref x) H2) E) : tMake C sp [] E t σ H Q := by
  show t σ H fun vs H1 => ∀ x dx, H1 x = none → H1 dx = none → dx ≠ x → sp (.ref x :: (vs ++ [])) (upd (upd H1 dx (.own x)) x (.ins C dx [])) (fun v H2 => v = .non ∧ Q (.ref x) H2) E
  simpa only [List.append_nil] using h
end
/-- an object of which only the fields are read -/
structure BO (C : Addr) (F H : Hp) (p dx : Addr) (fs : List (Str × V)) : Prop where
  h : H p = some (.ins C dx fs)
section
variable {α β γ : Type} {K : PySem.W.Frag} {σ : L2.St} {C p q dx : Addr} {fs : List (Str × V)} {H0 F F' H H' : Hp} {to ta : TE} {Q : VK} {a b c m : Str} {u v : V} {o : HO}
theorem BO.step (x : BO C F H p dx fs) (w : Wf F H F' H') : BO C F' H' p dx fs := ⟨w.h _ _ x.h⟩
theorem BO.ne (x : BO C F H p dx fs) (h : H q = none) : p ≠ q := ne_of_none x.h h
theorem BO.frzO {X : Prop} (x : BO C F H q dx fs) (h : X) (hq : q ≠ p) (g : Ex F F') : BO C F' H q dx fs := ⟨x.h⟩
theorem BO.kept (x : BO C F H q dx fs) (h : ∀ q o, H q = some o → q ≠ p → H' q = some o) (hq : q ≠ p) : BO C F H' q dx fs := ⟨h _ _ x.h hq⟩
theorem fl_B (na : NoAttr K C a) (cl : Cls K C) (x : BO C F H p dx fs) (hl : fs.lookup a = some u) (ho : Val to σ H (.ref p)) : Val (tFld K to a) σ H u :=
  fun Q k => ho _ ⟨p, C, dx, fs, u, rfl, x.h, cl, na, hl, k⟩
def kFld (K : PySem.W.Frag) (a : Str) (Q : VK) (x : V) (H1 : Hp) : Prop := ∃ a' C dx fs v, x = .ref a' ∧ H1 a' = some (.ins C dx fs) ∧ Cls K C ∧ NoAttr K C a ∧ fs.lookup a = some v ∧ Q v H1
theorem e_tfld (h : ta σ H (kFld K a Q)) : tFld K ta a σ H Q := h
theorem fl_val (h : Val (tFld K (tC v) a) [] H u) (q : Q u H) : kFld K a Q v H := h Q q
theorem put_ne {f g : Str} {v x : V} {r : List (Str × V)} (h : ¬ g = f) : putF f v ((g, x) :: r) = (g, x) :: putF f v r := if_neg h
theorem put_eq {f : Str} {v x : V} {r : List (Str × V)} : putF f v ((f, x) :: r) = (f, v) :: r := if_pos rfl
theorem Xc.cast {fs' : List (Str × V)} (x : Xc H0 F H p (.ins C dx fs)) (e : fs = fs') : Xc H0 F H p (.ins C dx fs') := e ▸ x
/-- the first field, a dict, as it is borrowed -/
theorem st_bw {κ : Type} [KeyT κ] {e : Rep α} {f : Rep β} {g : Rep γ} {z : List (κ × α) × β × γ} (r : (pO3 C a b c (pD e) f g).r F v z) (h : Ex F H) (h1 : (m == a) = false := by decide +kernel) (h2 : (m == b) = false := by decide +kernel) (h3 : (m == c) = false := by decide +kernel) :
    ∃ p dx fs d, v = .ref p ∧ H p = some (.ins C dx fs) ∧ fs.lookup a = some (.ref d) ∧ BD e F H d z.1 ∧ fs.lookup m = none := by
  obtain ⟨p, dx, fs, rfl, hp, u, w, y, rfl, r1, r2, r3⟩ := r
  obtain ⟨d, rfl, bd⟩ := D_bw r1 h
  exact ⟨p, dx, _, d, rfl, h _ _ hp, lk_eq, bd, (lk_ne h1).trans ((lk_ne h2).trans ((lk_ne h3).trans rfl))⟩
end
section
variable {κ α : Type} [KeyT κ] {e : Rep α} {σ : L2.St} {F0 H0 F H : Hp} {tk tv : TE} {Q : VK} {v : V} {j : κ} {x : α}
/-- {k: v} -/
theorem n_disp1 (hk : ∀ H, Val tk σ H (kV (KeyT.k j))) (hv : ∀ H, Val tv σ H v) (r : e.r F v x) (w : Wf F0 H0 F H) (k : ∀ p H', H p = none → Wf F H F H' → XD e H0 F H' p [(j, x)] → Q (.ref p) H') : tDisp [(tk, tv)] σ H Q := fun p hp => by
  refine hk _ _ (hv _ _ ⟨upd_same, [(KeyT.k j, v)], rfl, (show 1 ≤ 15 by decide), ?_⟩)
  rw [upd_upd]
  exact k p _ hp (Wf.newX w.f hp) ⟨[(KeyT.k j, v)], Xc.mk' w hp, rfl, r, trivial⟩
end
theorem m_list0 {α : Type} {e : Rep α} {K : PySem.W.Frag} {σ : L2.St} {H0 F H : Hp} {p : Addr} {xs : List α} {to : TE} {Q : VK} {r : V → List V → Hp → VK → Prop} (z : XL e H0 F H p xs) (ho : Val to σ H (.ref p)) (k : r (.ref p) [] H Q) : tBM0 K "list" r to σ H Q := ho _ ⟨let ⟨_, a, _⟩ := z.x; Or.inl ⟨rfl, _, Or.inl (Or.inl a.h)⟩, k⟩
end Wk

namespace Wk
open PySem L2
section
variable {K : PySem.W.Frag} {σ : L2.St} {F0 H0 F H H' : Hp} {ta to : TE} {Q : VK} {v : V} {xs : List Nat} {p q : Addr} {x : Nat}
theorem nats_eq {vs : List V} {F : Hp} (a : All pN F vs xs) : vs = (xs.map Int.ofNat).map V.int := a.nats
def maxT (xs : List Nat) : Nat := xs.foldl max 0
theorem maxT_aux : ∀ (xs : List Nat) (a : Nat), a ≤ xs.foldl max a ∧ (∀ y ∈ xs, y ≤ xs.foldl max a) ∧ (xs.foldl max a = a ∨ xs.foldl max a ∈ xs)
  | [], a => ⟨Nat.le_refl _, fun y h => (by cases h), .inl rfl⟩
  | x :: xs, a => by
    obtain ⟨h1, h2, h3⟩ := maxT_aux xs (max a x)
    refine ⟨Nat.le_trans (Nat.le_max_left a x) h1, fun y hy => ?_, ?_⟩
    · rcases List.mem_cons.mp hy with e | m
      · subst e; exact Nat.le_trans (Nat.le_max_right a y) h1
      · exact h2 y m
    · show xs.foldl max (max a x) = a ∨ xs.foldl max (max a x) ∈ x :: xs
      rcases h3 with e | m
      · rw [e]
        rcases Nat.le_total a x with o | o
        · rw [Nat.max_eq_right o]; exact .inr (List.mem_cons_self ..)
        · rw [Nat.max_eq_left o]; exact .inl rfl
      · exact .inr (List.mem_cons_of_mem _ m)
theorem maxT_le {y : Nat} (h : y ∈ xs) : y ≤ maxT xs := (maxT_aux xs 0).2.1 y h
theorem maxT_mem (h : 0 < xs.length) : maxT xs ∈ xs := by
  rcases (maxT_aux xs 0).2.2 with e | m
  · obtain ⟨y, hy⟩ : ∃ y, y ∈ xs := by cases xs with
      | nil => exact absurd h (Nat.lt_irrefl _)
      | cons y _ => exact ⟨y, List.mem_cons_self ..⟩
    have := maxT_le hy
    have e2 : maxT xs = 0 := e
    rw [e2] at this ⊢
    have : y = 0 := by omega
    subst this; exact hy
  · exact m
/-- max(xs) -/
theorem vn_max (r : (pL pN).r F v xs) (f : Ex F H) (hl : 0 < xs.length) (ha : Val ta σ H v) : Val (tCB (L2.rMax K) (tCons ta tNil)) σ H (.int ((maxT xs : Nat) : Int)) := by
  obtain ⟨p, vs, rfl, hp, a⟩ := L_rd r f
  rw [nats_eq a] at hp
  refine v_cb1 ha fun Q k => ⟨p, _, rfl, SqL.of hp, by rw [List.length_map]; exact hl, fun m hm hle => ?_⟩
  have : m = ((maxT xs : Nat) : Int) := by
    obtain ⟨n, hn, rfl⟩ := List.mem_map.mp hm
    have h1 := maxT_le hn
    have h2 := hle _ (List.mem_map.mpr ⟨_, maxT_mem hl, rfl⟩)
    simp only [Int.ofNat_eq_natCast] at h2 ⊢
    omega
  rw [this]; exact k
theorem vn_maxX (r : XL pN H0 F H p xs) (hl : 0 < xs.length) (ha : Val ta σ H (.ref p)) : Val (tCB (L2.rMax K) (tCons ta tNil)) σ H (.int ((maxT xs : Nat) : Int)) := by
  obtain ⟨vs, hp, a⟩ := r.rd
  rw [nats_eq a] at hp
  refine v_cb1 ha fun Q k => ⟨p, _, rfl, SqL.of hp, by rw [List.length_map]; exact hl, fun m hm hle => ?_⟩
  have : m = ((maxT xs : Nat) : Int) := by
    obtain ⟨n, hn, rfl⟩ := List.mem_map.mp hm
    have h1 := maxT_le hn
    have h2 := hle _ (List.mem_map.mpr ⟨_, maxT_mem hl, rfl⟩)
    simp only [Int.ofNat_eq_natCast] at h2 ⊢
    omega
  rw [this]; exact k
theorem sum_nats : ∀ xs : List Nat, (xs.map Int.ofNat).sum = ((xs.sum : Nat) : Int)
  | [] => rfl
  | x :: xs => by rw [List.map_cons, List.sum_cons, List.sum_cons, sum_nats xs]; simp
/-- sum(xs) -/
theorem vn_sum (r : (pL pN).r F v xs) (f : Ex F H) (ha : Val ta σ H v) : Val (tCB (L2.rSum K) (tCons ta tNil)) σ H (.int ((xs.sum : Nat) : Int)) := by
  obtain ⟨p, vs, rfl, hp, a⟩ := L_rd r f
  rw [nats_eq a] at hp
  exact v_cb1 ha fun Q k => ⟨p, _, rfl, SqL.of hp, by rw [sum_nats]; exact k⟩
theorem vn_sumX (r : XL pN H0 F H p xs) (ha : Val ta σ H (.ref p)) : Val (tCB (L2.rSum K) (tCons ta tNil)) σ H (.int ((xs.sum : Nat) : Int)) := by
  obtain ⟨vs, hp, a⟩ := r.rd
  rw [nats_eq a] at hp
  exact v_cb1 ha fun Q k => ⟨p, _, rfl, SqL.of hp, by rw [sum_nats]; exact k⟩
/-- xs.remove(x) -/
theorem first_of {x : Nat} : ∀ {xs : List Nat}, x ∈ xs → ∃ j, xs[j]? = some x ∧ (∀ m, m < j → xs[m]? ≠ some x) ∧ xs.eraseIdx j = xs.erase x
  | [], h => by cases h
  | y :: xs, h => by
    by_cases e : y = x
    · subst e
      exact ⟨0, rfl, fun m hm => absurd hm (Nat.not_lt_zero _), by simp⟩
    · obtain ⟨j, h1, h2, h3⟩ := first_of (xs := xs) ((List.mem_cons.mp h).resolve_left fun z => e z.symm)
      refine ⟨j + 1, by simpa using h1, fun m hm => ?_, ?_⟩
      · cases m with
        | zero => simpa using e
        | succ m => simpa using h2 m (by omega)
      · rw [List.eraseIdx_cons_succ, h3, List.erase_cons_tail (by simpa using e)]
theorem erase_map {α β : Type} (f : α → β) : ∀ (xs : List α) (j : Nat), (xs.map f).eraseIdx j = (xs.eraseIdx j).map f
  | [], _ => rfl
  | _ :: _, 0 => rfl
  | x :: xs, j + 1 => by rw [List.map_cons, List.eraseIdx_cons_succ, List.eraseIdx_cons_succ, List.map_cons, erase_map f xs j]
theorem a_rem (z : XL pN H0 F H p xs) (w : Wf F0 H0 F H) (hx : x ∈ xs) (k : ∀ H', Wf F0 H0 F H' → XL pN H0 F H' p (xs.erase x) → (∀ q o, H q = some o → q ≠ p → H' q = some o) → Q .non H') : L2.rRemI (.ref p) [.int (x : Int)] H Q := by
  obtain ⟨vs, a, b⟩ := z.x
  have e := nats_eq b
  obtain ⟨j, h1, h2, h3⟩ := first_of hx
  have hh := a.h
  rw [e] at hh
  refine ⟨p, _, _, j, rfl, rfl, hh, by rw [List.getElem?_map, h1]; rfl, fun m hm z => h2 m hm ?_, ?_⟩
  · rw [List.getElem?_map] at z
    cases q : xs[m]? with
    | none => rw [q] at z; cases z
    | some y =>
      rw [q] at z
      have : Int.ofNat y = (x : Int) := Option.some.inj z
      have : y = x := by simp only [Int.ofNat_eq_natCast] at this; omega
      rw [this]
  · refine k _ (w.set a) ⟨_, a.set, ?_⟩ fun q o h hq => by rw [upd_ne hq]; exact h
    have e4 : ((xs.map Int.ofNat).eraseIdx j).map V.int = ((xs.erase x).map Int.ofNat).map V.int := by
      rw [← h3, erase_map]
    rw [e4]
    have go : ∀ ys : List Nat, All pN F ((ys.map Int.ofNat).map V.int) ys := by
      intro ys
      induction ys with
      | nil => trivial
      | cons y ys ih => exact ⟨rfl, ih⟩
    exact go _
/-- sorted(d), the keys numbers -/
def rSortedDI : List V → Hp → VK → Prop := fun xs H Q => ∃ (a : Addr) (kvs : List (Key × V)) (ks : List Int), xs = [.ref a] ∧ Rd H a (.dK kvs) ∧ kvs.map (·.1) = ks.map Sum.inl ∧ ks.length < 64 ∧ ∀ (ys : List Int) (p : Addr), ys.Perm ks → ys.Pairwise (· ≤ ·) → H p = none → Q (.ref p) (upd H p (.lst (ys.map V.int)))
theorem DA.nkeys {α : Type} {e : Rep α} {F : Hp} : ∀ {kvs : List (Key × V)} {m : List (Nat × α)}, DA e F kvs m → kvs.map (·.1) = ((m.map (·.1)).map Int.ofNat).map Sum.inl
  | [], [], _ => rfl
  | p :: r, q :: s, ⟨a, _, c⟩ => by rw [List.map_cons, List.map_cons, List.map_cons, List.map_cons, DA.nkeys c, a]; rfl
  | [], _ :: _, q => q.elim
  | _ :: _, [], q => q.elim
theorem n_sortD {α : Type} {e : Rep α} {m : List (Nat × α)} (r : (pD e).r F v m) (w : Wf F0 H0 F H) (hl : m.length < 64) (k : ∀ (ys : List Nat) p H', ys.Perm (m.map (·.1)) → ys.Pairwise (· ≤ ·) → H p = none → Wf F H F H' → XL pN H0 F H' p ys → Q (.ref p) H') : rSortedDI [v] H Q := by
  obtain ⟨p, kvs, rfl, hp, a⟩ := r
  refine ⟨p, kvs, (m.map (·.1)).map Int.ofNat, rfl, .inl (w.f _ _ hp), a.nkeys, by rw [List.length_map, List.length_map]; exact hl, fun ys q hperm hs hq => ?_⟩
  have e1 : ys = (ys.map Int.toNat).map Int.ofNat := by
    rw [List.map_map]
    have : ys.map (Int.ofNat ∘ Int.toNat) = ys.map id := List.map_congr_left fun y hy => by
      obtain ⟨n, _, rfl⟩ := List.mem_map.mp (hperm.mem_iff.mp hy)
      rfl
    rw [this, List.map_id]
  have e2 : (ys.map Int.toNat).Perm (m.map (·.1)) := by
    have := hperm.map Int.toNat
    rw [List.map_map (l := m.map (·.1))] at this
    have z : (m.map (·.1)).map (Int.toNat ∘ Int.ofNat) = (m.map (·.1)).map id := List.map_congr_left fun y _ => rfl
    rw [z, List.map_id] at this
    exact this
  have e3 : (ys.map Int.toNat).Pairwise (· ≤ ·) := List.pairwise_map.mpr (hs.imp fun h => Int.toNat_le_toNat h)
  have go : ∀ zs : List Nat, All pN F ((zs.map Int.ofNat).map V.int) zs := by
    intro zs
    induction zs with
    | nil => trivial
    | cons y zs ih => exact ⟨rfl, ih⟩
  have a2 := go (ys.map Int.toNat)
  rw [← e1] at a2
  exact k _ q _ e2 e3 hq (Wf.newX w.f hq) ⟨_, Xc.mk' w hq, a2⟩
end
end Wk

namespace Wk
open PySem L2
/-- one of two kinds -/
def pAlt {α β : Type} (e : Rep α) (f : Rep β) : Rep (Sum α β) := ⟨fun F v x => match x with | .inl a => e.r F v a | .inr b => f.r F v b, fun {_ _ _ x} h q => by cases x with | inl a => exact e.mono h q | inr b => exact f.mono h q⟩
theorem alt_n {α : Type} {e : Rep α} {F : Hp} {v : V} {x : Sum α Nat} {y : Nat} (r : (pAlt e pN).r F v x) (h : x = Sum.inr y) : v = .int ((y : Nat) : Int) := by subst h; exact r
theorem alt_l {α β : Type} {e : Rep α} {f : Rep β} {F : Hp} {v : V} {x : Sum α β} {y : α} (r : (pAlt e f).r F v x) (h : x = Sum.inl y) : e.r F v y := by subst h; exact r
def rLenD : List V → Hp → VK → Prop := fun xs H Q => ∃ (p : Addr) (kvs : List (Key × V)), xs = [.ref p] ∧ H p = some (.dK kvs) ∧ Q (.int kvs.length) H
theorem len_D {κ α : Type} [DecidableEq κ] [KeyT κ] {e : Rep α} {F H : Hp} {v : V} {m : List (κ × α)} {σ : L2.St} {ta : TE} (r : (pD e).r F v m) (f : Ex F H) (ha : Val ta σ H v) : Val (tCB rLenD (tCons ta tNil)) σ H (.int ((m.length : Nat) : Int)) := by
  obtain ⟨p, kvs, rfl, hp, a⟩ := D_rd r f
  exact v_cb1 ha fun Q k => ⟨p, kvs, rfl, hp, by rw [a.len]; exact k⟩
end Wk
/-! SrtD: sorted(d) of a dict whose keys are numbers, however many (after the rule for fewer than 64, with the sort of SortInts). -/
namespace Wk
open PySem PySem.Spec PyProof.Rows L2
/-- sorted(d), any number of keys -/
def rSortedDX : List V → Hp → VK → Prop := fun xs H Q => ∃ (a : Addr) (kvs : List (Key × V)) (ks : List Int), xs = [.ref a] ∧ Rd H a (.dK kvs) ∧ kvs.map (·.1) = ks.map Sum.inl ∧ ks.length < 1000000 ∧ ∀ (ys : List Int) (p : Addr), ys.Perm ks → ys.Pairwise (· ≤ ·) → H p = none → Q (.ref p) (upd H p (.lst (ys.map V.int)))
section
variable {X : Cx}
theorem call_sortedDX (hcalm : X.calm = true) : CallR X (.builtin "sorted") rSortedDX := by
  intro pins s σ H xs us Q Iv rr qq
  obtain ⟨da, kvs, ks, ex, hd, hks, hbig, qq⟩ := qq
  subst ex
  obtain ⟨u1, eu, rx⟩ := vals1 rr
  subst eu
  cases rx
  obtain ⟨zz, lo, vs, rel, dd⟩ := dk_rd Iv.hok hd
  obtain ⟨ep, hat⟩ := dd.dictAt
  have hks2 : vs.map (·.1) = ks.map Sum.inl := rel.keys.symm.trans hks
  have hln : vs.length = ks.length := by
    have el := congrArg List.length hks2
    rw [List.length_map, List.length_map] at el; exact el
  have hsz : ks.length ≤ sizeLine := by rw [sizeLine_eq]; omega
  refine Calls.call_function_entry kind_sorted plain_sorted entry_sorted (args_sorted1 _) ?_
  unfold Builtin.«sorted»
  refine wpAny_bind (m := checkCount "sorted" 1 1 _) (wpAny_pure ?_)
  refine wpAny_bind (PySem.W.kdu_collect (A := X.A.in1) (PySem.W.kdl_dict (knd := mixKind X.prog X.w) (kvs := vs) (ep := ep) lo) (Iv.ok.hd hcalm) hat (by rw [hln]; exact hsz) fun hp2 tk2 ac hkp hac => ?_)
  have hal2 : ac.toList.length = ks.length := by rw [Array.length_toList, hac.1, hln]
  have hInt : IntsAre ac.toList ks := ints_each hal2 fun j v e => by
    obtain ⟨key, x, e1, e2⟩ := hac.2 j v (by rw [← Array.getElem?_toList]; exact e)
    have e3 : (vs.map (·.1))[j]? = some key := by rw [List.getElem?_map, e1]; rfl
    rw [hks2, List.getElem?_map] at e3
    cases e4 : ks[j]? with
    | none => rw [e4] at e3; cases e3
    | some y =>
      rw [e4] at e3
      have e5 : Sum.inl y = key := Option.some.inj e3
      subst e5
      rcases keyIs_shape (show keyIs (Sum.inl y) v = true from e2) with ⟨i, t, ek, ev⟩ | ⟨z, t, ek, ev⟩
      · cases ek; exact ⟨y, t, rfl, ev⟩
      · cases ek
  have Iv2 : Inv X pins σ H { s with heap := hp2, toks := tk2 } := Iv.kept hkp
  refine wpAny_bind (wpAny_newList ?_ (by rw [hal2]; exact hsz))
  have hob2 : (hp2.push (seqObj "list" ac.toList.toArray 0)).get? hp2.objs.size = some (seqObj "list" ac.toList.toArray 0) := Heap.get?_push_size _ rfl
  show wpAny _ _ _ _ _ { s with heap := hp2.push (seqObj "list" ac.toList.toArray 0), toks := tk2 }
  refine wpAny_bind (wpAny_holding (wpAny_call_entry slot_list_sort ⟨_, hob2, rfl⟩ entry_list_sort
    (SrtO.list_sort_ord (s := { s with heap := hp2.push (seqObj "list" ac.toList.toArray 0), toks := tk2 }) SrtO.swo_int hob2 (by rw [hal2]; exact hsz) (fun h2 => SrtO.ints_sortable hInt h2) fun out g1 g2 => ⟨_, rfl, ?_⟩) (args_list_sort _)))
  obtain ⟨k1, k2, k3⟩ := SrtO.ints_out hInt g1 g2
  obtain ⟨ep2, hep2⟩ := sortedHeap_at (vs := ac.toList) (out := out.toArray) hob2
  have hlen2 : ((out.map SrtO.iv).map V.int).length ≤ sizeLine := by rw [List.length_map, k2.length_eq]; exact hsz
  refine wpAny_pure ⟨_, rfl, .ref hp2.objs.size, upd H hp2.objs.size (.lst ((out.map SrtO.iv).map V.int)), Iv2.laid (t' := tk2) (fun b u e => ?_) (Nat.le_refl _)
    (show ObjOk X.prog X.w _ _ _ (.lst ((out.map SrtO.iv).map V.int)) from ⟨hlen2, out, ep2, vals_of_ints k1, hep2⟩), rfl, qq _ _ k2 k3 (Iv2.hok.fresh (Nat.le_refl _))⟩
  have hbl : b < hp2.objs.size := Heap.lt_size e
  rw [sortedHeap_old (Nat.ne_of_lt hbl) (by rw [size_push']; exact Nat.lt_succ_of_lt hbl)]
  exact Heap.get?_push_of_some _ e
end
section
variable {K : PySem.W.Frag} {F0 H0 F H H' : Hp} {Q : VK} {v : V}
theorem n_sortDX {α : Type} {e : Rep α} {m : List (Nat × α)} (r : (pD e).r F v m) (w : Wf F0 H0 F H) (hl : m.length < 1000000) (k : ∀ (ys : List Nat) p H', ys.Perm (m.map (·.1)) → ys.Pairwise (· ≤ ·) → H p = none → Wf F H F H' → XL pN H0 F H' p ys → Q (.ref p) H') : rSortedDX [v] H Q := by
  obtain ⟨p, kvs, rfl, hp, a⟩ := r
  refine ⟨p, kvs, (m.map (·.1)).map Int.ofNat, rfl, .inl (w.f _ _ hp), a.nkeys, by rw [List.length_map, List.length_map]; exact hl, fun ys q hperm hs hq => ?_⟩
  have e1 : ys = (ys.map Int.toNat).map Int.ofNat := by
    rw [List.map_map]
    have : ys.map (Int.ofNat ∘ Int.toNat) = ys.map id := List.map_congr_left fun y hy => by
      obtain ⟨n, _, rfl⟩ := List.mem_map.mp (hperm.mem_iff.mp hy)
      rfl
    rw [this, List.map_id]
  have e2 : (ys.map Int.toNat).Perm (m.map (·.1)) := by
    have := hperm.map Int.toNat
    rw [List.map_map (l := m.map (·.1))] at this
    have z : (m.map (·.1)).map (Int.toNat ∘ Int.ofNat) = (m.map (·.1)).map id := List.map_congr_left fun y _ => rfl
    rw [z, List.map_id] at this
    exact this
  have e3 : (ys.map Int.toNat).Pairwise (· ≤ ·) := List.pairwise_map.mpr (hs.imp fun h => Int.toNat_le_toNat h)
  have go : ∀ zs : List Nat, All pN F ((zs.map Int.ofNat).map V.int) zs := by
    intro zs
    induction zs with
    | nil => trivial
    | cons y zs ih => exact ⟨rfl, ih⟩
  have a2 := go (ys.map Int.toNat)
  rw [← e1] at a2
  exact k _ q _ e2 e3 hq (Wf.newX w.f hq) ⟨_, Xc.mk' w hq, a2⟩
end
end Wk
namespace My
open PySem L2 Wk
def topS (i : Nat) : Stmt := PySem.Challenge.pw_sumwires_k45_whole_every_wish.main.body.getD i (.Pass ⟨0, 0, 0, 0⟩)
structure Cz where
  Steps : Addr
structure Tz (K : PySem.W.Frag) (mg : Str → Option Value) (cc : Cz) : Prop where
  cl_Steps : Cls K cc.Steps
  na_Steps_kept : NoAttr K cc.Steps "kept"
  na_Steps_found : NoAttr K cc.Steps "found"
  na_Steps_gone : NoAttr K cc.Steps "gone"
abbrev s_even : Stmt := topS 1
/-! even -/
def W_even (number1 : Nat) (R : Bool → Prop) : Prop := whileW (fun (many1, number2) T => T (decide (0 < number2))) (fun (many1, number2) nx1 bk1 => ∀ many2 : Nat, many2 = many1 ^^^ (number2 &&& 1) → ∀ number3 : Nat, number3 = number2 >>> 1 → nx1 (many2, number3)) (0, number1) fun (many1, number2) => R (decide (many1 = 0))
def sp_even (K : PySem.W.Frag) (cc : Cz) : Sp := fun vs H Q _ => ∃ (F : Hp) (number1 : Nat) (R : Bool → Prop), vs = [(.int ((number1 : Nat) : Int))] ∧ Ex F H ∧ W_even number1 R ∧ ∀ z, R z → ∀ F' H', Wf F H F' H' → Q (.bl (z)) H'
abbrev N_even : List Str := ["number", "many"]
theorem sc_even : FnScope N_even ["number"] (defScope s_even) := ⟨rfl, rfl, rfl, by decide +kernel, rfl, by decide +kernel, by decide +kernel⟩
theorem ok_even {P : Program} {w0 : World} {K : PySem.W.Frag} {mg : Str → Option Value} {base : Heap} {f : Addr} {fd : FuncData} {cc : Cz} (T : Tz K mg cc) (FU : Fun K "even" "even" s_even f fd) (hm : mg "even" = some (.ref f)) (hb : Binds K fd ["number"] []) : Fn P w0 K mg base CX0 1 "even" ["number"] (sp_even K cc) := by
  refine ⟨f, fd, FU.ok sc_even (fun vs H Q E h => ?_) (fun cdv A outer s H0 vs Q E hr h => ?_), hm, FU.kp, hb⟩
  · obtain ⟨_, _, _, rfl, _⟩ := h; rfl
  · obtain ⟨F0, number1, R, rfl, wf, hW, hQ⟩ := h
    have nd := sc_even.nd
    refine ⟨(tSeq (tAsg (tC (.int 0)) (gName 1)) (tSeq (tWhile (tTest (tOp kGt (tVar 0) (tC (.int 0)))) (tSeq (tAug 1 (tOp kAnd (tVar 0) (tC (.int 1))) kXor) (tAug 0 (tC (.int 1)) kShr))) (tRet (tOp L2.rEq (tVar 1) (tC (.int 0)))))), (pss_cons (ps_set (i := 1) nd rfl (Or.inl rfl) pe_int) (pss_cons (ps_while PassesOwn.never (pt_cmpR op_gt (pv 0) pe_int (nomark _)) (pss_cons (ps_aug (i := 1) nd rfl (Or.inl rfl) (pe_op op_and (pv 0) pe_int) iop_xor) (pss_one (ps_aug (i := 0) nd rfl (Or.inl rfl) pe_int iop_shr)))) (pss_one (ps_ret (pe_cmpR op_eq (pv 1) pe_int (nomark _)))))), ?_⟩
    have w := Wf.id wf
    refine q_sq fun N1 hN1 => ?_
    refine a_asg (v := (.int ((0 : Nat) : Int))) val_c ?_
    refine hN1 _ _ ?_
    refine q_sq fun N2 hN2 => ?_
    refine w_while (S := Nat × Nat) (fun s σ' F' H' => match s with | (many1, number2) => Wf F0 H0 F' H' ∧ Ex F0 F' ∧ σ' = [some (.int ((number2 : Nat) : Int)), some (.int ((many1 : Nat) : Int))]) hW ⟨w, Ex.rfl', rfl⟩ ?_ ?_ ?_
    · intro s1 σ' F1 H1 T1 Qc1 hI1 hW hT1
      obtain ⟨many1, number2⟩ := s1
      obtain ⟨w, gx1, rfl⟩ := hI1
      refine e_ans (b := decide (0 < number2)) (t_of (vb_dec (c_gt (val_var rfl) val_c) n_lt)) ?_
      exact hT1 _ _ _ ⟨w, gx1, rfl⟩ hW
    · intro N3 Bk1 s2 σ' F2 H2 nx1 bk1 hI2 hW hN3 hB1
      obtain ⟨many1, number2⟩ := s2
      obtain ⟨w, gx2, rfl⟩ := hI2
      refine q_sq fun N4 hN4 => ?_
      obtain ⟨many2, emany1⟩ : ∃ many2 : Nat, many2 = many1 ^^^ (number2 &&& 1) := ⟨_, rfl⟩
      replace hW := hW many2 emany1
      refine a_augV (x := (.int ((many1 : Nat) : Int))) (y := (.int ((number2 &&& 1 : Nat) : Int))) (z := (.int ((many2 : Nat) : Int))) rfl (vn_and (val_var rfl) val_c) (v_eq (vn_xor val_c val_c) (by rw [emany1])) ?_
      refine hN4 _ _ ?_
      obtain ⟨number3, enumber1⟩ : ∃ number3 : Nat, number3 = number2 >>> 1 := ⟨_, rfl⟩
      replace hW := hW number3 enumber1
      refine a_augV (x := (.int ((number2 : Nat) : Int))) (y := (.int ((1 : Nat) : Int))) (z := (.int ((number3 : Nat) : Int))) rfl val_c (v_eq (vn_shr val_c val_c) (by rw [enumber1])) ?_
      exact hN3 (many2, number3) _ _ _ ⟨w, gx2, rfl⟩ hW
    · intro s3 σ' F3 H3 hI3 hW
      obtain ⟨many1, number2⟩ := s3
      obtain ⟨w, gx3, rfl⟩ := hI3
      refine hN2 _ _ ?_
      refine a_ret (v := (.bl (decide (many1 = 0)))) (vb_dec (c_eqI (val_var rfl) val_c) n_eq) ?_
      exact hQ _ hW _ _ w
abbrev s_bits_of : Stmt := topS 2
/-! bits_of -/
def W_bits_of (mask1 : Nat) (R : (List Nat) → Prop) : Prop := whileW (fun (found1, mask2, place1) T => T (decide (0 < mask2))) (fun (found1, mask2, place1) nx1 bk1 => jn (fun kk => if (mask2 &&& 1) = 1 then ((found1.length < 1000000) ∧ kk (found1 ++ [place1])) else (kk found1)) fun found2 => ∀ mask3 : Nat, mask3 = mask2 >>> 1 → ∀ place2 : Nat, place2 = place1 + 1 → nx1 (found2, mask3, place2)) (([] : List Nat), mask1, 0) fun (found1, mask2, place1) => R found1
def sp_bits_of (K : PySem.W.Frag) (cc : Cz) : Sp := fun vs H Q _ => ∃ (F : Hp) (mask1 : Nat) (R : (List Nat) → Prop), vs = [(.int ((mask1 : Nat) : Int))] ∧ Ex F H ∧ W_bits_of mask1 R ∧ ∀ z, R z → ∀ p F' H', Wf F H F' H' → XL pN H F' H' p z → Q (.ref p) H'
abbrev N_bits_of : List Str := ["mask", "found", "place"]
theorem sc_bits_of : FnScope N_bits_of ["mask"] (defScope s_bits_of) := ⟨rfl, rfl, rfl, by decide +kernel, rfl, by decide +kernel, by decide +kernel⟩
theorem ok_bits_of {P : Program} {w0 : World} {K : PySem.W.Frag} {mg : Str → Option Value} {base : Heap} {f : Addr} {fd : FuncData} {cc : Cz} (T : Tz K mg cc) (FU : Fun K "bits_of" "bits_of" s_bits_of f fd) (hm : mg "bits_of" = some (.ref f)) (hb : Binds K fd ["mask"] []) : Fn P w0 K mg base CX0 1 "bits_of" ["mask"] (sp_bits_of K cc) := by
  refine ⟨f, fd, FU.ok sc_bits_of (fun vs H Q E h => ?_) (fun cdv A outer s H0 vs Q E hr h => ?_), hm, FU.kp, hb⟩
  · obtain ⟨_, _, _, rfl, _⟩ := h; rfl
  · obtain ⟨F0, mask1, R, rfl, wf, hW, hQ⟩ := h
    have nd := sc_bits_of.nd
    refine ⟨(tSeq (tAsg (tLst tNil) (gName 1)) (tSeq (tAsg (tC (.int 0)) (gName 2)) (tSeq (tWhile (tTest (tOp kGt (tVar 0) (tC (.int 0)))) (tSeq (tIfS (tTest (tOp L2.rEq (tOp kAnd (tVar 0) (tC (.int 1))) (tC (.int 1)))) (tDrop (tBM K "list" rAppend (tVar 1) (tCons (tVar 2) tNil))) tNext) (tSeq (tAug 0 (tC (.int 1)) kShr) (tAug 2 (tC (.int 1)) kAdd)))) (tRet (tVar 1))))), (pss_cons (ps_set (i := 1) nd rfl (Or.inl rfl) (pe_lst pa_nil)) (pss_cons (ps_set (i := 2) nd rfl (Or.inl rfl) pe_int) (pss_cons (ps_while PassesOwn.never (pt_cmpR op_gt (pv 0) pe_int (nomark _)) (pss_cons (ps_if (pt_cmpR op_eq (pe_op op_and (pv 0) pe_int) pe_int (nomark _)) (pss_one (ps_expr (pe_bm PySem.F.plainAttrs_list PySem.F.slot_list_append PySem.F.type_list_append mt_append (pv 1) (pa_cons (pv 2) pa_nil)))) pss_nil) (pss_cons (ps_aug (i := 0) nd rfl (Or.inl rfl) pe_int iop_shr) (pss_one (ps_aug (i := 2) nd rfl (Or.inl rfl) pe_int iop_add))))) (pss_one (ps_ret (pv 1)))))), ?_⟩
    have w := Wf.id wf
    refine q_sq fun N1 hN1 => ?_
    refine a_asgE ?_
    refine e_lst ?_
    refine a_nil ?_
    refine n_lstX (e := pN) (xs := []) (vs := []) (show All pN _ [] [] from trivial) (show 0 < 1000000 from by decide) w ?_
    intro p1 H1 hp1 s1 x1
    replace w := w.tr s1
    refine hN1 _ _ ?_
    refine q_sq fun N2 hN2 => ?_
    refine a_asg (v := (.int ((0 : Nat) : Int))) val_c ?_
    refine hN2 _ _ ?_
    refine q_sq fun N3 hN3 => ?_
    refine w_while (S := List Nat × Nat × Nat) (fun s σ' F' H' => match s with | (found1, mask2, place1) => Wf F0 H0 F' H' ∧ Ex F0 F' ∧ σ' = [some (.int ((mask2 : Nat) : Int)), some ((.ref p1)), some (.int ((place1 : Nat) : Int))] ∧ XL pN H0 F' H' p1 found1) hW ⟨w, Ex.rfl', rfl, x1⟩ ?_ ?_ ?_
    · intro s2 σ' F1 H2 T1 Qc1 hI1 hW hT1
      obtain ⟨found1, mask2, place1⟩ := s2
      obtain ⟨w, gx1, rfl, x2⟩ := hI1
      refine e_ans (b := decide (0 < mask2)) (t_of (vb_dec (c_gt (val_var rfl) val_c) n_lt)) ?_
      exact hT1 _ _ _ ⟨w, gx1, rfl, x2⟩ hW
    · intro N4 Bk1 s3 σ' F2 H3 nx1 bk1 hI2 hW hN4 hB1
      obtain ⟨found1, mask2, place1⟩ := s3
      obtain ⟨w, gx2, rfl, x2⟩ := hI2
      refine q_jn (S := List Nat) hW (fun found2 σ' F' H' => Wf F0 H0 F' H' ∧ Ex F2 F' ∧ σ' = [some (.int ((mask2 : Nat) : Int)), some ((.ref p1)), some (.int ((place1 : Nat) : Int))] ∧ XL pN H0 F' H' p1 found2) ?_ ?_
      · intro N5 hN5 hW
        have gx3 : Ex F2 F2 := Ex.rfl'
        refine a_ifE ?_
        refine e_ans (b := decide ((mask2 &&& 1) = 1)) (t_of (vb_dec (c_eqI (vn_and (val_var rfl) val_c) val_c) n_eq)) ?_
        refine b_if (fun hc1 => ?_) (fun hc1 => ?_)
        · have hW := ifP hW hc1
          refine a_dropE ?_
          refine m_list x2 (val_var rfl) ?_
          refine a_val (v := (.int ((place1 : Nat) : Int))) (val_var rfl) ?_
          refine a_nil ?_
          obtain ⟨c1, hW⟩ := hW
          refine a_app x2 w c1 rfl (fun H4 w1 x4 kp1 => ?_)
          replace w := w1
          exact hN5 (found1 ++ [place1]) _ _ _ ⟨w, gx3, rfl, x4⟩ hW
        · have hW := ifN hW hc1
          exact hN5 found1 _ _ _ ⟨w, gx3, rfl, x2⟩ hW
      · intro found2 σ' F3 H5 hI3 hW
        obtain ⟨w, gx4, rfl, x3⟩ := hI3
        have gx2 := Ex.tr gx2 gx4
        refine q_sq fun N6 hN6 => ?_
        obtain ⟨mask3, emask1⟩ : ∃ mask3 : Nat, mask3 = mask2 >>> 1 := ⟨_, rfl⟩
        replace hW := hW mask3 emask1
        refine a_augV (x := (.int ((mask2 : Nat) : Int))) (y := (.int ((1 : Nat) : Int))) (z := (.int ((mask3 : Nat) : Int))) rfl val_c (v_eq (vn_shr val_c val_c) (by rw [emask1])) ?_
        refine hN6 _ _ ?_
        obtain ⟨place2, eplace1⟩ : ∃ place2 : Nat, place2 = place1 + 1 := ⟨_, rfl⟩
        replace hW := hW place2 eplace1
        refine a_augV (x := (.int ((place1 : Nat) : Int))) (y := (.int ((1 : Nat) : Int))) (z := (.int ((place2 : Nat) : Int))) rfl val_c (v_eq (vn_add val_c val_c) (by rw [eplace1])) ?_
        exact hN4 (found2, mask3, place2) _ _ _ ⟨w, gx2, rfl, x3⟩ hW
    · intro s5 σ' F4 H6 hI4 hW
      obtain ⟨found1, mask2, place1⟩ := s5
      obtain ⟨w, gx5, rfl, x2⟩ := hI4
      refine hN3 _ _ ?_
      refine a_ret (v := (.ref p1)) (val_var rfl) ?_
      exact hQ _ hW _ _ _ w x2
abbrev s_Steps_lowered : Stmt := inClass (topS 4) 1
/-! Steps.lowered -/
def W_Steps_lowered (kept1 : List (Nat × (Nat × Nat))) (row1 : Nat) (places1 : Nat) (R : (Nat × Nat) → Prop) : Prop := whileW (fun (row2, places2) T => T (decide (hasT kept1 (bits row2) = true))) (fun (row2, places2) nx1 bk1 => ∃ x3, valT kept1 (bits row2) = some x3 ∧ ∀ row3 : Nat, row3 = row2 ^^^ x3.1 → ∀ places3 : Nat, places3 = places2 ^^^ x3.2 → nx1 (row3, places3)) (row1, places1) fun (row2, places2) => R (row2, places2)
def sp_Steps_lowered (K : PySem.W.Frag) (cc : Cz) : Sp := fun vs H Q _ => ∃ (F : Hp) (ob dx d : Addr) (fs : List (Str × V)) (kept1 : List (Nat × (Nat × Nat))) (row1 : Nat) (places1 : Nat) (R : (Nat × Nat) → Prop), vs = [(.ref ob), (.int ((row1 : Nat) : Int)), (.int ((places1 : Nat) : Int))] ∧ Ex F H ∧ H ob = some (.ins cc.Steps dx fs) ∧ fs.lookup ("kept" : Str) = some (V.ref d) ∧ BD (pT2 pN pN) F H d kept1 ∧ W_Steps_lowered kept1 row1 places1 R ∧ ∀ z, R z → ∀ v F' H', Wf F H F' H' → (pT2 pN pN).r F' v z → Q v H'
abbrev N_Steps_lowered : List Str := ["self", "row", "places", "other", "more"]
theorem sc_Steps_lowered : FnScope N_Steps_lowered ["self", "row", "places"] (defScope s_Steps_lowered) := ⟨rfl, rfl, rfl, by decide +kernel, rfl, by decide +kernel, by decide +kernel⟩
theorem ok_Steps_lowered {P : Program} {w0 : World} {K : PySem.W.Frag} {mg : Str → Option Value} {base : Heap} {f : Addr} {fd : FuncData} {cc : Cz} (T : Tz K mg cc) (FU : Fun K "lowered" "Steps.lowered" s_Steps_lowered f fd) (hm : Meth K cc.Steps "lowered" f) (hb : Binds K fd ["self", "row", "places"] []) : Md P w0 K mg base CX0 1 cc.Steps "lowered" ["self", "row", "places"] (sp_Steps_lowered K cc) := by
  refine ⟨f, fd, FU.ok sc_Steps_lowered (fun vs H Q E h => ?_) (fun cdv A outer s H0 vs Q E hr h => ?_), hm, hb⟩
  · obtain ⟨_, _, _, _, _, _, _, _, _, rfl, _⟩ := h; rfl
  · obtain ⟨F0, ob, dx, d, fs, kept1, row1, places1, R, rfl, wf, hob, lk_kept, bd, hW, hQ⟩ := h
    have nd := sc_Steps_lowered.nd
    refine ⟨(tSeq (tWhile (tB (tDIn (tBits (tVar 1)) (tFld K (tVar 0) "kept"))) (tSeq (tAsg (tDGet (tFld K (tVar 0) "kept") (tBits (tVar 1))) (gTup K 2 (gCons (gName 3) (gCons (gName 4) gNil)))) (tSeq (tAug 1 (tVar 3) kXor) (tAug 2 (tVar 4) kXor)))) (tRet (tTup (tCons (tVar 1) (tCons (tVar 2) tNil))))), (pss_cons (ps_while PassesOwn.never (pt_cmp (pc_din (hu_of hr) (pe_bits (pv 1)) (pe_fld (pv 0) rfl))) (pss_cons (ps_asg (pe_dget (hu_of hr) (pe_fld (pv 0) rfl) (pe_bits (pv 1)) (fun _ _ => rfl)) (pg_tup rfl (pgs_cons (pg_name (i := 3) nd rfl (Or.inl rfl)) (pgs_cons (pg_name (i := 4) nd rfl (Or.inl rfl)) pgs_nil)) (by rfl))) (pss_cons (ps_aug (i := 1) nd rfl (Or.inl rfl) (pv 3) iop_xor) (pss_one (ps_aug (i := 2) nd rfl (Or.inl rfl) (pv 4) iop_xor))))) (pss_one (ps_ret (pe_tup (pa_cons (pv 1) (pa_cons (pv 2) pa_nil)))))), ?_⟩
    have bo : BO cc.Steps F0 H0 ob dx fs := ⟨hob⟩
    have w := Wf.id wf
    refine q_sq fun N1 hN1 => ?_
    refine w_while (S := Nat × Nat) (fun s σ' F' H' => match s with | (row2, places2) => ∃ (o1 : Option V) (o2 : Option V), Wf F0 H0 F' H' ∧ Ex F0 F' ∧ σ' = [some (.ref ob), some (.int ((row2 : Nat) : Int)), some (.int ((places2 : Nat) : Int)), o1, o2] ∧ BO cc.Steps F' H' ob dx fs ∧ BD (pT2 pN pN) F' H' d kept1) hW ⟨_, _, w, Ex.rfl', rfl, bo, bd⟩ ?_ ?_ ?_
    · intro s1 σ' F1 H1 T1 Qc1 hI1 hW hT1
      obtain ⟨row2, places2⟩ := s1
      obtain ⟨o1, o2, w, gx1, rfl, x1, x2⟩ := hI1
      refine e_ans (b := decide (hasT kept1 (bits row2) = true)) (t_ofB (vb_of (in_BD (j := bits row2) x2 (vn_bitl (val_var rfl)) (fl_B (na := T.na_Steps_kept) T.cl_Steps x1 lk_kept (val_var rfl))) dec_tt)) ?_
      exact hT1 _ _ _ ⟨_, _, w, gx1, rfl, x1, x2⟩ hW
    · intro N2 Bk1 s2 σ' F2 H2 nx1 bk1 hI2 hW hN2 hB1
      obtain ⟨row2, places2⟩ := s2
      obtain ⟨o1, o2, w, gx2, rfl, x1, x2⟩ := hI2
      refine q_sq fun N3 hN3 => ?_
      refine a_asgG ?_
      obtain ⟨x3, hx1, hW⟩ := hW
      obtain ⟨v1, r1, ix1⟩ := ix_BD x2 hx1
      refine e_val (v := v1) (ix1 (fl_B (na := T.na_Steps_kept) T.cl_Steps x1 lk_kept (val_var rfl)) (vn_bitl (val_var rfl))) ?_
      obtain ⟨p1, u1, u2, rfl, h1, rfl, rfl⟩ := r1
      refine ⟨p1, _, rfl, SqT.of (w.f _ _ h1), rfl, _, _, rfl, _, _, rfl, rfl, ?_⟩
      refine hN3 _ _ ?_
      refine q_sq fun N4 hN4 => ?_
      obtain ⟨row3, erow1⟩ : ∃ row3 : Nat, row3 = row2 ^^^ x3.1 := ⟨_, rfl⟩
      replace hW := hW row3 erow1
      refine a_augV (x := (.int ((row2 : Nat) : Int))) (y := (.int ((x3.1 : Nat) : Int))) (z := (.int ((row3 : Nat) : Int))) rfl (val_var rfl) (v_eq (vn_xor val_c val_c) (by rw [erow1])) ?_
      refine hN4 _ _ ?_
      obtain ⟨places3, eplaces1⟩ : ∃ places3 : Nat, places3 = places2 ^^^ x3.2 := ⟨_, rfl⟩
      replace hW := hW places3 eplaces1
      refine a_augV (x := (.int ((places2 : Nat) : Int))) (y := (.int ((x3.2 : Nat) : Int))) (z := (.int ((places3 : Nat) : Int))) rfl (val_var rfl) (v_eq (vn_xor val_c val_c) (by rw [eplaces1])) ?_
      exact hN2 (row3, places3) _ _ _ ⟨_, _, w, gx2, rfl, x1, x2⟩ hW
    · intro s3 σ' F3 H3 hI3 hW
      obtain ⟨row2, places2⟩ := s3
      obtain ⟨o1, o2, w, gx3, rfl, x1, x2⟩ := hI3
      refine hN1 _ _ ?_
      refine a_retE ?_
      refine e_tup ?_
      refine a_val (v := (.int ((row2 : Nat) : Int))) (val_var rfl) ?_
      refine a_val (v := (.int ((places2 : Nat) : Int))) (val_var rfl) ?_
      refine a_nil ?_
      refine n_tup2 (e := pN) (f := pN) (x := row2) (y := places2) rfl rfl w ?_
      intro p2 F4 H4 s4 r2
      replace x1 := x1.step s4
      replace x2 := x2.step s4
      replace w := w.tr s4
      replace gx3 := Ex.tr gx3 s4.g
      exact hQ _ hW _ _ _ w r2
abbrev s_Steps_crossing : Stmt := inClass (topS 4) 2
/-! Steps.crossing -/
def W_Steps_crossing (self1 : List (Nat × (Nat × Nat)) × List Nat × List Nat) (bit1 : Nat) (R : Nat → Prop) : Prop := (bit1 < 100000000) ∧ ∀ mask1 : Nat, mask1 = 2 ^ bit1 → (self1.1.length < 1000000) ∧ ∀ ys1 : List Nat, ys1.Perm (self1.1.map (·.1)) → ys1.Pairwise (· ≤ ·) → forW ys1 mask1 (fun top1 mask2 nx1 bk1 => ∃ x2, valT self1.1 top1 = some x2 ∧ ∃ x3, valT self1.1 top1 = some x3 ∧ ∀ row1 : Nat, row1 = x3.1 → W_even (row1 &&& mask2) fun z1 => if z1 = true then (nx1 mask2) else ((1 ≤ top1) ∧ (top1 - 1 < 100000000) ∧ ∀ mask3 : Nat, mask3 = mask2 ^^^ (2 ^ (top1 - 1)) → nx1 mask3)) fun mask2 => R mask2
def sp_Steps_crossing (K : PySem.W.Frag) (cc : Cz) : Sp := fun vs H Q _ => ∃ (F : Hp) (v1 : V) (self1 : List (Nat × (Nat × Nat)) × List Nat × List Nat) (bit1 : Nat) (R : Nat → Prop), vs = [v1, (.int ((bit1 : Nat) : Int))] ∧ Ex F H ∧ (pO3 cc.Steps "kept" "found" "gone" (pD (κ := Nat) (pT2 pN pN)) (pL pN) (pL pN)).r F v1 self1 ∧ W_Steps_crossing self1 bit1 R ∧ ∀ z, R z → ∀ F' H', Wf F H F' H' → Q (.int ((z : Nat) : Int)) H'
abbrev N_Steps_crossing : List Str := ["self", "bit", "mask", "top", "row"]
theorem sc_Steps_crossing : FnScope N_Steps_crossing ["self", "bit"] (defScope s_Steps_crossing) := ⟨rfl, rfl, rfl, by decide +kernel, rfl, by decide +kernel, by decide +kernel⟩
theorem ok_Steps_crossing {P : Program} {w0 : World} {K : PySem.W.Frag} {mg : Str → Option Value} {base : Heap} {f : Addr} {fd : FuncData} {cc : Cz} (T : Tz K mg cc) (FU : Fun K "crossing" "Steps.crossing" s_Steps_crossing f fd) (hm : Meth K cc.Steps "crossing" f) (hb : Binds K fd ["self", "bit"] []) (c_even : Fn P w0 K mg base CX0 1 "even" ["number"] (sp_even K cc)) (n_sorted : mg "sorted" = none) : Md P w0 K mg base CX0 2 cc.Steps "crossing" ["self", "bit"] (sp_Steps_crossing K cc) := by
  refine ⟨f, fd, FU.ok sc_Steps_crossing (fun vs H Q E h => ?_) (fun cdv A outer s H0 vs Q E hr h => ?_), hm, hb⟩
  · obtain ⟨_, _, _, _, _, rfl, _⟩ := h; rfl
  · obtain ⟨F0, v1, self1, bit1, R, rfl, wf, r1, hW, hQ⟩ := h
    have nd := sc_Steps_crossing.nd
    refine ⟨(tSeq (tAsg (tOp kShl (tC (.int 1)) (tVar 1)) (gName 2)) (tSeq (tFor (iList K (tCB rSortedDX (tCons (tFld K (tVar 0) "kept") tNil))) (gName 3) (tSeq (tAsg (tOp (L2.rIxT K) (tDGet (tFld K (tVar 0) "kept") (tVar 3)) (tC (.int 0))) (gName 4)) (tIfS (tNot (tB (tCall (sp_even K cc) [] E0 (tCons (tOp kAnd (tVar 4) (tVar 2)) tNil)))) (tAug 2 (tOp kShl (tC (.int 1)) (tOp kSub (tVar 3) (tC (.int 1)))) kXor) tNext))) (tRet (tVar 2)))), (pss_cons (ps_set (i := 2) nd rfl (Or.inl rfl) (pe_op op_shlW pe_int (pv 1))) (pss_cons (ps_for PassesOwn.never rfl (pi_list (pe_callB (call_sortedDX rfl) (by rfl) n_sorted PyProof.Rows.boot_sorted (pa_cons (pe_fld (pv 0) rfl) pa_nil))) (pg_name (i := 3) nd rfl (Or.inl rfl)) (pss_cons (ps_set (i := 4) nd rfl (Or.inl rfl) (pe_ix ix_tup (pe_dget (hu_of hr) (pe_fld (pv 0) rfl) (pv 3) (fun _ _ => rfl)) pe_int (fun _ _ => rfl))) (pss_one (ps_if (pt_not (pt_val (pe_fn c_even (hr.mono (by decide)) rfl (pa_cons (pe_op op_and (pv 4) (pv 2)) pa_nil)))) (pss_one (ps_aug (i := 2) nd rfl (Or.inl rfl) (pe_op op_shlW pe_int (pe_op op_sub (pv 3) pe_int)) iop_xor)) pss_nil)))) (pss_one (ps_ret (pv 2))))), ?_⟩
    have w := Wf.id wf
    refine q_sq fun N1 hN1 => ?_
    obtain ⟨c1, hW⟩ := hW
    obtain ⟨mask1, emask1⟩ : ∃ mask1 : Nat, mask1 = 2 ^ bit1 := ⟨_, rfl⟩
    replace hW := hW mask1 emask1
    refine a_asg (v := (.int ((mask1 : Nat) : Int))) (v_eq (vn_one val_c (val_var rfl) c1) (by rw [emask1])) ?_
    refine hN1 _ _ ?_
    refine q_sq fun N2 hN2 => ?_
    refine f_LE ?_
    refine e_cb ?_
    obtain ⟨v2, r2, fl1⟩ := fl_31 (K := K) T.cl_Steps T.na_Steps_kept r1 w.f
    refine a_val (v := v2) (fl1 (val_var rfl)) ?_
    refine a_nil ?_
    obtain ⟨c2, hW⟩ := hW
    refine n_sortDX r2 w c2 ?_
    intro ys1 p1 H1 h1 h2 hp1 s1 x1
    replace hW := hW ys1 h1 h2
    replace r1 := Rep.mono _ s1.g r1
    replace r2 := Rep.mono _ s1.g r2
    replace w := w.tr s1
    obtain ⟨F1, w1, g1, r3, fz1⟩ := x1.frzE w
    replace r1 := Rep.mono _ g1 r1
    replace r2 := Rep.mono _ g1 r2
    replace w := w1
    refine w_forL (S := Nat) (fun mask2 σ' F' H' => ∃ (o1 : Option V) (o2 : Option V), Wf F0 H0 F' H' ∧ Ex F1 F' ∧ σ' = [some v1, some (.int ((bit1 : Nat) : Int)), some (.int ((mask2 : Nat) : Int)), o1, o2]) r3 hW ⟨_, _, w, Ex.rfl', rfl⟩ (fun s σ' F' H' hI => by obtain ⟨_, _, w', gx', _⟩ := hI; exact ⟨gx', w'.f⟩) w.f ?_ ?_
    · intro N3 Bk1 top1 u1 mask2 σ' F2 H2 nx1 bk1 hI1 hx1 ru1 hW hN3 hB1
      obtain ⟨o1, o2, w, gx1, rfl⟩ := hI1
      have r1 := Rep.mono _ gx1 r1
      have r2 := Rep.mono _ gx1 r2
      have r3 := Rep.mono _ gx1 r3
      obtain rfl : u1 = (.int ((top1 : Nat) : Int)) := ru1
      refine g_name ?_
      refine q_sq fun N4 hN4 => ?_
      obtain ⟨v3, r4, fl2⟩ := fl_31 (K := K) T.cl_Steps T.na_Steps_kept r1 w.f
      obtain ⟨x2, hx2, hW⟩ := hW
      obtain ⟨v4, r5, ix1⟩ := ix_D r4 w.f hx2
      obtain ⟨v5, r6, fl3⟩ := fl_31 (K := K) T.cl_Steps T.na_Steps_kept r1 w.f
      obtain ⟨x3, hx3, hW⟩ := hW
      obtain ⟨v6, r7, ix2⟩ := ix_D r6 w.f hx3
      obtain ⟨_, rfl, ix3⟩ := ix_2a (K := K) r7 w.f
      obtain ⟨row1, erow1⟩ : ∃ row1 : Nat, row1 = x3.1 := ⟨_, rfl⟩
      replace hW := hW row1 erow1
      refine a_asg (v := (.int ((row1 : Nat) : Int))) (v_eq (ix3 (ix2 (fl3 (val_var rfl)) (val_var rfl)) val_c) (by rw [erow1])) ?_
      refine hN4 _ _ ?_
      refine a_ifE ?_
      refine e_tNot ?_
      refine e_tB ?_
      refine e_call ?_
      refine a_val (v := (.int ((row1 &&& mask2 : Nat) : Int))) (vn_and (val_var rfl) (val_var rfl)) ?_
      refine a_nil ?_
      refine ⟨F2, (row1 &&& mask2), _, rfl, w.f, hW, ?_⟩
      intro z1 hW F3 H3 s3
      replace r1 := Rep.mono _ s3.g r1
      replace w := w.tr s3
      replace gx1 := Ex.tr gx1 s3.g
      refine bl_v ?_
      refine bb_ifn (fun hc1 => ?_) (fun hc1 => ?_)
      · have hW := ifP hW hc1
        exact hN3 mask2 _ _ _ ⟨_, _, w, gx1, rfl⟩ hW
      · have hW := ifN hW hc1
        obtain ⟨c3, hW⟩ := hW
        obtain ⟨c4, hW⟩ := hW
        obtain ⟨mask3, emask2⟩ : ∃ mask3 : Nat, mask3 = mask2 ^^^ (2 ^ (top1 - 1)) := ⟨_, rfl⟩
        replace hW := hW mask3 emask2
        refine a_augV (x := (.int ((mask2 : Nat) : Int))) (y := (.int ((2 ^ (top1 - 1) : Nat) : Int))) (z := (.int ((mask3 : Nat) : Int))) rfl (vn_one val_c (vn_sub (val_var rfl) val_c c3) c4) (v_eq (vn_xor val_c val_c) (by rw [emask2])) ?_
        exact hN3 mask3 _ _ _ ⟨_, _, w, gx1, rfl⟩ hW
    · intro mask2 σ' F4 H4 hI2 hW
      obtain ⟨o1, o2, w, gx2, rfl⟩ := hI2
      have r1 := Rep.mono _ gx2 r1
      have r2 := Rep.mono _ gx2 r2
      have r3 := Rep.mono _ gx2 r3
      refine hN2 _ _ ?_
      refine a_ret (v := (.int ((mask2 : Nat) : Int))) (val_var rfl) ?_
      exact hQ _ hW _ _ w
abbrev s_Steps___init__ : Stmt := inClass (topS 4) 0
/-! Steps.__init__ -/
def W_Steps___init__ (rows1 : List Nat) (R : (List (Nat × (Nat × Nat)) × List Nat × List Nat) → Prop) : Prop := forW (enumT rows1) (([] : List Nat), ([] : List (Nat × (Nat × Nat))), ([] : List Nat)) (fun it1 (self_gone1, self_kept1, self_found1) nx1 bk1 => (it1.1 < 100000000) ∧ W_Steps_lowered self_kept1 it1.2 (2 ^ it1.1) fun z1 => if z1.1 = 0 then ((self_gone1.length < 1000000) ∧ nx1 (self_gone1 ++ [z1.2], self_kept1, self_found1)) else ((self_kept1.length < 1000000) ∧ (self_found1.length < 1000000) ∧ nx1 (self_gone1, putT self_kept1 (bits z1.1) (z1.1, z1.2), self_found1 ++ [it1.1]))) fun (self_gone1, self_kept1, self_found1) => R (self_kept1, self_found1, self_gone1)
def sp_Steps___init__ (K : PySem.W.Frag) (cc : Cz) : Sp := fun vs H Q _ => ∃ (F : Hp) (ob dx : Addr) (v1 : V) (rows1 : List Nat) (R : (List (Nat × (Nat × Nat)) × List Nat × List Nat) → Prop), vs = [(.ref ob), v1] ∧ H ob = some (.ins cc.Steps dx []) ∧ F ob = none ∧ Ex F H ∧ (pL pN).r F v1 rows1 ∧ W_Steps___init__ rows1 R ∧ ∀ z, R z → ∀ F' H', Wf F (wo H ob) F' H' → (pO3 cc.Steps "kept" "found" "gone" (pD (κ := Nat) (pT2 pN pN)) (pL pN) (pL pN)).r F' (.ref ob) z → Q .non H'
abbrev N_Steps___init__ : List Str := ["self", "rows", "place", "row", "left", "places"]
theorem sc_Steps___init__ : FnScope N_Steps___init__ ["self", "rows"] (defScope s_Steps___init__) := ⟨rfl, rfl, rfl, by decide +kernel, rfl, by decide +kernel, by decide +kernel⟩
theorem ok_Steps___init__ {P : Program} {w0 : World} {K : PySem.W.Frag} {mg : Str → Option Value} {base : Heap} {f : Addr} {fd : FuncData} {cc : Cz} (T : Tz K mg cc) (FU : Fun K "__init__" "Steps.__init__" s_Steps___init__ f fd) (hm : Mk K cc.Steps f) (hg : mg "Steps" = some (.ref cc.Steps)) (hb : Binds K fd ["self", "rows"] []) (c_Steps_lowered : Md P w0 K mg base CX0 1 cc.Steps "lowered" ["self", "row", "places"] (sp_Steps_lowered K cc)) (n_enumerate : mg "enumerate" = none) : Nw P w0 K mg base CX0 2 cc.Steps "Steps" ["self", "rows"] (sp_Steps___init__ K cc) := by
  refine ⟨f, fd, FU.ok sc_Steps___init__ (fun vs H Q E h => ?_) (fun cdv A outer s H0 vs Q E hr h => ?_), hm, hg, hb⟩
  · obtain ⟨_, _, _, _, _, _, rfl, _⟩ := h; rfl
  · obtain ⟨F0, ob, dx, v1, rows1, R, rfl, hob, nob, wf, r1, hW, hQ⟩ := h
    have nd := sc_Steps___init__.nd
    refine ⟨(tSeq (sFld K (tVar 0) tDNewK "kept") (tSeq (sFld K (tVar 0) (tLst tNil) "found") (tSeq (sFld K (tVar 0) (tLst tNil) "gone") (tFor (iEnum K (tCons (tVar 1) tNil)) (gTup K 2 (gCons (gName 2) (gCons (gName 3) gNil))) (tSeq (tAsg (tMeth cc.Steps "lowered" (sp_Steps_lowered K cc) [] E0 (tVar 0) (tCons (tVar 3) (tCons (tOp kShl (tC (.int 1)) (tVar 2)) tNil))) (gTup K 2 (gCons (gName 4) (gCons (gName 5) gNil)))) (tIfS (tTest (tOp L2.rEq (tVar 4) (tC (.int 0)))) (tDrop (tBM K "list" rAppend (tFld K (tVar 0) "gone") (tCons (tVar 5) tNil))) (tSeq (sDPut (tFld K (tVar 0) "kept") (tBits (tVar 4)) (tTup (tCons (tVar 4) (tCons (tVar 5) tNil)))) (tDrop (tBM K "list" rAppend (tFld K (tVar 0) "found") (tCons (tVar 2) tNil)))))))))), (pss_cons (ps_fld (pv 0) pe_dnewK rfl) (pss_cons (ps_fld (pv 0) (pe_lst pa_nil) rfl) (pss_cons (ps_fld (pv 0) (pe_lst pa_nil) rfl) (pss_one (ps_for PassesOwn.never rfl (pi_enum (by rfl) n_enumerate (pa_cons (pv 1) pa_nil)) (pg_tup rfl (pgs_cons (pg_name (i := 2) nd rfl (Or.inl rfl)) (pgs_cons (pg_name (i := 3) nd rfl (Or.inl rfl)) pgs_nil)) (by rfl)) (pss_cons (ps_asg (pe_md c_Steps_lowered T.cl_Steps (hr.mono (by decide)) (pv 0) (pa_cons (pv 3) (pa_cons (pe_op op_shlW pe_int (pv 2)) pa_nil))) (pg_tup rfl (pgs_cons (pg_name (i := 4) nd rfl (Or.inl rfl)) (pgs_cons (pg_name (i := 5) nd rfl (Or.inl rfl)) pgs_nil)) (by rfl))) (pss_one (ps_if (pt_cmpR op_eq (pv 4) pe_int (nomark _)) (pss_one (ps_expr (pe_bm PySem.F.plainAttrs_list PySem.F.slot_list_append PySem.F.type_list_append mt_append (pe_fld (pv 0) rfl) (pa_cons (pv 5) pa_nil)))) (pss_cons (ps_dput (hu_of hr) (pe_fld (pv 0) rfl) (pe_bits (pv 4)) (pe_tup (pa_cons (pv 4) (pa_cons (pv 5) pa_nil))) rfl) (pss_one (ps_expr (pe_bm PySem.F.plainAttrs_list PySem.F.slot_list_append PySem.F.type_list_append mt_append (pe_fld (pv 0) rfl) (pa_cons (pv 2) pa_nil))))))))))))), ?_⟩
    have xs := Xc.start nob hob
    have w := Wf.start wf nob
    generalize hH0 : wo H0 ob = Hb at xs w hQ
    refine q_sq fun N1 hN1 => ?_
    refine e_fld ?_
    refine n_dict (κ := Nat) (e := (pT2 pN pN)) w ?_
    intro p1 H1 hp1 s1 x1
    have ne1 := xs.ne hp1
    replace r1 := Rep.mono _ s1.g r1
    replace xs := xs.step s1
    replace w := w.tr s1
    refine a_fld T.cl_Steps T.na_Steps_kept xs w (show 0 < 1000 from by decide) (val_var rfl) (fun H2 w1 x2 kp1 => ?_)
    replace x1 := x1.kept kp1 (Ne.symm ne1)
    replace w := w1
    replace x2 : Xc Hb F0 H2 ob (.ins cc.Steps dx [("kept", (.ref p1))]) := Xc.cast x2 rfl
    refine hN1 _ _ ?_
    refine q_sq fun N2 hN2 => ?_
    refine e_fld ?_
    refine e_lst ?_
    refine a_nil ?_
    refine n_lstX (e := pN) (xs := []) (vs := []) (show All pN _ [] [] from trivial) (show 0 < 1000000 from by decide) w ?_
    intro p2 H3 hp2 s2 x3
    have ne2 := x2.ne hp2
    have ne3 := x1.ne hp2
    replace r1 := Rep.mono _ s2.g r1
    replace x2 := x2.step s2
    replace x1 := x1.step s2
    replace w := w.tr s2
    refine a_fld T.cl_Steps T.na_Steps_found x2 w (show 1 < 1000 from by decide) (val_var rfl) (fun H4 w2 x4 kp2 => ?_)
    replace x1 := x1.kept kp2 (Ne.symm ne1)
    replace x3 := x3.kept kp2 (Ne.symm ne2)
    replace w := w2
    replace x4 : Xc Hb F0 H4 ob (.ins cc.Steps dx [("kept", (.ref p1)), ("found", (.ref p2))]) := Xc.cast x4 ((put_ne (by decide +kernel)).trans (congrArg _ rfl))
    refine hN2 _ _ ?_
    refine q_sq fun N3 hN3 => ?_
    refine e_fld ?_
    refine e_lst ?_
    refine a_nil ?_
    refine n_lstX (e := pN) (xs := []) (vs := []) (show All pN _ [] [] from trivial) (show 0 < 1000000 from by decide) w ?_
    intro p3 H5 hp3 s3 x5
    have ne4 := x4.ne hp3
    have ne5 := x1.ne hp3
    have ne6 := x3.ne hp3
    replace r1 := Rep.mono _ s3.g r1
    replace x4 := x4.step s3
    replace x1 := x1.step s3
    replace x3 := x3.step s3
    replace w := w.tr s3
    refine a_fld T.cl_Steps T.na_Steps_gone x4 w (show 2 < 1000 from by decide) (val_var rfl) (fun H6 w3 x6 kp3 => ?_)
    replace x1 := x1.kept kp3 (Ne.symm ne1)
    replace x3 := x3.kept kp3 (Ne.symm ne2)
    replace x5 := x5.kept kp3 (Ne.symm ne4)
    replace w := w3
    replace x6 : Xc Hb F0 H6 ob (.ins cc.Steps dx [("kept", (.ref p1)), ("found", (.ref p2)), ("gone", (.ref p3))]) := Xc.cast x6 ((put_ne (by decide +kernel)).trans (congrArg _ ((put_ne (by decide +kernel)).trans (congrArg _ rfl))))
    refine hN3 _ _ ?_
    refine f_J ?_
    refine a_val (v := v1) (val_var rfl) ?_
    refine a_nil ?_
    refine src_enum r1 w.f (fun a1 T1 => ?_)
    refine w_forG (S := List Nat × (List (Nat × (Nat × Nat))) × List Nat) T1 (fun s σ' F' H' => match s with | (self_gone1, self_kept1, self_found1) => ∃ (o1 : Option V) (o2 : Option V) (o3 : Option V) (o4 : Option V), Wf F0 Hb F' H' ∧ Ex F0 F' ∧ σ' = [some (.ref ob), some v1, o1, o2, o3, o4] ∧ XL pN Hb F' H' p3 self_gone1 ∧ XD (pT2 pN pN) Hb F' H' p1 self_kept1 ∧ XL pN Hb F' H' p2 self_found1 ∧ Xc Hb F' H' ob (.ins cc.Steps dx [("kept", (.ref p1)), ("found", (.ref p2)), ("gone", (.ref p3))])) hW ⟨_, _, _, _, w, Ex.rfl', rfl, x5, x1, x3, x6⟩ (fun s σ' F' H' hI => by obtain ⟨self_gone1, self_kept1, self_found1⟩ := s; obtain ⟨_, _, _, _, w', gx', _⟩ := hI; exact ⟨gx', w'.f⟩) w.f ?_ ?_
    · intro N4 Bk1 it1 u1 s4 σ' F1 H7 F2 H8 nx1 bk1 hI1 hx1 s5 ru1 hW hN4 hB1
      obtain ⟨self_gone1, self_kept1, self_found1⟩ := s4
      obtain ⟨o1, o2, o3, o4, w, gx1, rfl, x7, x8, x9, x10⟩ := hI1
      have r1 := Rep.mono _ gx1 r1
      replace r1 := Rep.mono _ s5.g r1
      replace x10 := x10.step s5
      replace x8 := x8.step s5
      replace x9 := x9.step s5
      replace x7 := x7.step s5
      replace w := w.tr s5
      replace gx1 := Ex.tr gx1 s5.g
      obtain ⟨p4, u2, u3, rfl, h1, rfl, rfl⟩ := ru1
      refine ⟨p4, _, rfl, SqT.of (w.f _ _ h1), rfl, _, _, rfl, _, _, rfl, rfl, ?_⟩
      refine q_sq fun N5 hN5 => ?_
      refine a_asgG ?_
      refine e_md ?_
      refine e_val (v := (.ref ob)) (val_var rfl) ?_
      refine ⟨_, _, _, rfl, x10.h, ((lk_ne (by decide +kernel)).trans ((lk_ne (by decide +kernel)).trans ((lk_ne (by decide +kernel)).trans rfl))), ?_⟩
      refine a_val (v := (.int ((it1.2 : Nat) : Int))) (val_var rfl) ?_
      obtain ⟨c1, hW⟩ := hW
      refine a_val (v := (.int ((2 ^ it1.1 : Nat) : Int))) (vn_one val_c (val_var rfl) c1) ?_
      refine a_nil ?_
      refine ⟨F2, ob, dx, p1, _, (self_kept1), (it1.2), (2 ^ it1.1), _, rfl, w.f, x10.h, lk_eq, x8.bw, hW, ?_⟩
      intro z1 hW v2 F3 H9 s6 r2
      replace r1 := Rep.mono _ s6.g r1
      replace x10 := x10.step s6
      replace x8 := x8.step s6
      replace x9 := x9.step s6
      replace x7 := x7.step s6
      replace w := w.tr s6
      replace gx1 := Ex.tr gx1 s6.g
      obtain ⟨p5, u4, u5, rfl, h2, rfl, rfl⟩ := r2
      refine ⟨p5, _, rfl, SqT.of (w.f _ _ h2), rfl, _, _, rfl, _, _, rfl, rfl, ?_⟩
      refine hN5 _ _ ?_
      refine a_ifE ?_
      refine e_ans (b := decide (z1.1 = 0)) (t_of (vb_dec (c_eqI (val_var rfl) val_c) n_eq)) ?_
      refine b_if (fun hc1 => ?_) (fun hc1 => ?_)
      · have hW := ifP hW hc1
        refine a_dropE ?_
        refine m_list x7 (fl_X T.cl_Steps T.na_Steps_gone x10 ((lk_ne (by decide +kernel)).trans ((lk_ne (by decide +kernel)).trans lk_eq)) (val_var rfl)) ?_
        refine a_val (v := (.int ((z1.2 : Nat) : Int))) (val_var rfl) ?_
        refine a_nil ?_
        obtain ⟨c2, hW⟩ := hW
        refine a_app x7 w c2 rfl (fun H10 w4 x11 kp4 => ?_)
        replace x10 := x10.kept kp4 ne4
        replace x8 := x8.kept kp4 ne5
        replace x9 := x9.kept kp4 ne6
        replace w := w4
        exact hN4 (self_gone1 ++ [z1.2], self_kept1, self_found1) _ _ _ ⟨_, _, _, _, w, gx1, rfl, x11, x8, x9, x10⟩ hW
      · have hW := ifN hW hc1
        refine q_sq fun N6 hN6 => ?_
        refine e_dput ?_
        refine e_tup ?_
        refine a_val (v := (.int ((z1.1 : Nat) : Int))) (val_var rfl) ?_
        refine a_val (v := (.int ((z1.2 : Nat) : Int))) (val_var rfl) ?_
        refine a_nil ?_
        refine n_tup2 (e := pN) (f := pN) (x := z1.1) (y := z1.2) rfl rfl w ?_
        intro p6 F4 H11 s7 r3
        replace r1 := Rep.mono _ s7.g r1
        replace x10 := x10.step s7
        replace x8 := x8.step s7
        replace x9 := x9.step s7
        replace x7 := x7.step s7
        replace w := w.tr s7
        replace gx1 := Ex.tr gx1 s7.g
        obtain ⟨c3, hW⟩ := hW
        refine d_put (j := bits z1.1) x8 w c3 r3 (fl_X T.cl_Steps T.na_Steps_kept x10 lk_eq (val_var rfl)) (vn_bitl (val_var rfl)) (fun H12 w5 x12 kp5 => ?_)
        replace x10 := x10.kept kp5 ne1
        replace x9 := x9.kept kp5 (Ne.symm ne3)
        replace x7 := x7.kept kp5 (Ne.symm ne5)
        replace w := w5
        refine hN6 _ _ ?_
        refine a_dropE ?_
        refine m_list x9 (fl_X T.cl_Steps T.na_Steps_found x10 ((lk_ne (by decide +kernel)).trans lk_eq) (val_var rfl)) ?_
        refine a_val (v := (.int ((it1.1 : Nat) : Int))) (val_var rfl) ?_
        refine a_nil ?_
        obtain ⟨c4, hW⟩ := hW
        refine a_app x9 w c4 rfl (fun H13 w6 x13 kp6 => ?_)
        replace x10 := x10.kept kp6 ne2
        replace x12 := x12.kept kp6 ne3
        replace x7 := x7.kept kp6 (Ne.symm ne6)
        replace w := w6
        exact hN4 (self_gone1, putT self_kept1 (bits z1.1) (z1.1, z1.2), self_found1 ++ [it1.1]) _ _ _ ⟨_, _, _, _, w, gx1, rfl, x7, x12, x13, x10⟩ hW
    · intro s8 σ' F5 H14 hI2 hW
      obtain ⟨self_gone1, self_kept1, self_found1⟩ := s8
      obtain ⟨o1, o2, o3, o4, w, gx2, rfl, x7, x8, x9, x10⟩ := hI2
      have r1 := Rep.mono _ gx2 r1
      obtain ⟨F6, w7, g1, r4, fz1⟩ := x8.frzE w
      replace r1 := Rep.mono _ g1 r1
      replace x10 := x10.frzO fz1 ne1 g1
      replace x9 := x9.frzO fz1 (Ne.symm ne3) g1
      replace x7 := x7.frzO fz1 (Ne.symm ne5) g1
      replace w := w7
      replace gx2 := Ex.tr gx2 g1
      obtain ⟨F7, w8, g2, r5, fz2⟩ := x9.frzE w
      replace r1 := Rep.mono _ g2 r1
      replace x10 := x10.frzO fz2 ne2 g2
      replace r4 := Rep.mono _ g2 r4
      replace x7 := x7.frzO fz2 (Ne.symm ne6) g2
      replace w := w8
      replace gx2 := Ex.tr gx2 g2
      obtain ⟨F8, w9, g3, r6, fz3⟩ := x7.frzE w
      replace r1 := Rep.mono _ g3 r1
      replace x10 := x10.frzO fz3 ne4 g3
      replace r4 := Rep.mono _ g3 r4
      replace r5 := Rep.mono _ g3 r5
      replace w := w9
      replace gx2 := Ex.tr gx2 g3
      obtain ⟨F9, w10, g4, h3⟩ := x10.frzE w
      exact hQ _ hW _ _ w10 ⟨ob, dx, _, rfl, h3, _, _, _, rfl, (Rep.mono _ g4 r4), (Rep.mono _ g4 r5), (Rep.mono _ g4 r6)⟩
abbrev s_rank : Stmt := topS 5
/-! rank -/
def W_rank (rows1 : List Nat) (R : Nat → Prop) : Prop := W_Steps___init__ rows1 fun z1 => R z1.2.1.length
def sp_rank (K : PySem.W.Frag) (cc : Cz) : Sp := fun vs H Q _ => ∃ (F : Hp) (v1 : V) (rows1 : List Nat) (R : Nat → Prop), vs = [v1] ∧ Ex F H ∧ (pL pN).r F v1 rows1 ∧ W_rank rows1 R ∧ ∀ z, R z → ∀ F' H', Wf F H F' H' → Q (.int ((z : Nat) : Int)) H'
abbrev N_rank : List Str := ["rows"]
theorem sc_rank : FnScope N_rank ["rows"] (defScope s_rank) := ⟨rfl, rfl, rfl, by decide +kernel, rfl, by decide +kernel, by decide +kernel⟩
theorem ok_rank {P : Program} {w0 : World} {K : PySem.W.Frag} {mg : Str → Option Value} {base : Heap} {f : Addr} {fd : FuncData} {cc : Cz} (T : Tz K mg cc) (FU : Fun K "rank" "rank" s_rank f fd) (hm : mg "rank" = some (.ref f)) (hb : Binds K fd ["rows"] []) (c_Steps___init__ : Nw P w0 K mg base CX0 2 cc.Steps "Steps" ["self", "rows"] (sp_Steps___init__ K cc)) (n_len : mg "len" = none) : Fn P w0 K mg base CX0 4 "rank" ["rows"] (sp_rank K cc) := by
  refine ⟨f, fd, FU.ok sc_rank (fun vs H Q E h => ?_) (fun cdv A outer s H0 vs Q E hr h => ?_), hm, FU.kp, hb⟩
  · obtain ⟨_, _, _, _, rfl, _⟩ := h; rfl
  · obtain ⟨F0, v1, rows1, R, rfl, wf, r1, hW, hQ⟩ := h
    have nd := sc_rank.nd
    refine ⟨(tRet (tCB (Wk.rLen K) (tCons (tFld K (tMake cc.Steps (sp_Steps___init__ K cc) [] E0 (tCons (tVar 0) tNil)) "found") tNil))), (pss_one (ps_ret (pe_callB call_len_seq (by rfl) n_len PySem.boot_len (pa_cons (pe_fld (pe_nw c_Steps___init__ (hr.mono (by decide)) rfl (pa_cons (pv 0) pa_nil)) rfl) pa_nil)))), ?_⟩
    have w := Wf.id wf
    refine a_retE ?_
    refine e_cb ?_
    refine a_cons ?_
    refine e_tfld ?_
    refine e_nw ?_
    refine a_val (v := v1) (val_var rfl) ?_
    refine a_nil ?_
    intro ob1 dx1 nx1 nd1 ne1
    refine ⟨F0, ob1, dx1, (v1), (rows1), _, rfl, upd_same, (w.f.non nx1), (Ex.made w.f nx1 nd1), r1, hW, ?_⟩
    intro z1 hW F1 H1 s1 r2
    refine ⟨rfl, ?_⟩
    replace s1 := Wf.made nx1 nd1 s1
    replace r1 := Rep.mono _ s1.g r1
    replace w := w.tr s1
    obtain ⟨v2, r3, fl1⟩ := fl_32 (K := K) T.cl_Steps T.na_Steps_found r2 w.f
    refine fl_val (fl1 val_c) ?_
    refine a_nil ?_
    refine rcb1 (z := .int ((z1.2.1.length : Nat) : Int)) (len_L r3 w.f val_c) ?_
    exact hQ _ hW _ _ w
abbrev s_sum_for : Stmt := topS 6
/-! sum_for -/
def W_sum_for (rows1 : List Nat) (wish1 : Nat) (R : (Str × (Sum (List Nat) (Nat))) → Prop) : Prop := W_Steps___init__ rows1 fun z1 => W_Steps_lowered z1.1 wish1 0 fun z2 => if z2.1 = 0 then (W_bits_of z2.2 fun z3 => R ((PySem.Str.ofString "sum"), (Sum.inl z3))) else ((1 ≤ bits z2.1) ∧ W_Steps_crossing z1 ((bits z2.1) - 1) fun z4 => R ((PySem.Str.ofString "no"), (Sum.inr z4)))
def sp_sum_for (K : PySem.W.Frag) (cc : Cz) : Sp := fun vs H Q _ => ∃ (F : Hp) (v1 : V) (rows1 : List Nat) (wish1 : Nat) (R : (Str × (Sum (List Nat) (Nat))) → Prop), vs = [v1, (.int ((wish1 : Nat) : Int))] ∧ Ex F H ∧ (pL pN).r F v1 rows1 ∧ W_sum_for rows1 wish1 R ∧ ∀ z, R z → ∀ v F' H', Wf F H F' H' → (pT2 pS (pAlt (pL pN) pN)).r F' v z → Q v H'
abbrev N_sum_for : List Str := ["rows", "wish", "steps", "left", "places"]
theorem sc_sum_for : FnScope N_sum_for ["rows", "wish"] (defScope s_sum_for) := ⟨rfl, rfl, rfl, by decide +kernel, rfl, by decide +kernel, by decide +kernel⟩
theorem ok_sum_for {P : Program} {w0 : World} {K : PySem.W.Frag} {mg : Str → Option Value} {base : Heap} {f : Addr} {fd : FuncData} {cc : Cz} (T : Tz K mg cc) (FU : Fun K "sum_for" "sum_for" s_sum_for f fd) (hm : mg "sum_for" = some (.ref f)) (hb : Binds K fd ["rows", "wish"] []) (c_Steps___init__ : Nw P w0 K mg base CX0 2 cc.Steps "Steps" ["self", "rows"] (sp_Steps___init__ K cc)) (c_Steps_lowered : Md P w0 K mg base CX0 1 cc.Steps "lowered" ["self", "row", "places"] (sp_Steps_lowered K cc)) (c_bits_of : Fn P w0 K mg base CX0 1 "bits_of" ["mask"] (sp_bits_of K cc)) (c_Steps_crossing : Md P w0 K mg base CX0 2 cc.Steps "crossing" ["self", "bit"] (sp_Steps_crossing K cc)) : Fn P w0 K mg base CX0 4 "sum_for" ["rows", "wish"] (sp_sum_for K cc) := by
  refine ⟨f, fd, FU.ok sc_sum_for (fun vs H Q E h => ?_) (fun cdv A outer s H0 vs Q E hr h => ?_), hm, FU.kp, hb⟩
  · obtain ⟨_, _, _, _, _, rfl, _⟩ := h; rfl
  · obtain ⟨F0, v1, rows1, wish1, R, rfl, wf, r1, hW, hQ⟩ := h
    have nd := sc_sum_for.nd
    refine ⟨(tSeq (tAsg (tMake cc.Steps (sp_Steps___init__ K cc) [] E0 (tCons (tVar 0) tNil)) (gName 2)) (tSeq (tAsg (tMeth cc.Steps "lowered" (sp_Steps_lowered K cc) [] E0 (tVar 2) (tCons (tVar 1) (tCons (tC (.int 0)) tNil))) (gTup K 2 (gCons (gName 3) (gCons (gName 4) gNil)))) (tSeq (tIfS (tTest (tOp L2.rEq (tVar 3) (tC (.int 0)))) (tRet (tTup (tCons (tC (.str (PySem.Str.ofString "sum"))) (tCons (tCall (sp_bits_of K cc) [] E0 (tCons (tVar 4) tNil)) tNil)))) tNext) (tRet (tTup (tCons (tC (.str (PySem.Str.ofString "no"))) (tCons (tMeth cc.Steps "crossing" (sp_Steps_crossing K cc) [] E0 (tVar 2) (tCons (tOp kSub (tBits (tVar 3)) (tC (.int 1))) tNil)) tNil))))))), (pss_cons (ps_set (i := 2) nd rfl (Or.inl rfl) (pe_nw c_Steps___init__ (hr.mono (by decide)) rfl (pa_cons (pv 0) pa_nil))) (pss_cons (ps_asg (pe_md c_Steps_lowered T.cl_Steps (hr.mono (by decide)) (pv 2) (pa_cons (pv 1) (pa_cons pe_int pa_nil))) (pg_tup rfl (pgs_cons (pg_name (i := 3) nd rfl (Or.inl rfl)) (pgs_cons (pg_name (i := 4) nd rfl (Or.inl rfl)) pgs_nil)) (by rfl))) (pss_cons (ps_if (pt_cmpR op_eq (pv 3) pe_int (nomark _)) (pss_one (ps_ret (pe_tup (pa_cons pe_str (pa_cons (pe_fn c_bits_of (hr.mono (by decide)) rfl (pa_cons (pv 4) pa_nil)) pa_nil))))) pss_nil) (pss_one (ps_ret (pe_tup (pa_cons pe_str (pa_cons (pe_md c_Steps_crossing T.cl_Steps (hr.mono (by decide)) (pv 2) (pa_cons (pe_op op_sub (pe_bits (pv 3)) pe_int) pa_nil)) pa_nil)))))))), ?_⟩
    have w := Wf.id wf
    refine q_sq fun N1 hN1 => ?_
    refine a_asgE ?_
    refine e_nw ?_
    refine a_val (v := v1) (val_var rfl) ?_
    refine a_nil ?_
    intro ob1 dx1 nx1 nd1 ne1
    refine ⟨F0, ob1, dx1, (v1), (rows1), _, rfl, upd_same, (w.f.non nx1), (Ex.made w.f nx1 nd1), r1, hW, ?_⟩
    intro z1 hW F1 H1 s1 r2
    refine ⟨rfl, ?_⟩
    replace s1 := Wf.made nx1 nd1 s1
    replace r1 := Rep.mono _ s1.g r1
    replace w := w.tr s1
    refine hN1 _ _ ?_
    refine q_sq fun N2 hN2 => ?_
    refine a_asgG ?_
    refine e_md ?_
    refine e_val (v := (.ref ob1)) (val_var rfl) ?_
    obtain ⟨p1, dx2, fs1, d1, ev1, ho1, lk1, bd1, lm1⟩ := st_bw (m := "lowered") r2 w.f
    refine ⟨_, _, _, ev1, ho1, lm1, ?_⟩
    refine a_val (v := (.int ((wish1 : Nat) : Int))) (val_var rfl) ?_
    refine a_val (v := (.int ((0 : Nat) : Int))) val_c ?_
    refine a_nil ?_
    refine ⟨F1, p1, dx2, d1, fs1, z1.1, (wish1), (0), _, (by rw [ev1]), w.f, ho1, lk1, bd1, hW, ?_⟩
    intro z2 hW v2 F2 H2 s2 r3
    replace r1 := Rep.mono _ s2.g r1
    replace r2 := Rep.mono _ s2.g r2
    replace w := w.tr s2
    obtain ⟨p2, u1, u2, rfl, h1, rfl, rfl⟩ := r3
    refine ⟨p2, _, rfl, SqT.of (w.f _ _ h1), rfl, _, _, rfl, _, _, rfl, rfl, ?_⟩
    refine hN2 _ _ ?_
    refine q_sq fun N3 hN3 => ?_
    refine a_ifE ?_
    refine e_ans (b := decide (z2.1 = 0)) (t_of (vb_dec (c_eqI (val_var rfl) val_c) n_eq)) ?_
    refine b_if (fun hc1 => ?_) (fun hc1 => ?_)
    · have hW := ifP hW hc1
      refine a_retE ?_
      refine e_tup ?_
      refine a_val (v := (.str ((PySem.Str.ofString "sum")))) val_c ?_
      refine a_cons ?_
      refine e_call ?_
      refine a_val (v := (.int ((z2.2 : Nat) : Int))) (val_var rfl) ?_
      refine a_nil ?_
      refine ⟨F2, (z2.2), _, rfl, w.f, hW, ?_⟩
      intro z3 hW p3 F3 H3 s3 x1
      replace x1 := x1.base w
      replace r1 := Rep.mono _ s3.g r1
      replace r2 := Rep.mono _ s3.g r2
      replace w := w.tr s3
      refine a_nil ?_
      obtain ⟨F4, w1, g1, r4, fz1⟩ := x1.frzE w
      replace r1 := Rep.mono _ g1 r1
      replace r2 := Rep.mono _ g1 r2
      replace w := w1
      refine n_tup2 (e := pS) (f := (pAlt (pL pN) pN)) (x := (PySem.Str.ofString "sum")) (y := (Sum.inl z3)) rfl r4 w ?_
      intro p4 F5 H4 s4 r5
      replace r1 := Rep.mono _ s4.g r1
      replace r2 := Rep.mono _ s4.g r2
      replace r4 := Rep.mono _ s4.g r4
      replace w := w.tr s4
      exact hQ _ hW _ _ _ w r5
    · have hW := ifN hW hc1
      refine hN3 _ _ ?_
      refine a_retE ?_
      refine e_tup ?_
      refine a_val (v := (.str ((PySem.Str.ofString "no")))) val_c ?_
      refine a_cons ?_
      refine e_md ?_
      refine e_val (v := (.ref ob1)) (val_var rfl) ?_
      obtain ⟨p5, dx3, fs2, ev2, ho2, lm2⟩ := me_3 (m := "crossing") r2 w.f
      refine ⟨_, _, _, ev2, ho2, lm2, ?_⟩
      obtain ⟨c1, hW⟩ := hW
      refine a_val (v := (.int (((bits z2.1) - 1 : Nat) : Int))) (vn_sub (vn_bitl (val_var rfl)) val_c c1) ?_
      refine a_nil ?_
      refine ⟨F2, ((.ref ob1)), (z1), ((bits z2.1) - 1), _, rfl, w.f, r2, hW, ?_⟩
      intro z4 hW F6 H5 s5
      replace r1 := Rep.mono _ s5.g r1
      replace r2 := Rep.mono _ s5.g r2
      replace w := w.tr s5
      refine a_nil ?_
      refine n_tup2 (e := pS) (f := (pAlt (pL pN) pN)) (x := (PySem.Str.ofString "no")) (y := (Sum.inr z4)) rfl rfl w ?_
      intro p6 F7 H6 s6 r6
      replace r1 := Rep.mono _ s6.g r1
      replace r2 := Rep.mono _ s6.g r2
      replace w := w.tr s6
      exact hQ _ hW _ _ _ w r6
abbrev s_across : Stmt := topS 7
/-! across -/
def W_across (rows1 : List Nat) (width1 : Nat) (R : (List Nat) → Prop) : Prop := W_Steps___init__ rows1 fun z1 => (width1 < 1000000) ∧ compW (List.range width1) (fun bit1 kk => if ¬ (hasT z1.1 (bit1 + 1) = true) then (W_Steps_crossing z1 bit1 fun z2 => kk (some z2)) else (kk none)) fun ys1 => R ys1
def sp_across (K : PySem.W.Frag) (cc : Cz) : Sp := fun vs H Q _ => ∃ (F : Hp) (v1 : V) (rows1 : List Nat) (width1 : Nat) (R : (List Nat) → Prop), vs = [v1, (.int ((width1 : Nat) : Int))] ∧ Ex F H ∧ (pL pN).r F v1 rows1 ∧ W_across rows1 width1 R ∧ ∀ z, R z → ∀ p F' H', Wf F H F' H' → XL pN H F' H' p z → Q (.ref p) H'
abbrev N_across : List Str := ["rows", "width", "steps", "bit"]
theorem sc_across : FnScope N_across ["rows", "width"] (defScope s_across) := ⟨rfl, rfl, rfl, by decide +kernel, rfl, by decide +kernel, by decide +kernel⟩
theorem ok_across {P : Program} {w0 : World} {K : PySem.W.Frag} {mg : Str → Option Value} {base : Heap} {f : Addr} {fd : FuncData} {cc : Cz} (T : Tz K mg cc) (FU : Fun K "across" "across" s_across f fd) (hm : mg "across" = some (.ref f)) (hb : Binds K fd ["rows", "width"] []) (c_Steps___init__ : Nw P w0 K mg base CX0 2 cc.Steps "Steps" ["self", "rows"] (sp_Steps___init__ K cc)) (c_Steps_crossing : Md P w0 K mg base CX0 2 cc.Steps "crossing" ["self", "bit"] (sp_Steps_crossing K cc)) (n_range : mg "range" = none) : Fn P w0 K mg base CX0 4 "across" ["rows", "width"] (sp_across K cc) := by
  refine ⟨f, fd, FU.ok sc_across (fun vs H Q E h => ?_) (fun cdv A outer s H0 vs Q E hr h => ?_), hm, FU.kp, hb⟩
  · obtain ⟨_, _, _, _, _, rfl, _⟩ := h; rfl
  · obtain ⟨F0, v1, rows1, width1, R, rfl, wf, r1, hW, hQ⟩ := h
    have nd := sc_across.nd
    refine ⟨(tSeq (tAsg (tMake cc.Steps (sp_Steps___init__ K cc) [] E0 (tCons (tVar 0) tNil)) (gName 2)) (tRet (tLc (iRng1 (tCons (tVar 1) tNil)) (gName 3) (tB (tDNotIn (tOp kAdd (tVar 3) (tC (.int 1))) (tFld K (tVar 2) "kept"))) (tMeth cc.Steps "crossing" (sp_Steps_crossing K cc) [] E0 (tVar 2) (tCons (tVar 3) tNil)) [3]))), (pss_cons (ps_set (i := 2) nd rfl (Or.inr rfl) (pe_nw c_Steps___init__ (hr.mono (by decide)) rfl (pa_cons (pv 0) pa_nil))) (pss_one (ps_ret (pe_lc (own := [("bit", 3)]) (wi := (iRng1 (tCons (tVar 1) tNil))) (g := (gName 3)) (tt := (tB (tDNotIn (tOp kAdd (tVar 3) (tC (.int 1))) (tFld K (tVar 2) "kept")))) (te := (tMeth cc.Steps "crossing" (sp_Steps_crossing K cc) [] E0 (tVar 2) (tCons (tVar 3) tNil))) rfl nd (pi_range1 rfl n_range (pa_cons (pv 1) pa_nil)) (blkOk_by (N := N_across) (sc := defScope s_across) (by decide +kernel)) (fun _ _ _ _ _ => (pg_name (i := 3) nd rfl (Or.inl rfl))) (fun _ _ _ _ _ => (pts_one (pt_cmp (pc_dnotin (hu_of hr) (pe_op op_add (pv 3) pe_int) (pe_fld (pv 2) rfl))))) (fun _ _ _ _ _ => (pe_md c_Steps_crossing T.cl_Steps (hr.mono (by decide)) (pv 2) (pa_cons (pv 3) pa_nil))))))), ?_⟩
    have w := Wf.id wf
    refine q_sq fun N1 hN1 => ?_
    refine a_asgE ?_
    refine e_nw ?_
    refine a_val (v := v1) (val_var rfl) ?_
    refine a_nil ?_
    intro ob1 dx1 nx1 nd1 ne1
    refine ⟨F0, ob1, dx1, (v1), (rows1), _, rfl, upd_same, (w.f.non nx1), (Ex.made w.f nx1 nd1), r1, hW, ?_⟩
    intro z1 hW F1 H1 s1 r2
    refine ⟨rfl, ?_⟩
    replace s1 := Wf.made nx1 nd1 s1
    replace r1 := Rep.mono _ s1.g r1
    replace w := w.tr s1
    refine hN1 _ _ ?_
    refine a_retE ?_
    refine c_RE ?_
    refine e_val (v := (.int ((width1 : Nat) : Int))) (val_var rfl) ?_
    obtain ⟨c1, hW⟩ := hW
    refine w_compR (e := pN) w c1 hW ?_ ?_
    · intro Qy Qn bit1 F2 H2 R1 q1 hx1 hW hy1 hn1
      have r1 := Rep.mono _ q1.g r1
      have r2 := Rep.mono _ q1.g r2
      have w := Wf.id q1.f
      refine ⟨rfl, ?_⟩
      obtain ⟨v2, r3, fl1⟩ := fl_31 (K := K) T.cl_Steps T.na_Steps_kept r2 w.f
      refine e_ans (b := decide (¬ (hasT z1.1 (bit1 + 1) = true))) (t_ofB (vb_of (nin_D (j := bit1 + 1) r3 w.f (vn_add (val_var rfl) val_c) (fl1 (val_var rfl))) dec_nt)) ?_
      refine b_if (fun hc1 => ?_) (fun hc1 => ?_)
      · have hW := ifP hW hc1
        refine e_md ?_
        refine e_val (v := (.ref ob1)) (val_var rfl) ?_
        obtain ⟨p1, dx2, fs1, ev1, ho1, lm1⟩ := me_3 (m := "crossing") r2 w.f
        refine ⟨_, _, _, ev1, ho1, lm1, ?_⟩
        refine a_val (v := (.int ((bit1 : Nat) : Int))) (val_var rfl) ?_
        refine a_nil ?_
        refine ⟨F2, ((.ref ob1)), (z1), (bit1), _, rfl, w.f, r2, hW, ?_⟩
        intro z2 hW F3 H3 s2
        replace r1 := Rep.mono _ s2.g r1
        replace r2 := Rep.mono _ s2.g r2
        replace r3 := Rep.mono _ s2.g r3
        replace w := w.tr s2
        exact hy1 _ _ _ _ w rfl hW
      · have hW := ifN hW hc1
        exact hn1 _ _ w hW
    intro p2 ys1 F4 H4 hp1 s3 x1 hW
    replace r1 := Rep.mono _ s3.g r1
    replace r2 := Rep.mono _ s3.g r2
    replace w := w.tr s3
    exact hQ _ hW _ _ _ w x1
abbrev s_cell : Stmt := topS 9
/-! _law_cell -/
def W_cell (script1 : List Int) (k1 : Nat) (R : Int → Prop) : Prop := if k1 < script1.length then (∃ x1, script1[k1]? = some x1 ∧ R x1) else (R (((41 * k1) + 3 : Nat) : Int))
def sp_cell (K : PySem.W.Frag) (cc : Cz) : Sp := fun vs H Q _ => ∃ (F : Hp) (v1 : V) (script1 : List Int) (k1 : Nat) (R : Int → Prop), vs = [v1, (.int ((k1 : Nat) : Int))] ∧ Ex F H ∧ (pScr K).r F v1 script1 ∧ W_cell script1 k1 R ∧ ∀ z, R z → ∀ F' H', Wf F H F' H' → Q (.int (z)) H'
abbrev N_cell : List Str := ["_law_script", "_law_k"]
theorem sc_cell : FnScope N_cell ["_law_script", "_law_k"] (defScope s_cell) := ⟨rfl, rfl, rfl, by decide +kernel, rfl, by decide +kernel, by decide +kernel⟩
theorem ok_cell {P : Program} {w0 : World} {K : PySem.W.Frag} {mg : Str → Option Value} {base : Heap} {f : Addr} {fd : FuncData} {cc : Cz} (T : Tz K mg cc) (FU : Fun K "_law_cell" "_law_cell" s_cell f fd) (hm : mg "_law_cell" = some (.ref f)) (hb : Binds K fd ["_law_script", "_law_k"] []) (n_len : mg "len" = none) : Fn P w0 K mg base CX0 1 "_law_cell" ["_law_script", "_law_k"] (sp_cell K cc) := by
  refine ⟨f, fd, FU.ok sc_cell (fun vs H Q E h => ?_) (fun cdv A outer s H0 vs Q E hr h => ?_), hm, FU.kp, hb⟩
  · obtain ⟨_, _, _, _, _, rfl, _⟩ := h; rfl
  · obtain ⟨F0, v1, script1, k1, R, rfl, wf, r1, hW, hQ⟩ := h
    have nd := sc_cell.nd
    refine ⟨(tSeq (tIfS (tTest (tOp kLt (tVar 1) (tCB (Wk.rLen K) (tCons (tVar 0) tNil)))) (tRet (tOp (L2.rIxL K) (tVar 0) (tVar 1))) tNext) (tRet (tOp kAdd (tOp kMul (tC (.int 41)) (tVar 1)) (tC (.int 3))))), (pss_cons (ps_if (pt_cmpR op_lt (pv 1) (pe_callB call_len_seq (by rfl) n_len PySem.boot_len (pa_cons (pv 0) pa_nil)) (nomark _)) (pss_one (ps_ret (pe_ix ix_list (pv 0) (pv 1) (fun _ _ => rfl)))) pss_nil) (pss_one (ps_ret (pe_op op_add (pe_op op_mul pe_int (pv 1)) pe_int)))), ?_⟩
    have w := Wf.id wf
    refine q_sq fun N1 hN1 => ?_
    refine a_ifE ?_
    refine e_ans (b := decide (k1 < script1.length)) (t_of (vb_dec (c_lt (val_var rfl) (len_S r1 w.f (val_var rfl))) n_lt)) ?_
    refine b_if (fun hc1 => ?_) (fun hc1 => ?_)
    · have hW := ifP hW hc1
      obtain ⟨x1, hx1_1, hW⟩ := hW
      have ix1 := ix_S (K := K) w.f r1 hx1_1
      refine a_ret (v := (.int (x1))) (ix1 (val_var rfl) (val_var rfl)) ?_
      exact hQ _ hW _ _ w
    · have hW := ifN hW hc1
      refine hN1 _ _ ?_
      refine a_ret (v := (.int ((((41 * k1) + 3 : Nat) : Int)))) (vn_add (vn_mul val_c (val_var rfl) (.inl (by decide))) val_c) ?_
      exact hQ _ hW _ _ w
abbrev s_mix : Stmt := topS 10
/-! _law_mix -/
def W_mix (cell_here1 : Int) (k1 : Nat) (R : Nat → Prop) : Prop := ∀ number1 : Nat, number1 = ((((modN cell_here1 2147483647) * 48271) + (7919 * k1)) + 11) % 2147483647 → (NMul number1 number1) ∧ ∀ number2 : Nat, number2 = (number1 * number1) % 2147483629 → (NMul number2 ((number2 + (48271 * k1)) + 7)) ∧ R ((number2 * ((number2 + (48271 * k1)) + 7)) % 2147483587)
def sp_mix (K : PySem.W.Frag) (cc : Cz) : Sp := fun vs H Q _ => ∃ (F : Hp) (cell_here1 : Int) (k1 : Nat) (R : Nat → Prop), vs = [(.int (cell_here1)), (.int ((k1 : Nat) : Int))] ∧ Ex F H ∧ W_mix cell_here1 k1 R ∧ ∀ z, R z → ∀ F' H', Wf F H F' H' → Q (.int ((z : Nat) : Int)) H'
abbrev N_mix : List Str := ["_law_cell_here", "_law_k", "_law_number"]
theorem sc_mix : FnScope N_mix ["_law_cell_here", "_law_k"] (defScope s_mix) := ⟨rfl, rfl, rfl, by decide +kernel, rfl, by decide +kernel, by decide +kernel⟩
theorem ok_mix {P : Program} {w0 : World} {K : PySem.W.Frag} {mg : Str → Option Value} {base : Heap} {f : Addr} {fd : FuncData} {cc : Cz} (T : Tz K mg cc) (FU : Fun K "_law_mix" "_law_mix" s_mix f fd) (hm : mg "_law_mix" = some (.ref f)) (hb : Binds K fd ["_law_cell_here", "_law_k"] []) : Fn P w0 K mg base CX0 1 "_law_mix" ["_law_cell_here", "_law_k"] (sp_mix K cc) := by
  refine ⟨f, fd, FU.ok sc_mix (fun vs H Q E h => ?_) (fun cdv A outer s H0 vs Q E hr h => ?_), hm, FU.kp, hb⟩
  · obtain ⟨_, _, _, _, rfl, _⟩ := h; rfl
  · obtain ⟨F0, cell_here1, k1, R, rfl, wf, hW, hQ⟩ := h
    have nd := sc_mix.nd
    refine ⟨(tSeq (tAsg (tOp kMod (tOp kAdd (tOp kAdd (tOp kMul (tOp kMod (tVar 0) (tC (.int 2147483647))) (tC (.int 48271))) (tOp kMul (tC (.int 7919)) (tVar 1))) (tC (.int 11))) (tC (.int 2147483647))) (gName 2)) (tSeq (tAsg (tOp kMod (tOp kMul (tVar 2) (tVar 2)) (tC (.int 2147483629))) (gName 2)) (tRet (tOp kMod (tOp kMul (tVar 2) (tOp kAdd (tOp kAdd (tVar 2) (tOp kMul (tC (.int 48271)) (tVar 1))) (tC (.int 7)))) (tC (.int 2147483587)))))), (pss_cons (ps_set (i := 2) nd rfl (Or.inl rfl) (pe_op op_mod (pe_op op_add (pe_op op_add (pe_op op_mul (pe_op op_mod (pv 0) pe_int) pe_int) (pe_op op_mul pe_int (pv 1))) pe_int) pe_int)) (pss_cons (ps_set (i := 2) nd rfl (Or.inl rfl) (pe_op op_mod (pe_op op_mul (pv 2) (pv 2)) pe_int)) (pss_one (ps_ret (pe_op op_mod (pe_op op_mul (pv 2) (pe_op op_add (pe_op op_add (pv 2) (pe_op op_mul pe_int (pv 1))) pe_int)) pe_int))))), ?_⟩
    have w := Wf.id wf
    refine q_sq fun N1 hN1 => ?_
    obtain ⟨number1, enumber1⟩ : ∃ number1 : Nat, number1 = ((((modN cell_here1 2147483647) * 48271) + (7919 * k1)) + 11) % 2147483647 := ⟨_, rfl⟩
    replace hW := hW number1 enumber1
    refine a_asg (v := (.int ((number1 : Nat) : Int))) (v_eq (vn_mod (vn_add (vn_add (vn_mul (vm_mod (val_var rfl) val_c (by decide)) val_c (.inr (by decide))) (vn_mul val_c (val_var rfl) (.inl (by decide)))) val_c) val_c (by decide)) (by rw [enumber1])) ?_
    refine hN1 _ _ ?_
    refine q_sq fun N2 hN2 => ?_
    obtain ⟨c1, hW⟩ := hW
    obtain ⟨number2, enumber2⟩ : ∃ number2 : Nat, number2 = (number1 * number1) % 2147483629 := ⟨_, rfl⟩
    replace hW := hW number2 enumber2
    refine a_asg (v := (.int ((number2 : Nat) : Int))) (v_eq (vn_mod (vn_mul (val_var rfl) (val_var rfl) c1) val_c (by decide)) (by rw [enumber2])) ?_
    refine hN2 _ _ ?_
    obtain ⟨c2, hW⟩ := hW
    refine a_ret (v := (.int (((number2 * ((number2 + (48271 * k1)) + 7)) % 2147483587 : Nat) : Int))) (vn_mod (vn_mul (val_var rfl) (vn_add (vn_add (val_var rfl) (vn_mul val_c (val_var rfl) (.inl (by decide)))) val_c) c2) val_c (by decide)) ?_
    exact hQ _ hW _ _ w
abbrev s_wide : Stmt := topS 11
/-! _law_wide -/
def W_wide (cell_here1 : Int) (width1 : Nat) (R : (List Nat) → Prop) : Prop := if (modN cell_here1 2) = 0 then ((width1 < 1000000) ∧ compW (List.range width1) (fun k1 kk => (k1 < 100000000) ∧ kk (some (2 ^ k1))) fun ys1 => R ys1) else ((width1 < 1000000) ∧ forW (List.range width1) ([] : List Nat) (fun k2 wide_here1 nx1 bk1 => (7 < 1000000) ∧ forW (List.range 7) 0 (fun j1 noise1 nx2 bk2 => W_mix cell_here1 ((20 * k2) + j1) fun z1 => ∀ noise2 : Nat, noise2 = (noise1 * 2147483587) + z1 → nx2 noise2) fun noise1 => (NDiv width1) ∧ (NMul (200 / width1) (k2 + 1)) ∧ (1 ≤ (200 / width1) * (k2 + 1)) ∧ ∀ top1 : Nat, top1 = ((200 / width1) * (k2 + 1)) - 1 → (top1 < 100000000) ∧ (top1 < 100000000) ∧ (wide_here1.length < 1000000) ∧ nx1 (wide_here1 ++ [(2 ^ top1) + (noise1 % (2 ^ top1))])) fun wide_here1 => R wide_here1)
def sp_wide (K : PySem.W.Frag) (cc : Cz) : Sp := fun vs H Q _ => ∃ (F : Hp) (cell_here1 : Int) (width1 : Nat) (R : (List Nat) → Prop), vs = [(.int (cell_here1)), (.int ((width1 : Nat) : Int))] ∧ Ex F H ∧ W_wide cell_here1 width1 R ∧ ∀ z, R z → ∀ p F' H', Wf F H F' H' → XL pN H F' H' p z → Q (.ref p) H'
abbrev N_wide : List Str := ["_law_cell_here", "_law_width", "_law_k", "_law_wide_here", "_law_noise", "_law_j", "_law_top"]
theorem sc_wide : FnScope N_wide ["_law_cell_here", "_law_width"] (defScope s_wide) := ⟨rfl, rfl, rfl, by decide +kernel, rfl, by decide +kernel, by decide +kernel⟩
theorem ok_wide {P : Program} {w0 : World} {K : PySem.W.Frag} {mg : Str → Option Value} {base : Heap} {f : Addr} {fd : FuncData} {cc : Cz} (T : Tz K mg cc) (FU : Fun K "_law_wide" "_law_wide" s_wide f fd) (hm : mg "_law_wide" = some (.ref f)) (hb : Binds K fd ["_law_cell_here", "_law_width"] []) (c_mix : Fn P w0 K mg base CX0 1 "_law_mix" ["_law_cell_here", "_law_k"] (sp_mix K cc)) (n_range : mg "range" = none) : Fn P w0 K mg base CX0 2 "_law_wide" ["_law_cell_here", "_law_width"] (sp_wide K cc) := by
  refine ⟨f, fd, FU.ok sc_wide (fun vs H Q E h => ?_) (fun cdv A outer s H0 vs Q E hr h => ?_), hm, FU.kp, hb⟩
  · obtain ⟨_, _, _, _, rfl, _⟩ := h; rfl
  · obtain ⟨F0, cell_here1, width1, R, rfl, wf, hW, hQ⟩ := h
    have nd := sc_wide.nd
    refine ⟨(tSeq (tIfS (tTest (tOp L2.rEq (tOp kMod (tVar 0) (tC (.int 2))) (tC (.int 0)))) (tRet (tLc (iRng1 (tCons (tVar 1) tNil)) (gName 2) tYes (tOp kShl (tC (.int 1)) (tVar 2)) [2])) tNext) (tSeq (tAsg (tLst tNil) (gName 3)) (tSeq (tFor (iRng1 (tCons (tVar 1) tNil)) (gName 2) (tSeq (tAsg (tC (.int 0)) (gName 4)) (tSeq (tFor (iRng1 (tCons (tC (.int 7)) tNil)) (gName 5) (tAsg (tOp kAdd (tOp kMul (tVar 4) (tC (.int 2147483587))) (tCall (sp_mix K cc) [] E0 (tCons (tVar 0) (tCons (tOp kAdd (tOp kMul (tC (.int 20)) (tVar 2)) (tVar 5)) tNil)))) (gName 4))) (tSeq (tAsg (tOp kSub (tOp kMul (tOp kDiv (tC (.int 200)) (tVar 1)) (tOp kAdd (tVar 2) (tC (.int 1)))) (tC (.int 1))) (gName 6)) (tDrop (tBM K "list" rAppend (tVar 3) (tCons (tOp kAdd (tOp kShl (tC (.int 1)) (tVar 6)) (tOp kMod (tVar 4) (tOp kShl (tC (.int 1)) (tVar 6)))) tNil))))))) (tRet (tVar 3))))), (pss_cons (ps_if (pt_cmpR op_eq (pe_op op_mod (pv 0) pe_int) pe_int (nomark _)) (pss_one (ps_ret (pe_lc (own := [("_law_k", 2)]) (wi := (iRng1 (tCons (tVar 1) tNil))) (g := (gName 2)) (tt := tYes) (te := (tOp kShl (tC (.int 1)) (tVar 2))) rfl nd (pi_range1 rfl n_range (pa_cons (pv 1) pa_nil)) (blkOk_by (N := N_wide) (sc := defScope s_wide) (by decide +kernel)) (fun _ _ _ _ _ => (pg_name (i := 2) nd rfl (Or.inl rfl))) (fun _ _ _ _ _ => pts_nil) (fun _ _ _ _ _ => (pe_op op_shlW pe_int (pv 2)))))) pss_nil) (pss_cons (ps_set (i := 3) nd rfl (Or.inl rfl) (pe_lst pa_nil)) (pss_cons (ps_for PassesOwn.never rfl (pi_range1 rfl n_range (pa_cons (pv 1) pa_nil)) (pg_name (i := 2) nd rfl (Or.inl rfl)) (pss_cons (ps_set (i := 4) nd rfl (Or.inl rfl) pe_int) (pss_cons (ps_for PassesOwn.never rfl (pi_range1 rfl n_range (pa_cons pe_int pa_nil)) (pg_name (i := 5) nd rfl (Or.inl rfl)) (pss_one (ps_set (i := 4) nd rfl (Or.inl rfl) (pe_op op_add (pe_op op_mul (pv 4) pe_int) (pe_fn c_mix (hr.mono (by decide)) rfl (pa_cons (pv 0) (pa_cons (pe_op op_add (pe_op op_mul pe_int (pv 2)) (pv 5)) pa_nil))))))) (pss_cons (ps_set (i := 6) nd rfl (Or.inl rfl) (pe_op op_sub (pe_op op_mul (pe_op op_fdivW pe_int (pv 1)) (pe_op op_add (pv 2) pe_int)) pe_int)) (pss_one (ps_expr (pe_bm PySem.F.plainAttrs_list PySem.F.slot_list_append PySem.F.type_list_append mt_append (pv 3) (pa_cons (pe_op op_add (pe_op op_shlW pe_int (pv 6)) (pe_op op_mod (pv 4) (pe_op op_shlW pe_int (pv 6)))) pa_nil)))))))) (pss_one (ps_ret (pv 3)))))), ?_⟩
    have w := Wf.id wf
    refine q_sq fun N1 hN1 => ?_
    refine a_ifE ?_
    refine e_ans (b := decide ((modN cell_here1 2) = 0)) (t_of (vb_dec (c_eqI (vm_mod (val_var rfl) val_c (by decide)) val_c) n_eq)) ?_
    refine b_if (fun hc1 => ?_) (fun hc1 => ?_)
    · have hW := ifP hW hc1
      refine a_retE ?_
      refine c_RE ?_
      refine e_val (v := (.int ((width1 : Nat) : Int))) (val_var rfl) ?_
      obtain ⟨c1, hW⟩ := hW
      refine w_compR (e := pN) w c1 hW ?_ ?_
      · intro Qy Qn k1 F1 H1 R1 q1 hx1 hW hy1 hn1
        have w := Wf.id q1.f
        refine ⟨rfl, ?_⟩
        refine c_yes ?_
        obtain ⟨c2, hW⟩ := hW
        refine e_val (v := (.int ((2 ^ k1 : Nat) : Int))) (vn_one val_c (val_var rfl) c2) ?_
        exact hy1 _ _ _ _ w rfl hW
      intro p1 ys1 F2 H2 hp1 s1 x1 hW
      replace w := w.tr s1
      exact hQ _ hW _ _ _ w x1
    · have hW := ifN hW hc1
      refine hN1 _ _ ?_
      refine q_sq fun N2 hN2 => ?_
      refine a_asgE ?_
      refine e_lst ?_
      refine a_nil ?_
      refine n_lstX (e := pN) (xs := []) (vs := []) (show All pN _ [] [] from trivial) (show 0 < 1000000 from by decide) w ?_
      intro p2 H3 hp2 s2 x2
      replace w := w.tr s2
      refine hN2 _ _ ?_
      refine q_sq fun N3 hN3 => ?_
      refine f_RE ?_
      refine e_val (v := (.int ((width1 : Nat) : Int))) (val_var rfl) ?_
      obtain ⟨c3, hW⟩ := hW
      refine w_forR (S := List Nat) (fun wide_here1 σ' F' H' => ∃ (o1 : Option V) (o2 : Option V) (o3 : Option V) (o4 : Option V), Wf F0 H0 F' H' ∧ Ex F0 F' ∧ σ' = [some (.int (cell_here1)), some (.int ((width1 : Nat) : Int)), o1, some ((.ref p2)), o2, o3, o4] ∧ XL pN H0 F' H' p2 wide_here1) c3 hW ⟨_, _, _, _, w, Ex.rfl', rfl, x2⟩ ?_ ?_
      · intro N4 Bk1 k2 wide_here1 σ' F3 H4 nx1 bk1 hI1 hx2 hW hN4 hB1
        obtain ⟨o1, o2, o3, o4, w, gx1, rfl, x3⟩ := hI1
        refine g_name ?_
        refine q_sq fun N5 hN5 => ?_
        refine a_asg (v := (.int ((0 : Nat) : Int))) val_c ?_
        refine hN5 _ _ ?_
        refine q_sq fun N6 hN6 => ?_
        refine f_RE ?_
        refine e_val (v := (.int ((7 : Nat) : Int))) val_c ?_
        obtain ⟨c4, hW⟩ := hW
        refine w_forR (S := Nat) (fun noise1 σ' F' H' => ∃ (o5 : Option V), Wf F0 H0 F' H' ∧ Ex F3 F' ∧ σ' = [some (.int (cell_here1)), some (.int ((width1 : Nat) : Int)), some (.int ((k2 : Nat) : Int)), some (.ref p2), some (.int ((noise1 : Nat) : Int)), o5, o4] ∧ XL pN H0 F' H' p2 wide_here1) c4 hW ⟨_, w, Ex.rfl', rfl, x3⟩ ?_ ?_
        · intro N7 Bk2 j1 noise1 σ' F4 H5 nx2 bk2 hI2 hx3 hW hN7 hB2
          obtain ⟨o5, w, gx2, rfl, x4⟩ := hI2
          have gx1 := Ex.tr gx1 gx2
          refine g_name ?_
          refine a_asgE ?_
          refine e_op ?_
          refine e_val (v := (.int ((noise1 * 2147483587 : Nat) : Int))) (vn_mul (val_var rfl) val_c (.inr (by decide))) ?_
          refine e_call ?_
          refine a_val (v := (.int (cell_here1))) (val_var rfl) ?_
          refine a_val (v := (.int (((20 * k2) + j1 : Nat) : Int))) (vn_add (vn_mul val_c (val_var rfl) (.inl (by decide))) (val_var rfl)) ?_
          refine a_nil ?_
          refine ⟨F4, (cell_here1), ((20 * k2) + j1), _, rfl, w.f, hW, ?_⟩
          intro z1 hW F5 H6 s5
          replace x4 := x4.step s5
          replace w := w.tr s5
          replace gx2 := Ex.tr gx2 s5.g
          replace gx1 := Ex.tr gx1 s5.g
          refine rv2 (z := (.int (((noise1 * 2147483587) + z1 : Nat) : Int))) (vn_add val_c val_c) ?_
          obtain ⟨noise2, enoise1⟩ : ∃ noise2 : Nat, noise2 = (noise1 * 2147483587) + z1 := ⟨_, rfl⟩
          replace hW := hW noise2 enoise1
          refine nx_set (v := (.int ((noise2 : Nat) : Int))) (by rw [enoise1]) ?_
          exact hN7 noise2 _ _ _ ⟨_, w, gx2, rfl, x4⟩ hW
        · intro noise1 σ' F6 H7 hI3 hW
          obtain ⟨o5, w, gx3, rfl, x4⟩ := hI3
          have gx1 := Ex.tr gx1 gx3
          refine hN6 _ _ ?_
          refine q_sq fun N8 hN8 => ?_
          obtain ⟨c5, hW⟩ := hW
          obtain ⟨c6, hW⟩ := hW
          obtain ⟨c7, hW⟩ := hW
          obtain ⟨top1, etop1⟩ : ∃ top1 : Nat, top1 = ((200 / width1) * (k2 + 1)) - 1 := ⟨_, rfl⟩
          replace hW := hW top1 etop1
          refine a_asg (v := (.int ((top1 : Nat) : Int))) (v_eq (vn_sub (vn_mul (vn_div val_c (val_var rfl) c5) (vn_add (val_var rfl) val_c) c6) val_c c7) (by rw [etop1])) ?_
          refine hN8 _ _ ?_
          refine a_dropE ?_
          refine m_list x4 (val_var rfl) ?_
          obtain ⟨c8, hW⟩ := hW
          obtain ⟨c9, hW⟩ := hW
          refine a_val (v := (.int (((2 ^ top1) + (noise1 % (2 ^ top1)) : Nat) : Int))) (vn_add (vn_one val_c (val_var rfl) c8) (vn_mod (val_var rfl) (vn_one val_c (val_var rfl) c9) (Nat.two_pow_pos _))) ?_
          refine a_nil ?_
          obtain ⟨c10, hW⟩ := hW
          refine a_app x4 w c10 rfl (fun H8 w1 x5 kp1 => ?_)
          replace w := w1
          exact hN4 (wide_here1 ++ [(2 ^ top1) + (noise1 % (2 ^ top1))]) _ _ _ ⟨_, _, _, _, w, gx1, rfl, x5⟩ hW
      · intro wide_here1 σ' F7 H9 hI4 hW
        obtain ⟨o1, o2, o3, o4, w, gx4, rfl, x3⟩ := hI4
        refine hN3 _ _ ?_
        refine a_ret (v := (.ref p2)) (val_var rfl) ?_
        exact hQ _ hW _ _ _ w x3
abbrev s_row : Stmt := topS 12
/-! _law_row -/
def W_row (cell_here1 : Int) (width1 : Nat) (wide_here1 : List Nat) (R : (Nat × Nat) → Prop) : Prop := (width1 < 100000000) ∧ ∀ small1 : Nat, small1 = modN (cell_here1 / ((2 : Nat) : Int)) (2 ^ width1) → jn (fun kk => if (modN cell_here1 2) = 1 then (W_mix cell_here1 1 fun z1 => W_mix cell_here1 2 fun z2 => (width1 < 100000000) ∧ ∀ small3 : Nat, small3 = (z1 &&& z2) &&& ((2 ^ width1) - 1) → kk small3) else (kk small1)) fun small2 => (width1 < 1000000) ∧ forW (List.range width1) 0 (fun k1 row_here1 nx1 bk1 => if ((small2 >>> k1) &&& 1) = 1 then (∃ x1, wide_here1[k1]? = some x1 ∧ ∀ row_here2 : Nat, row_here2 = row_here1 ^^^ x1 → nx1 row_here2) else (nx1 row_here1)) fun row_here1 => R (small2, row_here1)
def sp_row (K : PySem.W.Frag) (cc : Cz) : Sp := fun vs H Q _ => ∃ (F : Hp) (cell_here1 : Int) (width1 : Nat) (v1 : V) (wide_here1 : List Nat) (R : (Nat × Nat) → Prop), vs = [(.int (cell_here1)), (.int ((width1 : Nat) : Int)), v1] ∧ Ex F H ∧ (pL pN).r F v1 wide_here1 ∧ W_row cell_here1 width1 wide_here1 R ∧ ∀ z, R z → ∀ v F' H', Wf F H F' H' → (pT2 pN pN).r F' v z → Q v H'
abbrev N_row : List Str := ["_law_cell_here", "_law_width", "_law_wide_here", "_law_small", "_law_row_here", "_law_k"]
theorem sc_row : FnScope N_row ["_law_cell_here", "_law_width", "_law_wide_here"] (defScope s_row) := ⟨rfl, rfl, rfl, by decide +kernel, rfl, by decide +kernel, by decide +kernel⟩
theorem ok_row {P : Program} {w0 : World} {K : PySem.W.Frag} {mg : Str → Option Value} {base : Heap} {f : Addr} {fd : FuncData} {cc : Cz} (T : Tz K mg cc) (FU : Fun K "_law_row" "_law_row" s_row f fd) (hm : mg "_law_row" = some (.ref f)) (hb : Binds K fd ["_law_cell_here", "_law_width", "_law_wide_here"] []) (c_mix : Fn P w0 K mg base CX0 1 "_law_mix" ["_law_cell_here", "_law_k"] (sp_mix K cc)) (n_range : mg "range" = none) : Fn P w0 K mg base CX0 2 "_law_row" ["_law_cell_here", "_law_width", "_law_wide_here"] (sp_row K cc) := by
  refine ⟨f, fd, FU.ok sc_row (fun vs H Q E h => ?_) (fun cdv A outer s H0 vs Q E hr h => ?_), hm, FU.kp, hb⟩
  · obtain ⟨_, _, _, _, _, _, rfl, _⟩ := h; rfl
  · obtain ⟨F0, cell_here1, width1, v1, wide_here1, R, rfl, wf, r1, hW, hQ⟩ := h
    have nd := sc_row.nd
    refine ⟨(tSeq (tAsg (tOp kMod (tOp kDiv (tVar 0) (tC (.int 2))) (tOp kShl (tC (.int 1)) (tVar 1))) (gName 3)) (tSeq (tIfS (tTest (tOp L2.rEq (tOp kMod (tVar 0) (tC (.int 2))) (tC (.int 1)))) (tAsg (tOp kAnd (tOp kAnd (tCall (sp_mix K cc) [] E0 (tCons (tVar 0) (tCons (tC (.int 1)) tNil))) (tCall (sp_mix K cc) [] E0 (tCons (tVar 0) (tCons (tC (.int 2)) tNil)))) (tOp kSub (tOp kShl (tC (.int 1)) (tVar 1)) (tC (.int 1)))) (gName 3)) tNext) (tSeq (tAsg (tC (.int 0)) (gName 4)) (tSeq (tFor (iRng1 (tCons (tVar 1) tNil)) (gName 5) (tIfS (tTest (tOp L2.rEq (tOp kAnd (tOp kShr (tVar 3) (tVar 5)) (tC (.int 1))) (tC (.int 1)))) (tAsg (tOp kXor (tVar 4) (tOp (L2.rIxL K) (tVar 2) (tVar 5))) (gName 4)) tNext)) (tRet (tTup (tCons (tVar 3) (tCons (tVar 4) tNil)))))))), (pss_cons (ps_set (i := 3) nd rfl (Or.inl rfl) (pe_op op_mod (pe_op op_fdivW (pv 0) pe_int) (pe_op op_shlW pe_int (pv 1)))) (pss_cons (ps_if (pt_cmpR op_eq (pe_op op_mod (pv 0) pe_int) pe_int (nomark _)) (pss_one (ps_set (i := 3) nd rfl (Or.inl rfl) (pe_op op_and (pe_op op_and (pe_fn c_mix (hr.mono (by decide)) rfl (pa_cons (pv 0) (pa_cons pe_int pa_nil))) (pe_fn c_mix (hr.mono (by decide)) rfl (pa_cons (pv 0) (pa_cons pe_int pa_nil)))) (pe_op op_sub (pe_op op_shlW pe_int (pv 1)) pe_int)))) pss_nil) (pss_cons (ps_set (i := 4) nd rfl (Or.inl rfl) pe_int) (pss_cons (ps_for PassesOwn.never rfl (pi_range1 rfl n_range (pa_cons (pv 1) pa_nil)) (pg_name (i := 5) nd rfl (Or.inl rfl)) (pss_one (ps_if (pt_cmpR op_eq (pe_op op_and (pe_op op_shr (pv 3) (pv 5)) pe_int) pe_int (nomark _)) (pss_one (ps_set (i := 4) nd rfl (Or.inl rfl) (pe_op op_xor (pv 4) (pe_ix ix_list (pv 2) (pv 5) (fun _ _ => rfl))))) pss_nil))) (pss_one (ps_ret (pe_tup (pa_cons (pv 3) (pa_cons (pv 4) pa_nil))))))))), ?_⟩
    have w := Wf.id wf
    refine q_sq fun N1 hN1 => ?_
    obtain ⟨c1, hW⟩ := hW
    obtain ⟨small1, esmall1⟩ : ∃ small1 : Nat, small1 = modN (cell_here1 / ((2 : Nat) : Int)) (2 ^ width1) := ⟨_, rfl⟩
    replace hW := hW small1 esmall1
    refine a_asg (v := (.int ((small1 : Nat) : Int))) (v_eq (vm_mod (vi_div (val_var rfl) val_c ⟨by decide, by decide +kernel⟩) (vn_one val_c (val_var rfl) c1) (Nat.two_pow_pos _)) (by rw [esmall1])) ?_
    refine hN1 _ _ ?_
    refine q_jn (S := Nat) hW (fun small2 σ' F' H' => Wf F0 H0 F' H' ∧ Ex F0 F' ∧ σ' = [some (.int (cell_here1)), some (.int ((width1 : Nat) : Int)), some v1, some (.int ((small2 : Nat) : Int)), none, none]) ?_ ?_
    · intro N2 hN2 hW
      have gx1 : Ex F0 F0 := Ex.rfl'
      refine a_ifE ?_
      refine e_ans (b := decide ((modN cell_here1 2) = 1)) (t_of (vb_dec (c_eqI (vm_mod (val_var rfl) val_c (by decide)) val_c) n_eq)) ?_
      refine b_if (fun hc1 => ?_) (fun hc1 => ?_)
      · have hW := ifP hW hc1
        refine a_asgE ?_
        refine e_op ?_
        refine e_op ?_
        refine e_call ?_
        refine a_val (v := (.int (cell_here1))) (val_var rfl) ?_
        refine a_val (v := (.int ((1 : Nat) : Int))) val_c ?_
        refine a_nil ?_
        refine ⟨F0, (cell_here1), (1), _, rfl, w.f, hW, ?_⟩
        intro z1 hW F1 H1 s1
        replace r1 := Rep.mono _ s1.g r1
        replace w := w.tr s1
        replace gx1 := Ex.tr gx1 s1.g
        refine e_call ?_
        refine a_val (v := (.int (cell_here1))) (val_var rfl) ?_
        refine a_val (v := (.int ((2 : Nat) : Int))) val_c ?_
        refine a_nil ?_
        refine ⟨F1, (cell_here1), (2), _, rfl, w.f, hW, ?_⟩
        intro z2 hW F2 H2 s2
        replace r1 := Rep.mono _ s2.g r1
        replace w := w.tr s2
        replace gx1 := Ex.tr gx1 s2.g
        refine rv2 (z := (.int ((z1 &&& z2 : Nat) : Int))) (vn_and val_c val_c) ?_
        obtain ⟨c2, hW⟩ := hW
        refine e_val (v := (.int (((2 ^ width1) - 1 : Nat) : Int))) (vn_sub (vn_one val_c (val_var rfl) c2) val_c (Nat.one_le_two_pow)) ?_
        refine rv2 (z := (.int (((z1 &&& z2) &&& ((2 ^ width1) - 1) : Nat) : Int))) (vn_and val_c val_c) ?_
        obtain ⟨small3, esmall2⟩ : ∃ small3 : Nat, small3 = (z1 &&& z2) &&& ((2 ^ width1) - 1) := ⟨_, rfl⟩
        replace hW := hW small3 esmall2
        refine nx_set (v := (.int ((small3 : Nat) : Int))) (by rw [esmall2]) ?_
        exact hN2 small3 _ _ _ ⟨w, gx1, rfl⟩ hW
      · have hW := ifN hW hc1
        exact hN2 small1 _ _ _ ⟨w, gx1, rfl⟩ hW
    · intro small2 σ' F3 H3 hI1 hW
      obtain ⟨w, gx2, rfl⟩ := hI1
      have r1 := Rep.mono _ gx2 r1
      refine q_sq fun N3 hN3 => ?_
      refine a_asg (v := (.int ((0 : Nat) : Int))) val_c ?_
      refine hN3 _ _ ?_
      refine q_sq fun N4 hN4 => ?_
      refine f_RE ?_
      refine e_val (v := (.int ((width1 : Nat) : Int))) (val_var rfl) ?_
      obtain ⟨c3, hW⟩ := hW
      refine w_forR (S := Nat) (fun row_here1 σ' F' H' => ∃ (o1 : Option V), Wf F0 H0 F' H' ∧ Ex F3 F' ∧ σ' = [some (.int (cell_here1)), some (.int ((width1 : Nat) : Int)), some v1, some (.int ((small2 : Nat) : Int)), some (.int ((row_here1 : Nat) : Int)), o1]) c3 hW ⟨_, w, Ex.rfl', rfl⟩ ?_ ?_
      · intro N5 Bk1 k1 row_here1 σ' F4 H4 nx1 bk1 hI2 hx1 hW hN5 hB1
        obtain ⟨o1, w, gx3, rfl⟩ := hI2
        have r1 := Rep.mono _ gx3 r1
        have gx2 := Ex.tr gx2 gx3
        refine g_name ?_
        refine a_ifE ?_
        refine e_ans (b := decide (((small2 >>> k1) &&& 1) = 1)) (t_of (vb_dec (c_eqI (vn_and (vn_shr (val_var rfl) (val_var rfl)) val_c) val_c) n_eq)) ?_
        refine b_if (fun hc2 => ?_) (fun hc2 => ?_)
        · have hW := ifP hW hc2
          obtain ⟨x1, hx1_1, hW⟩ := hW
          obtain ⟨_, rfl, ix1⟩ := ix_L (K := K) r1 w.f hx1_1
          obtain ⟨row_here2, erow_here1⟩ : ∃ row_here2 : Nat, row_here2 = row_here1 ^^^ x1 := ⟨_, rfl⟩
          replace hW := hW row_here2 erow_here1
          refine a_asg (v := (.int ((row_here2 : Nat) : Int))) (v_eq (vn_xor (val_var rfl) (ix1 (val_var rfl) (val_var rfl))) (by rw [erow_here1])) ?_
          exact hN5 row_here2 _ _ _ ⟨_, w, gx3, rfl⟩ hW
        · have hW := ifN hW hc2
          exact hN5 row_here1 _ _ _ ⟨_, w, gx3, rfl⟩ hW
      · intro row_here1 σ' F5 H5 hI3 hW
        obtain ⟨o1, w, gx4, rfl⟩ := hI3
        have r1 := Rep.mono _ gx4 r1
        have gx2 := Ex.tr gx2 gx4
        refine hN4 _ _ ?_
        refine a_retE ?_
        refine e_tup ?_
        refine a_val (v := (.int ((small2 : Nat) : Int))) (val_var rfl) ?_
        refine a_val (v := (.int ((row_here1 : Nat) : Int))) (val_var rfl) ?_
        refine a_nil ?_
        refine n_tup2 (e := pN) (f := pN) (x := small2) (y := row_here1) rfl rfl w ?_
        intro p1 F6 H6 s6 r2
        replace r1 := Rep.mono _ s6.g r1
        replace w := w.tr s6
        replace gx4 := Ex.tr gx4 s6.g
        replace gx2 := Ex.tr gx2 s6.g
        exact hQ _ hW _ _ _ w r2
abbrev s_rows : Stmt := topS 13
/-! _law_rows -/
def W_rows (script1 : List Int) (start1 : Nat) (most1 : Nat) (width1 : Nat) (R : (List Nat × List Nat × List Nat) → Prop) : Prop := W_cell script1 start1 fun z1 => W_wide z1 width1 fun z2 => ((cutT script1 (some (start1 + 1)) (some ((start1 + 1) + most1))).length < 1000000) ∧ compW (cutT script1 (some (start1 + 1)) (some ((start1 + 1) + most1))) (fun cell_here1 kk => W_row cell_here1 width1 z2 fun z3 => kk (some z3)) fun ys1 => W_cell script1 start1 fun z4 => W_mix z4 3 fun z5 => (z5 % 5 < 1000000) ∧ forW (List.range (z5 % 5)) ys1 (fun k1 pairs1 nx1 bk1 => W_cell script1 start1 fun z6 => W_mix z6 (4 + k1) fun z7 => W_row ((z7 : Nat) : Int) width1 z2 fun z8 => (pairs1.length < 1000000) ∧ nx1 (pairs1 ++ [z8])) fun pairs1 => (pairs1.length < 1000000) ∧ compW pairs1 (fun pair1 kk => kk (some pair1.1)) fun ys2 => (pairs1.length < 1000000) ∧ compW pairs1 (fun pair2 kk => kk (some pair2.2)) fun ys3 => R (ys2, ys3, z2)
def sp_rows (K : PySem.W.Frag) (cc : Cz) : Sp := fun vs H Q _ => ∃ (F : Hp) (v1 : V) (script1 : List Int) (start1 : Nat) (most1 : Nat) (width1 : Nat) (R : (List Nat × List Nat × List Nat) → Prop), vs = [v1, (.int ((start1 : Nat) : Int)), (.int ((most1 : Nat) : Int)), (.int ((width1 : Nat) : Int))] ∧ Ex F H ∧ (pScr K).r F v1 script1 ∧ W_rows script1 start1 most1 width1 R ∧ ∀ z, R z → ∀ v F' H', Wf F H F' H' → (pT3 (pL pN) (pL pN) (pL pN)).r F' v z → Q v H'
abbrev N_rows : List Str := ["_law_script", "_law_start", "_law_most", "_law_width", "_law_wide_here", "_law_pairs", "_law_cell_here", "_law_k", "_law_pair"]
theorem sc_rows : FnScope N_rows ["_law_script", "_law_start", "_law_most", "_law_width"] (defScope s_rows) := ⟨rfl, rfl, rfl, by decide +kernel, rfl, by decide +kernel, by decide +kernel⟩
theorem ok_rows {P : Program} {w0 : World} {K : PySem.W.Frag} {mg : Str → Option Value} {base : Heap} {f : Addr} {fd : FuncData} {cc : Cz} (T : Tz K mg cc) (FU : Fun K "_law_rows" "_law_rows" s_rows f fd) (hm : mg "_law_rows" = some (.ref f)) (hb : Binds K fd ["_law_script", "_law_start", "_law_most", "_law_width"] []) (c_cell : Fn P w0 K mg base CX0 1 "_law_cell" ["_law_script", "_law_k"] (sp_cell K cc)) (c_wide : Fn P w0 K mg base CX0 2 "_law_wide" ["_law_cell_here", "_law_width"] (sp_wide K cc)) (c_row : Fn P w0 K mg base CX0 2 "_law_row" ["_law_cell_here", "_law_width", "_law_wide_here"] (sp_row K cc)) (c_mix : Fn P w0 K mg base CX0 1 "_law_mix" ["_law_cell_here", "_law_k"] (sp_mix K cc)) (n_range : mg "range" = none) : Fn P w0 K mg base CX0 3 "_law_rows" ["_law_script", "_law_start", "_law_most", "_law_width"] (sp_rows K cc) := by
  refine ⟨f, fd, FU.ok sc_rows (fun vs H Q E h => ?_) (fun cdv A outer s H0 vs Q E hr h => ?_), hm, FU.kp, hb⟩
  · obtain ⟨_, _, _, _, _, _, _, rfl, _⟩ := h; rfl
  · obtain ⟨F0, v1, script1, start1, most1, width1, R, rfl, wf, r1, hW, hQ⟩ := h
    have nd := sc_rows.nd
    refine ⟨(tSeq (tAsg (tCall (sp_wide K cc) [] E0 (tCons (tCall (sp_cell K cc) [] E0 (tCons (tVar 0) (tCons (tVar 1) tNil))) (tCons (tVar 3) tNil))) (gName 4)) (tSeq (tAsg (tLc (iList K (tSl (rSlL K) (tVar 0) (tPart (tOp kAdd (tVar 1) (tC (.int 1)))) (tPart (tOp kAdd (tOp kAdd (tVar 1) (tC (.int 1))) (tVar 2))))) (gName 6) tYes (tCall (sp_row K cc) [] E0 (tCons (tVar 6) (tCons (tVar 3) (tCons (tVar 4) tNil)))) [6]) (gName 5)) (tSeq (tFor (iRng1 (tCons (tOp kMod (tCall (sp_mix K cc) [] E0 (tCons (tCall (sp_cell K cc) [] E0 (tCons (tVar 0) (tCons (tVar 1) tNil))) (tCons (tC (.int 3)) tNil))) (tC (.int 5))) tNil)) (gName 7) (tDrop (tBM K "list" rAppend (tVar 5) (tCons (tCall (sp_row K cc) [] E0 (tCons (tCall (sp_mix K cc) [] E0 (tCons (tCall (sp_cell K cc) [] E0 (tCons (tVar 0) (tCons (tVar 1) tNil))) (tCons (tOp kAdd (tC (.int 4)) (tVar 7)) tNil))) (tCons (tVar 3) (tCons (tVar 4) tNil)))) tNil)))) (tRet (tTup (tCons (tLc (iList K (tVar 5)) (gName 8) tYes (tOp (L2.rIxT K) (tVar 8) (tC (.int 0))) [8]) (tCons (tLc (iList K (tVar 5)) (gName 8) tYes (tOp (L2.rIxT K) (tVar 8) (tC (.int 1))) [8]) (tCons (tVar 4) tNil)))))))), (pss_cons (ps_set (i := 4) nd rfl (Or.inr rfl) (pe_fn c_wide (hr.mono (by decide)) rfl (pa_cons (pe_fn c_cell (hr.mono (by decide)) rfl (pa_cons (pv 0) (pa_cons (pv 1) pa_nil))) (pa_cons (pv 3) pa_nil)))) (pss_cons (ps_setLc (i := 5) (own := [("_law_cell_here", 6)]) (wi := (iList K (tSl (rSlL K) (tVar 0) (tPart (tOp kAdd (tVar 1) (tC (.int 1)))) (tPart (tOp kAdd (tOp kAdd (tVar 1) (tC (.int 1))) (tVar 2)))))) (g := (gName 6)) (tt := tYes) (te := (tCall (sp_row K cc) [] E0 (tCons (tVar 6) (tCons (tVar 3) (tCons (tVar 4) tNil))))) rfl nd rfl rfl (sw_true rfl rfl rfl (by decide +kernel)) (pi_list (pe_slice sl_list (pv 0) (po_some (pe_op op_add (pv 1) pe_int)) (po_some (pe_op op_add (pe_op op_add (pv 1) pe_int) (pv 2))))) (blkOk_by (N := N_rows) (sc := defScope s_rows) (by decide +kernel)) (fun _ _ _ _ _ => (pg_name (i := 6) nd rfl (Or.inl rfl))) (fun _ _ _ _ _ => pts_nil) (fun _ _ _ _ _ => (pe_fn c_row (hr.mono (by decide)) rfl (pa_cons (pv 6) (pa_cons (pv 3) (pa_cons (pv 4) pa_nil)))))) (pss_cons (ps_for PassesOwn.never rfl (pi_range1 rfl n_range (pa_cons (pe_op op_mod (pe_fn c_mix (hr.mono (by decide)) rfl (pa_cons (pe_fn c_cell (hr.mono (by decide)) rfl (pa_cons (pv 0) (pa_cons (pv 1) pa_nil))) (pa_cons pe_int pa_nil))) pe_int) pa_nil)) (pg_name (i := 7) nd rfl (Or.inl rfl)) (pss_one (ps_expr (pe_bm PySem.F.plainAttrs_list PySem.F.slot_list_append PySem.F.type_list_append mt_append (pv 5) (pa_cons (pe_fn c_row (hr.mono (by decide)) rfl (pa_cons (pe_fn c_mix (hr.mono (by decide)) rfl (pa_cons (pe_fn c_cell (hr.mono (by decide)) rfl (pa_cons (pv 0) (pa_cons (pv 1) pa_nil))) (pa_cons (pe_op op_add pe_int (pv 7)) pa_nil))) (pa_cons (pv 3) (pa_cons (pv 4) pa_nil)))) pa_nil))))) (pss_one (ps_ret (pe_tup (pa_cons (pe_lc (own := [("_law_pair", 8)]) (wi := (iList K (tVar 5))) (g := (gName 8)) (tt := tYes) (te := (tOp (L2.rIxT K) (tVar 8) (tC (.int 0)))) rfl nd (pi_list (pv 5)) (blkOk_by (N := N_rows) (sc := defScope s_rows) (by decide +kernel)) (fun _ _ _ _ _ => (pg_name (i := 8) nd rfl (Or.inl rfl))) (fun _ _ _ _ _ => pts_nil) (fun _ _ _ _ _ => (pe_ix ix_tup (pv 8) pe_int (fun _ _ => rfl)))) (pa_cons (pe_lc (own := [("_law_pair", 8)]) (wi := (iList K (tVar 5))) (g := (gName 8)) (tt := tYes) (te := (tOp (L2.rIxT K) (tVar 8) (tC (.int 1)))) rfl nd (pi_list (pv 5)) (blkOk_by (N := N_rows) (sc := defScope s_rows) (by decide +kernel)) (fun _ _ _ _ _ => (pg_name (i := 8) nd rfl (Or.inl rfl))) (fun _ _ _ _ _ => pts_nil) (fun _ _ _ _ _ => (pe_ix ix_tup (pv 8) pe_int (fun _ _ => rfl)))) (pa_cons (pv 4) pa_nil))))))))), ?_⟩
    have w := Wf.id wf
    refine q_sq fun N1 hN1 => ?_
    refine a_asgE ?_
    refine e_call ?_
    refine a_cons ?_
    refine e_call ?_
    refine a_val (v := v1) (val_var rfl) ?_
    refine a_val (v := (.int ((start1 : Nat) : Int))) (val_var rfl) ?_
    refine a_nil ?_
    refine ⟨F0, (v1), (script1), (start1), _, rfl, w.f, r1, hW, ?_⟩
    intro z1 hW F1 H1 s1
    replace r1 := Rep.mono _ s1.g r1
    replace w := w.tr s1
    refine a_val (v := (.int ((width1 : Nat) : Int))) (val_var rfl) ?_
    refine a_nil ?_
    refine ⟨F1, (z1), (width1), _, rfl, w.f, hW, ?_⟩
    intro z2 hW p1 F2 H2 s2 x1
    replace x1 := x1.base w
    replace r1 := Rep.mono _ s2.g r1
    replace w := w.tr s2
    obtain ⟨F3, w1, g1, r2, fz1⟩ := x1.frzE w
    replace r1 := Rep.mono _ g1 r1
    replace w := w1
    refine hN1 _ _ ?_
    refine q_sq fun N2 hN2 => ?_
    refine a_asgE ?_
    refine c_LE ?_
    refine n_cutS (lo := (some (start1 + 1))) (hi := (some ((start1 + 1) + most1))) r1 (val_var rfl) (po_s (n := start1 + 1) (vn_add (val_var rfl) val_c)) (po_s (n := (start1 + 1) + most1) (vn_add (vn_add (val_var rfl) val_c) (val_var rfl))) w ?_
    intro p2 H3 hp1 s3 x2
    replace r1 := Rep.mono _ s3.g r1
    replace r2 := Rep.mono _ s3.g r2
    replace w := w.tr s3
    obtain ⟨F4, w2, g2, r3, fz2⟩ := x2.frzE w
    replace r1 := Rep.mono _ g2 r1
    replace r2 := Rep.mono _ g2 r2
    replace w := w2
    obtain ⟨c1, hW⟩ := hW
    refine w_compL (e := (pT2 pN pN)) r3 w c1 hW ?_ ?_
    · intro Qy Qn cell_here1 u1 F5 H4 R1 q1 hx1 ru1 hW hy1 hn1
      have r1 := Rep.mono _ q1.g r1
      have r2 := Rep.mono _ q1.g r2
      have r3 := Rep.mono _ q1.g r3
      have w := Wf.id q1.f
      obtain rfl : u1 = (.int (cell_here1)) := ru1
      refine ⟨rfl, ?_⟩
      refine c_yes ?_
      refine e_call ?_
      refine a_val (v := (.int (cell_here1))) (val_var rfl) ?_
      refine a_val (v := (.int ((width1 : Nat) : Int))) (val_var rfl) ?_
      refine a_val (v := (.ref p1)) (val_var rfl) ?_
      refine a_nil ?_
      refine ⟨F5, (cell_here1), (width1), ((.ref p1)), (z2), _, rfl, w.f, r2, hW, ?_⟩
      intro z3 hW v2 F6 H5 s4 r4
      replace r1 := Rep.mono _ s4.g r1
      replace r2 := Rep.mono _ s4.g r2
      replace r3 := Rep.mono _ s4.g r3
      replace w := w.tr s4
      exact hy1 _ _ _ _ w r4 hW
    intro p3 ys1 F7 H6 hp2 s5 x3 hW
    replace r1 := Rep.mono _ s5.g r1
    replace r2 := Rep.mono _ s5.g r2
    replace r3 := Rep.mono _ s5.g r3
    replace w := w.tr s5
    refine hN2 _ _ ?_
    refine q_sq fun N3 hN3 => ?_
    refine f_RE ?_
    refine e_op ?_
    refine e_call ?_
    refine a_cons ?_
    refine e_call ?_
    refine a_val (v := v1) (val_var rfl) ?_
    refine a_val (v := (.int ((start1 : Nat) : Int))) (val_var rfl) ?_
    refine a_nil ?_
    refine ⟨F7, (v1), (script1), (start1), _, rfl, w.f, r1, hW, ?_⟩
    intro z4 hW F8 H7 s6
    replace r1 := Rep.mono _ s6.g r1
    replace r2 := Rep.mono _ s6.g r2
    replace x3 := x3.step s6
    replace w := w.tr s6
    refine a_val (v := (.int ((3 : Nat) : Int))) val_c ?_
    refine a_nil ?_
    refine ⟨F8, (z4), (3), _, rfl, w.f, hW, ?_⟩
    intro z5 hW F9 H8 s7
    replace r1 := Rep.mono _ s7.g r1
    replace r2 := Rep.mono _ s7.g r2
    replace x3 := x3.step s7
    replace w := w.tr s7
    refine e_val (v := (.int ((5 : Nat) : Int))) val_c ?_
    refine rv2 (z := (.int ((z5 % 5 : Nat) : Int))) (vn_mod val_c val_c (by decide)) ?_
    obtain ⟨c2, hW⟩ := hW
    refine w_forR (S := List (Nat × Nat)) (fun pairs1 σ' F' H' => ∃ (o1 : Option V), Wf F0 H0 F' H' ∧ Ex F9 F' ∧ σ' = [some v1, some (.int ((start1 : Nat) : Int)), some (.int ((most1 : Nat) : Int)), some (.int ((width1 : Nat) : Int)), some (.ref p1), some ((.ref p3)), none, o1, none] ∧ XL (pT2 pN pN) H0 F' H' p3 pairs1) c2 hW ⟨_, w, Ex.rfl', rfl, x3⟩ ?_ ?_
    · intro N4 Bk1 k1 pairs1 σ' F10 H9 nx1 bk1 hI1 hx2 hW hN4 hB1
      obtain ⟨o1, w, gx1, rfl, x4⟩ := hI1
      have r1 := Rep.mono _ gx1 r1
      have r2 := Rep.mono _ gx1 r2
      refine g_name ?_
      refine a_dropE ?_
      refine m_list x4 (val_var rfl) ?_
      refine a_cons ?_
      refine e_call ?_
      refine a_cons ?_
      refine e_call ?_
      refine a_cons ?_
      refine e_call ?_
      refine a_val (v := v1) (val_var rfl) ?_
      refine a_val (v := (.int ((start1 : Nat) : Int))) (val_var rfl) ?_
      refine a_nil ?_
      refine ⟨F10, (v1), (script1), (start1), _, rfl, w.f, r1, hW, ?_⟩
      intro z6 hW F11 H10 s9
      replace r1 := Rep.mono _ s9.g r1
      replace r2 := Rep.mono _ s9.g r2
      replace x4 := x4.step s9
      replace w := w.tr s9
      replace gx1 := Ex.tr gx1 s9.g
      refine a_val (v := (.int ((4 + k1 : Nat) : Int))) (vn_add val_c (val_var rfl)) ?_
      refine a_nil ?_
      refine ⟨F11, (z6), (4 + k1), _, rfl, w.f, hW, ?_⟩
      intro z7 hW F12 H11 s10
      replace r1 := Rep.mono _ s10.g r1
      replace r2 := Rep.mono _ s10.g r2
      replace x4 := x4.step s10
      replace w := w.tr s10
      replace gx1 := Ex.tr gx1 s10.g
      refine a_val (v := (.int ((width1 : Nat) : Int))) (val_var rfl) ?_
      refine a_val (v := (.ref p1)) (val_var rfl) ?_
      refine a_nil ?_
      refine ⟨F12, (((z7 : Nat) : Int)), (width1), ((.ref p1)), (z2), _, rfl, w.f, r2, hW, ?_⟩
      intro z8 hW v3 F13 H12 s11 r5
      replace r1 := Rep.mono _ s11.g r1
      replace r2 := Rep.mono _ s11.g r2
      replace x4 := x4.step s11
      replace w := w.tr s11
      replace gx1 := Ex.tr gx1 s11.g
      refine a_nil ?_
      obtain ⟨c3, hW⟩ := hW
      refine a_app x4 w c3 r5 (fun H13 w3 x5 kp1 => ?_)
      replace w := w3
      exact hN4 (pairs1 ++ [z8]) _ _ _ ⟨_, w, gx1, rfl, x5⟩ hW
    · intro pairs1 σ' F14 H14 hI2 hW
      obtain ⟨o1, w, gx2, rfl, x4⟩ := hI2
      have r1 := Rep.mono _ gx2 r1
      have r2 := Rep.mono _ gx2 r2
      refine hN3 _ _ ?_
      refine a_retE ?_
      refine e_tup ?_
      refine a_cons ?_
      refine c_LE ?_
      refine e_val (v := (.ref p3)) (val_var rfl) ?_
      obtain ⟨c4, hW⟩ := hW
      refine w_compX (e := pN) x4 w c4 hW ?_ ?_
      · intro Qy Qn pair1 u3 F15 H15 R2 q2 hx3 ru3 hW hy2 hn2
        have r1 := Rep.mono _ q2.g r1
        have r2 := Rep.mono _ q2.g r2
        have x4 := x4.step q2
        have w := Wf.id q2.f
        refine ⟨rfl, ?_⟩
        refine c_yes ?_
        obtain ⟨_, rfl, ix1⟩ := ix_2a (K := K) ru3 w.f
        refine e_val (v := (.int ((pair1.1 : Nat) : Int))) (ix1 (val_var rfl) val_c) ?_
        exact hy2 _ _ _ _ w rfl hW
      intro p4 ys2 F16 H16 hp3 s13 x6 hW
      have ne1 := x4.ne hp3
      replace r1 := Rep.mono _ s13.g r1
      replace r2 := Rep.mono _ s13.g r2
      replace x4 := x4.step s13
      replace w := w.tr s13
      replace gx2 := Ex.tr gx2 s13.g
      refine a_cons ?_
      refine c_LE ?_
      refine e_val (v := (.ref p3)) (val_var rfl) ?_
      obtain ⟨c5, hW⟩ := hW
      refine w_compX (e := pN) x4 w c5 hW ?_ ?_
      · intro Qy Qn pair2 u4 F17 H17 R3 q3 hx4 ru4 hW hy3 hn3
        have r1 := Rep.mono _ q3.g r1
        have r2 := Rep.mono _ q3.g r2
        have x4 := x4.step q3
        have x6 := x6.step q3
        have w := Wf.id q3.f
        refine ⟨rfl, ?_⟩
        refine c_yes ?_
        obtain ⟨_, rfl, ix2⟩ := ix_2b (K := K) ru4 w.f
        refine e_val (v := (.int ((pair2.2 : Nat) : Int))) (ix2 (val_var rfl) val_c) ?_
        exact hy3 _ _ _ _ w rfl hW
      intro p5 ys3 F18 H18 hp4 s14 x7 hW
      have ne2 := x4.ne hp4
      have ne3 := x6.ne hp4
      replace r1 := Rep.mono _ s14.g r1
      replace r2 := Rep.mono _ s14.g r2
      replace x4 := x4.step s14
      replace x6 := x6.step s14
      replace w := w.tr s14
      replace gx2 := Ex.tr gx2 s14.g
      refine a_val (v := (.ref p1)) (val_var rfl) ?_
      refine a_nil ?_
      obtain ⟨F19, w4, g3, r8, fz3⟩ := x6.frzE w
      replace r1 := Rep.mono _ g3 r1
      replace r2 := Rep.mono _ g3 r2
      replace x4 := x4.frzO fz3 ne1 g3
      replace x7 := x7.frzO fz3 (Ne.symm ne3) g3
      replace w := w4
      replace gx2 := Ex.tr gx2 g3
      obtain ⟨F20, w5, g4, r9, fz4⟩ := x7.frzE w
      replace r1 := Rep.mono _ g4 r1
      replace r2 := Rep.mono _ g4 r2
      replace x4 := x4.frzO fz4 ne2 g4
      replace r8 := Rep.mono _ g4 r8
      replace w := w5
      replace gx2 := Ex.tr gx2 g4
      refine n_tup3 (e := (pL pN)) (f := (pL pN)) (g := (pL pN)) (x := ys2) (y := ys3) (z := z2) r8 r9 r2 w ?_
      intro p6 F21 H19 s15 r10
      replace r1 := Rep.mono _ s15.g r1
      replace r2 := Rep.mono _ s15.g r2
      replace x4 := x4.step s15
      replace r8 := Rep.mono _ s15.g r8
      replace r9 := Rep.mono _ s15.g r9
      replace w := w.tr s15
      replace gx2 := Ex.tr gx2 s15.g
      exact hQ _ hW _ _ _ w r10
abbrev s_odd : Stmt := topS 14
/-! _law_odd -/
def W_odd (mask1 : Nat) (R : Bool → Prop) : Prop := whileW (fun (mask2, odd_here1) T => T (decide (0 < mask2))) (fun (mask2, odd_here1) nx1 bk1 => (1 ≤ mask2) ∧ ∀ mask3 : Nat, mask3 = mask2 &&& (mask2 - 1) → ∀ odd_here2 : Bool, odd_here2 = decide (¬ (odd_here1 = true)) → nx1 (mask3, odd_here2)) (mask1, false) fun (mask2, odd_here1) => R odd_here1
def sp_odd (K : PySem.W.Frag) (cc : Cz) : Sp := fun vs H Q _ => ∃ (F : Hp) (mask1 : Nat) (R : Bool → Prop), vs = [(.int ((mask1 : Nat) : Int))] ∧ Ex F H ∧ W_odd mask1 R ∧ ∀ z, R z → ∀ F' H', Wf F H F' H' → Q (.bl (z)) H'
abbrev N_odd : List Str := ["_law_mask", "_law_odd_here"]
theorem sc_odd : FnScope N_odd ["_law_mask"] (defScope s_odd) := ⟨rfl, rfl, rfl, by decide +kernel, rfl, by decide +kernel, by decide +kernel⟩
theorem ok_odd {P : Program} {w0 : World} {K : PySem.W.Frag} {mg : Str → Option Value} {base : Heap} {f : Addr} {fd : FuncData} {cc : Cz} (T : Tz K mg cc) (FU : Fun K "_law_odd" "_law_odd" s_odd f fd) (hm : mg "_law_odd" = some (.ref f)) (hb : Binds K fd ["_law_mask"] []) : Fn P w0 K mg base CX0 1 "_law_odd" ["_law_mask"] (sp_odd K cc) := by
  refine ⟨f, fd, FU.ok sc_odd (fun vs H Q E h => ?_) (fun cdv A outer s H0 vs Q E hr h => ?_), hm, FU.kp, hb⟩
  · obtain ⟨_, _, _, rfl, _⟩ := h; rfl
  · obtain ⟨F0, mask1, R, rfl, wf, hW, hQ⟩ := h
    have nd := sc_odd.nd
    refine ⟨(tSeq (tAsg (tC (.bl false)) (gName 1)) (tSeq (tWhile (tTest (tOp kGt (tVar 0) (tC (.int 0)))) (tSeq (tAsg (tOp kAnd (tVar 0) (tOp kSub (tVar 0) (tC (.int 1)))) (gName 0)) (tAsg (tNotV (tVar 1)) (gName 1)))) (tRet (tVar 1)))), (pss_cons (ps_set (i := 1) nd rfl (Or.inl rfl) pe_bl) (pss_cons (ps_while PassesOwn.never (pt_cmpR op_gt (pv 0) pe_int (nomark _)) (pss_cons (ps_set (i := 0) nd rfl (Or.inl rfl) (pe_op op_and (pv 0) (pe_op op_sub (pv 0) pe_int))) (pss_one (ps_set (i := 1) nd rfl (Or.inl rfl) (pe_not (pv 1)))))) (pss_one (ps_ret (pv 1))))), ?_⟩
    have w := Wf.id wf
    refine q_sq fun N1 hN1 => ?_
    refine a_asg (v := (.bl (false))) val_c ?_
    refine hN1 _ _ ?_
    refine q_sq fun N2 hN2 => ?_
    refine w_while (S := Nat × Bool) (fun s σ' F' H' => match s with | (mask2, odd_here1) => Wf F0 H0 F' H' ∧ Ex F0 F' ∧ σ' = [some (.int ((mask2 : Nat) : Int)), some (.bl (odd_here1))]) hW ⟨w, Ex.rfl', rfl⟩ ?_ ?_ ?_
    · intro s1 σ' F1 H1 T1 Qc1 hI1 hW hT1
      obtain ⟨mask2, odd_here1⟩ := s1
      obtain ⟨w, gx1, rfl⟩ := hI1
      refine e_ans (b := decide (0 < mask2)) (t_of (vb_dec (c_gt (val_var rfl) val_c) n_lt)) ?_
      exact hT1 _ _ _ ⟨w, gx1, rfl⟩ hW
    · intro N3 Bk1 s2 σ' F2 H2 nx1 bk1 hI2 hW hN3 hB1
      obtain ⟨mask2, odd_here1⟩ := s2
      obtain ⟨w, gx2, rfl⟩ := hI2
      refine q_sq fun N4 hN4 => ?_
      obtain ⟨c1, hW⟩ := hW
      obtain ⟨mask3, emask1⟩ : ∃ mask3 : Nat, mask3 = mask2 &&& (mask2 - 1) := ⟨_, rfl⟩
      replace hW := hW mask3 emask1
      refine a_asg (v := (.int ((mask3 : Nat) : Int))) (v_eq (vn_and (val_var rfl) (vn_sub (val_var rfl) val_c c1)) (by rw [emask1])) ?_
      refine hN4 _ _ ?_
      obtain ⟨odd_here2, eodd_here1⟩ : ∃ odd_here2 : Bool, odd_here2 = decide (¬ (odd_here1 = true)) := ⟨_, rfl⟩
      replace hW := hW odd_here2 eodd_here1
      refine a_asg (v := (.bl (odd_here2))) (v_eq (vt_not (vb_of (val_var rfl) dec_tt)) (by rw [eodd_here1])) ?_
      exact hN3 (mask3, odd_here2) _ _ _ ⟨w, gx2, rfl⟩ hW
    · intro s3 σ' F3 H3 hI3 hW
      obtain ⟨mask2, odd_here1⟩ := s3
      obtain ⟨w, gx3, rfl⟩ := hI3
      refine hN2 _ _ ?_
      refine a_ret (v := (.bl (odd_here1))) (val_var rfl) ?_
      exact hQ _ hW _ _ w
abbrev s_are_places : Stmt := topS 15
/-! _law_are_places -/
def W_are_places (found1 : List Nat) (many1 : Nat) (R : Bool → Prop) : Prop := ∀ ahead1 : Int, ahead1 = -1 → forW found1 ahead1 (fun place1 ahead2 nx1 bk1 => if ¬ (ahead2 < ((place1 : Nat) : Int) ∧ place1 < many1) then (R false) else (∀ ahead3 : Int, ahead3 = ((place1 : Nat) : Int) → nx1 ahead3)) fun ahead2 => R true
def sp_are_places (K : PySem.W.Frag) (cc : Cz) : Sp := fun vs H Q _ => ∃ (F : Hp) (v1 : V) (found1 : List Nat) (many1 : Nat) (R : Bool → Prop), vs = [v1, (.int ((many1 : Nat) : Int))] ∧ Ex F H ∧ (pL pN).r F v1 found1 ∧ W_are_places found1 many1 R ∧ ∀ z, R z → ∀ F' H', Wf F H F' H' → Q (.bl (z)) H'
abbrev N_are_places : List Str := ["_law_found", "_law_many", "_law_ahead", "_law_place"]
theorem sc_are_places : FnScope N_are_places ["_law_found", "_law_many"] (defScope s_are_places) := ⟨rfl, rfl, rfl, by decide +kernel, rfl, by decide +kernel, by decide +kernel⟩
theorem ok_are_places {P : Program} {w0 : World} {K : PySem.W.Frag} {mg : Str → Option Value} {base : Heap} {f : Addr} {fd : FuncData} {cc : Cz} (T : Tz K mg cc) (FU : Fun K "_law_are_places" "_law_are_places" s_are_places f fd) (hm : mg "_law_are_places" = some (.ref f)) (hb : Binds K fd ["_law_found", "_law_many"] []) (n_bool : mg "bool" = none) (n_int : mg "int" = none) (n_isinstance : mg "isinstance" = none) (n_list : mg "list" = none) : Fn P w0 K mg base CX0 1 "_law_are_places" ["_law_found", "_law_many"] (sp_are_places K cc) := by
  refine ⟨f, fd, FU.ok sc_are_places (fun vs H Q E h => ?_) (fun cdv A outer s H0 vs Q E hr h => ?_), hm, FU.kp, hb⟩
  · obtain ⟨_, _, _, _, _, rfl, _⟩ := h; rfl
  · obtain ⟨F0, v1, found1, many1, R, rfl, wf, r1, hW, hQ⟩ := h
    have nd := sc_are_places.nd
    refine ⟨(tSeq (tIfS (tNot (tB (tCB (rIsi K) (tCons (tVar 0) (tCons (tC (.ty "list")) tNil))))) (tRet (tC (.bl false))) tNext) (tSeq (tAsg (tUn kNeg (tC (.int 1))) (gName 2)) (tSeq (tFor (iList K (tVar 0)) (gName 3) (tSeq (tIfS (tOr (tNot (tB (tCB (rIsi K) (tCons (tVar 3) (tCons (tC (.ty "int")) tNil))))) (tOr (tB (tCB (rIsi K) (tCons (tVar 3) (tCons (tC (.ty "bool")) tNil)))) (tNot (tTest (tChain kLt kLt (tVar 2) (tVar 3) (tVar 1)))))) (tRet (tC (.bl false))) tNext) (tAsg (tVar 3) (gName 2)))) (tRet (tC (.bl true)))))), (pss_cons (ps_if (pt_not (pt_val (pe_callB call_isi (by rfl) n_isinstance PyProof.Rows.boot_isinstance (pa_cons (pv 0) (pa_cons (pe_bltn (v := .ty "list") (by rfl) n_list PyProof.Rows.boot_list rfl) pa_nil))))) (pss_one (ps_ret pe_bl)) pss_nil) (pss_cons (ps_set (i := 2) nd rfl (Or.inl rfl) (pe_un un_neg pe_int)) (pss_cons (ps_for PassesOwn.never rfl (pi_list (pv 0)) (pg_name (i := 3) nd rfl (Or.inl rfl)) (pss_cons (ps_if (PW.pt (pw_or (pt_not (pt_val (pe_callB call_isi (by rfl) n_isinstance PyProof.Rows.boot_isinstance (pa_cons (pv 3) (pa_cons (pe_bltn (v := .ty "int") (by rfl) n_int PyProof.Rows.boot_int rfl) pa_nil))))) (pw_or (pt_val (pe_callB call_isi (by rfl) n_isinstance PyProof.Rows.boot_isinstance (pa_cons (pv 3) (pa_cons (pe_bltn (v := .ty "bool") (by rfl) n_bool PyProof.Rows.boot_bool rfl) pa_nil)))) (pw_or1 (pt_not (pt_chain op_lt op_lt (pv 2) (pv 3) (pv 1))))))) (pss_one (ps_ret pe_bl)) pss_nil) (pss_one (ps_set (i := 2) nd rfl (Or.inl rfl) (pv 3))))) (pss_one (ps_ret pe_bl))))), ?_⟩
    have w := Wf.id wf
    refine q_sq fun N1 hN1 => ?_
    refine a_ifE ?_
    refine e_ans (b := false) (t_dec (t_iff (p := ¬ (True)) (q := False) (t_not (t_ofB (vb_of (v_isi (b := true) (val_var rfl) (ty_L r1 w.f) (by decide +kernel)) dec_T))) (by simp)) dec_F.symm) ?_
    refine if_f ?_
    refine hN1 _ _ ?_
    refine q_sq fun N2 hN2 => ?_
    obtain ⟨ahead1, eahead1⟩ : ∃ ahead1 : Int, ahead1 = -1 := ⟨_, rfl⟩
    replace hW := hW ahead1 eahead1
    refine a_asg (v := (.int (ahead1))) (v_eq (v_neg val_c) (by rw [eahead1])) ?_
    refine hN2 _ _ ?_
    refine q_sq fun N3 hN3 => ?_
    refine f_LE ?_
    refine e_val (v := v1) (val_var rfl) ?_
    refine w_forL (S := Int) (fun ahead2 σ' F' H' => ∃ (o1 : Option V), Wf F0 H0 F' H' ∧ Ex F0 F' ∧ σ' = [some v1, some (.int ((many1 : Nat) : Int)), some (.int (ahead2)), o1]) r1 hW ⟨_, w, Ex.rfl', rfl⟩ (fun s σ' F' H' hI => by obtain ⟨_, w', gx', _⟩ := hI; exact ⟨gx', w'.f⟩) w.f ?_ ?_
    · intro N4 Bk1 place1 u1 ahead2 σ' F1 H1 nx1 bk1 hI1 hx1 ru1 hW hN4 hB1
      obtain ⟨o1, w, gx1, rfl⟩ := hI1
      have r1 := Rep.mono _ gx1 r1
      obtain rfl : u1 = (.int ((place1 : Nat) : Int)) := ru1
      refine g_name ?_
      refine q_sq fun N5 hN5 => ?_
      refine a_ifE ?_
      refine e_ans (b := decide (¬ (ahead2 < ((place1 : Nat) : Int) ∧ place1 < many1))) (t_iff (p := (¬ (True)) ∨ ((False) ∨ (¬ (ahead2 < ((place1 : Nat) : Int) ∧ place1 < many1)))) (q := ¬ (ahead2 < ((place1 : Nat) : Int) ∧ place1 < many1)) (t_or (t_not (t_ofB (vb_of (v_isi (b := true) (val_var rfl) (.base (.int _)) (by decide +kernel)) dec_T))) (fun _ => (t_or (t_ofB (vb_of (v_isi (b := false) (val_var rfl) (.base (.int _)) (by decide +kernel)) dec_F)) (fun _ => (t_not (t_of (vb_of (v_chain (b1 := decide (ahead2 < ((place1 : Nat) : Int))) (b2 := decide (place1 < many1)) (x := (.int (ahead2))) (y := (.int ((place1 : Nat) : Int))) (z := (.int ((many1 : Nat) : Int))) (val_var rfl) (val_var rfl) (val_var rfl) (fun Q k => rv2 (c_lt val_c val_c) k) (fun Q k => rv2 (vb_dec (c_lt val_c val_c) n_lt) k)) dec_and))))))) (by simp)) ?_
      refine b_if (fun hc1 => ?_) (fun hc1 => ?_)
      · have hW := ifP hW hc1
        refine a_ret (v := (.bl (false))) val_c ?_
        exact hQ _ hW _ _ w
      · have hW := ifN hW hc1
        refine hN5 _ _ ?_
        obtain ⟨ahead3, eahead2⟩ : ∃ ahead3 : Int, ahead3 = ((place1 : Nat) : Int) := ⟨_, rfl⟩
        replace hW := hW ahead3 eahead2
        refine a_asg (v := (.int (ahead3))) (v_eq (val_var rfl) (by rw [eahead2])) ?_
        exact hN4 ahead3 _ _ _ ⟨_, w, gx1, rfl⟩ hW
    · intro ahead2 σ' F2 H2 hI2 hW
      obtain ⟨o1, w, gx2, rfl⟩ := hI2
      have r1 := Rep.mono _ gx2 r1
      refine hN3 _ _ ?_
      refine a_ret (v := (.bl (true))) val_c ?_
      exact hQ _ hW _ _ w
abbrev s_sum_at : Stmt := topS 16
/-! _law_sum_at -/
def W_sum_at (rows_here1 : List Nat) (places1 : List Nat) (R : Nat → Prop) : Prop := forW places1 0 (fun place1 found1 nx1 bk1 => ∃ x1, rows_here1[place1]? = some x1 ∧ ∀ found2 : Nat, found2 = found1 ^^^ x1 → nx1 found2) fun found1 => R found1
def sp_sum_at (K : PySem.W.Frag) (cc : Cz) : Sp := fun vs H Q _ => ∃ (F : Hp) (v1 : V) (rows_here1 : List Nat) (v2 : V) (places1 : List Nat) (R : Nat → Prop), vs = [v1, v2] ∧ Ex F H ∧ (pL pN).r F v1 rows_here1 ∧ (pL pN).r F v2 places1 ∧ W_sum_at rows_here1 places1 R ∧ ∀ z, R z → ∀ F' H', Wf F H F' H' → Q (.int ((z : Nat) : Int)) H'
abbrev N_sum_at : List Str := ["_law_rows_here", "_law_places", "_law_found", "_law_place"]
theorem sc_sum_at : FnScope N_sum_at ["_law_rows_here", "_law_places"] (defScope s_sum_at) := ⟨rfl, rfl, rfl, by decide +kernel, rfl, by decide +kernel, by decide +kernel⟩
theorem ok_sum_at {P : Program} {w0 : World} {K : PySem.W.Frag} {mg : Str → Option Value} {base : Heap} {f : Addr} {fd : FuncData} {cc : Cz} (T : Tz K mg cc) (FU : Fun K "_law_sum_at" "_law_sum_at" s_sum_at f fd) (hm : mg "_law_sum_at" = some (.ref f)) (hb : Binds K fd ["_law_rows_here", "_law_places"] []) : Fn P w0 K mg base CX0 1 "_law_sum_at" ["_law_rows_here", "_law_places"] (sp_sum_at K cc) := by
  refine ⟨f, fd, FU.ok sc_sum_at (fun vs H Q E h => ?_) (fun cdv A outer s H0 vs Q E hr h => ?_), hm, FU.kp, hb⟩
  · obtain ⟨_, _, _, _, _, _, rfl, _⟩ := h; rfl
  · obtain ⟨F0, v1, rows_here1, v2, places1, R, rfl, wf, r1, r2, hW, hQ⟩ := h
    have nd := sc_sum_at.nd
    refine ⟨(tSeq (tAsg (tC (.int 0)) (gName 2)) (tSeq (tFor (iList K (tVar 1)) (gName 3) (tAsg (tOp kXor (tVar 2) (tOp (L2.rIxL K) (tVar 0) (tVar 3))) (gName 2))) (tRet (tVar 2)))), (pss_cons (ps_set (i := 2) nd rfl (Or.inl rfl) pe_int) (pss_cons (ps_for PassesOwn.never rfl (pi_list (pv 1)) (pg_name (i := 3) nd rfl (Or.inl rfl)) (pss_one (ps_set (i := 2) nd rfl (Or.inl rfl) (pe_op op_xor (pv 2) (pe_ix ix_list (pv 0) (pv 3) (fun _ _ => rfl)))))) (pss_one (ps_ret (pv 2))))), ?_⟩
    have w := Wf.id wf
    refine q_sq fun N1 hN1 => ?_
    refine a_asg (v := (.int ((0 : Nat) : Int))) val_c ?_
    refine hN1 _ _ ?_
    refine q_sq fun N2 hN2 => ?_
    refine f_LE ?_
    refine e_val (v := v2) (val_var rfl) ?_
    refine w_forL (S := Nat) (fun found1 σ' F' H' => ∃ (o1 : Option V), Wf F0 H0 F' H' ∧ Ex F0 F' ∧ σ' = [some v1, some v2, some (.int ((found1 : Nat) : Int)), o1]) r2 hW ⟨_, w, Ex.rfl', rfl⟩ (fun s σ' F' H' hI => by obtain ⟨_, w', gx', _⟩ := hI; exact ⟨gx', w'.f⟩) w.f ?_ ?_
    · intro N3 Bk1 place1 u1 found1 σ' F1 H1 nx1 bk1 hI1 hx1 ru1 hW hN3 hB1
      obtain ⟨o1, w, gx1, rfl⟩ := hI1
      have r1 := Rep.mono _ gx1 r1
      have r2 := Rep.mono _ gx1 r2
      obtain rfl : u1 = (.int ((place1 : Nat) : Int)) := ru1
      refine g_name ?_
      obtain ⟨x1, hx1_1, hW⟩ := hW
      obtain ⟨_, rfl, ix1⟩ := ix_L (K := K) r1 w.f hx1_1
      obtain ⟨found2, efound1⟩ : ∃ found2 : Nat, found2 = found1 ^^^ x1 := ⟨_, rfl⟩
      replace hW := hW found2 efound1
      refine a_asg (v := (.int ((found2 : Nat) : Int))) (v_eq (vn_xor (val_var rfl) (ix1 (val_var rfl) (val_var rfl))) (by rw [efound1])) ?_
      exact hN3 found2 _ _ _ ⟨_, w, gx1, rfl⟩ hW
    · intro found1 σ' F2 H2 hI2 hW
      obtain ⟨o1, w, gx2, rfl⟩ := hI2
      have r1 := Rep.mono _ gx2 r1
      have r2 := Rep.mono _ gx2 r2
      refine hN2 _ _ ?_
      refine a_ret (v := (.int ((found1 : Nat) : Int))) (val_var rfl) ?_
      exact hQ _ hW _ _ w
abbrev s_sums : Stmt := topS 17
/-! _law_sums -/
def W_sums (smalls1 : List Nat) (R : (List (Nat × Bool)) → Prop) : Prop := forW smalls1 [(0, true)] (fun small1 sums_here1 nx1 bk1 => if ¬ (hasT sums_here1 small1 = true) then (forW (sums_here1.map (·.1)) sums_here1 (fun one1 sums_here2 nx2 bk2 => (sums_here2.length < 1000000) ∧ nx2 (putT sums_here2 (one1 ^^^ small1) true)) fun sums_here2 => nx1 sums_here2) else (nx1 sums_here1)) fun sums_here1 => R sums_here1
def sp_sums (K : PySem.W.Frag) (cc : Cz) : Sp := fun vs H Q _ => ∃ (F : Hp) (v1 : V) (smalls1 : List Nat) (R : (List (Nat × Bool)) → Prop), vs = [v1] ∧ Ex F H ∧ (pL pN).r F v1 smalls1 ∧ W_sums smalls1 R ∧ ∀ z, R z → ∀ p F' H', Wf F H F' H' → XD pB H F' H' p z → Q (.ref p) H'
abbrev N_sums : List Str := ["_law_smalls", "_law_sums_here", "_law_small", "_law_one"]
theorem sc_sums : FnScope N_sums ["_law_smalls"] (defScope s_sums) := ⟨rfl, rfl, rfl, by decide +kernel, rfl, by decide +kernel, by decide +kernel⟩
theorem ok_sums {P : Program} {w0 : World} {K : PySem.W.Frag} {mg : Str → Option Value} {base : Heap} {f : Addr} {fd : FuncData} {cc : Cz} (T : Tz K mg cc) (FU : Fun K "_law_sums" "_law_sums" s_sums f fd) (hm : mg "_law_sums" = some (.ref f)) (hb : Binds K fd ["_law_smalls"] []) (n_list : mg "list" = none) : Fn P w0 K mg base CX0 1 "_law_sums" ["_law_smalls"] (sp_sums K cc) := by
  refine ⟨f, fd, FU.ok sc_sums (fun vs H Q E h => ?_) (fun cdv A outer s H0 vs Q E hr h => ?_), hm, FU.kp, hb⟩
  · obtain ⟨_, _, _, _, rfl, _⟩ := h; rfl
  · obtain ⟨F0, v1, smalls1, R, rfl, wf, r1, hW, hQ⟩ := h
    have nd := sc_sums.nd
    refine ⟨(tSeq (tAsg (tDisp (((tC (.int 0)), (tC (.bl true))) :: [])) (gName 1)) (tSeq (tFor (iList K (tVar 0)) (gName 2) (tIfS (tB (tDNotIn (tVar 2) (tVar 1))) (tFor (iList K (tCB rListD (tCons (tVar 1) tNil))) (gName 3) (sDPut (tVar 1) (tOp kXor (tVar 3) (tVar 2)) (tC (.bl true)))) tNext)) (tRet (tVar 1)))), (pss_cons (ps_set (i := 1) nd rfl (Or.inl rfl) (pe_disp (pps_cons pe_int pe_bl pps_nil) (by rfl) (by rfl) (fun z => by cases z) (by decide))) (pss_cons (ps_for PassesOwn.never rfl (pi_list (pv 0)) (pg_name (i := 2) nd rfl (Or.inl rfl)) (pss_one (ps_if (pt_cmp (pc_dnotin (hu_of hr) (pv 2) (pv 1))) (pss_one (ps_for PassesOwn.never rfl (pi_list (pe_callTy (call_listD rfl) (by rfl) n_list PyProof.Rows.boot_list (pa_cons (pv 1) pa_nil))) (pg_name (i := 3) nd rfl (Or.inl rfl)) (pss_one (ps_dput (hu_of hr) (pv 1) (pe_op op_xor (pv 3) (pv 2)) pe_bl rfl)))) pss_nil))) (pss_one (ps_ret (pv 1))))), ?_⟩
    have w := Wf.id wf
    refine q_sq fun N1 hN1 => ?_
    refine a_asgE ?_
    refine n_disp1 (κ := Nat) (e := pB) (j := 0) (x := true) (v := (.bl (true))) (fun _ => val_c) (fun _ => val_c) rfl w ?_
    intro p1 H1 hp1 s1 x1
    replace r1 := Rep.mono _ s1.g r1
    replace w := w.tr s1
    refine hN1 _ _ ?_
    refine q_sq fun N2 hN2 => ?_
    refine f_LE ?_
    refine e_val (v := v1) (val_var rfl) ?_
    refine w_forL (S := List (Nat × Bool)) (fun sums_here1 σ' F' H' => ∃ (o1 : Option V) (o2 : Option V), Wf F0 H0 F' H' ∧ Ex F0 F' ∧ σ' = [some v1, some ((.ref p1)), o1, o2] ∧ XD pB H0 F' H' p1 sums_here1) r1 hW ⟨_, _, w, Ex.rfl', rfl, x1⟩ (fun s σ' F' H' hI => by obtain ⟨_, _, w', gx', _⟩ := hI; exact ⟨gx', w'.f⟩) w.f ?_ ?_
    · intro N3 Bk1 small1 u1 sums_here1 σ' F1 H2 nx1 bk1 hI1 hx1 ru1 hW hN3 hB1
      obtain ⟨o1, o2, w, gx1, rfl, x2⟩ := hI1
      have r1 := Rep.mono _ gx1 r1
      obtain rfl : u1 = (.int ((small1 : Nat) : Int)) := ru1
      refine g_name ?_
      refine a_ifE ?_
      refine e_ans (b := decide (¬ (hasT sums_here1 small1 = true))) (t_ofB (vb_of (nin_XD (j := small1) x2 (val_var rfl) (val_var rfl)) dec_nt)) ?_
      refine b_if (fun hc1 => ?_) (fun hc1 => ?_)
      · have hW := ifP hW hc1
        refine f_LE ?_
        refine e_cb ?_
        refine a_val (v := (.ref p1)) (val_var rfl) ?_
        refine a_nil ?_
        refine n_listXD keyN x2 w ?_
        intro p2 H3 hp2 s3 x3
        have ne1 := x2.ne hp2
        replace r1 := Rep.mono _ s3.g r1
        replace x2 := x2.step s3
        replace w := w.tr s3
        replace gx1 := Ex.tr gx1 s3.g
        obtain ⟨F2, w1, g1, r2, fz1⟩ := x3.frzE w
        replace r1 := Rep.mono _ g1 r1
        replace x2 := x2.frzO fz1 ne1 g1
        replace w := w1
        replace gx1 := Ex.tr gx1 g1
        refine w_forL (S := List (Nat × Bool)) (fun sums_here2 σ' F' H' => ∃ (o3 : Option V), Wf F0 H0 F' H' ∧ Ex F2 F' ∧ σ' = [some v1, some ((.ref p1)), some (.int ((small1 : Nat) : Int)), o3] ∧ XD pB H0 F' H' p1 sums_here2) r2 hW ⟨_, w, Ex.rfl', rfl, x2⟩ (fun s σ' F' H' hI => by obtain ⟨_, w', gx', _⟩ := hI; exact ⟨gx', w'.f⟩) w.f ?_ ?_
        · intro N4 Bk2 one1 u2 sums_here2 σ' F3 H4 nx2 bk2 hI2 hx2 ru2 hW hN4 hB2
          obtain ⟨o3, w, gx2, rfl, x4⟩ := hI2
          have r1 := Rep.mono _ gx2 r1
          have r2 := Rep.mono _ gx2 r2
          have gx1 := Ex.tr gx1 gx2
          obtain rfl : u2 = (.int ((one1 : Nat) : Int)) := ru2
          refine g_name ?_
          refine e_dput ?_
          refine e_val (v := (.bl (true))) val_c ?_
          obtain ⟨c1, hW⟩ := hW
          refine d_put (j := one1 ^^^ small1) x4 w c1 rfl (val_var rfl) (vn_xor (val_var rfl) (val_var rfl)) (fun H5 w2 x5 kp1 => ?_)
          replace w := w2
          exact hN4 (putT sums_here2 (one1 ^^^ small1) true) _ _ _ ⟨_, w, gx2, rfl, x5⟩ hW
        · intro sums_here2 σ' F4 H6 hI3 hW
          obtain ⟨o3, w, gx3, rfl, x4⟩ := hI3
          have r1 := Rep.mono _ gx3 r1
          have r2 := Rep.mono _ gx3 r2
          have gx1 := Ex.tr gx1 gx3
          exact hN3 sums_here2 _ _ _ ⟨_, _, w, gx1, rfl, x4⟩ hW
      · have hW := ifN hW hc1
        exact hN3 sums_here1 _ _ _ ⟨_, _, w, gx1, rfl, x2⟩ hW
    · intro sums_here1 σ' F5 H7 hI4 hW
      obtain ⟨o1, o2, w, gx4, rfl, x2⟩ := hI4
      have r1 := Rep.mono _ gx4 r1
      refine hN2 _ _ ?_
      refine a_ret (v := (.ref p1)) (val_var rfl) ?_
      exact hQ _ hW _ _ _ w x2
abbrev s_barred : Stmt := topS 18
/-! _law_barred -/
def W_barred (rows_here1 : List Nat) (wish1 : Nat) (told1 : Str × (Sum (List Nat) (Nat))) (R : Bool → Prop) : Prop := jn (fun kk => if told1.1 ≠ (PySem.Str.ofString "no") then (kk true) else (∃ y1 : Nat, told1.2 = Sum.inr y1 ∧ W_odd (y1 &&& wish1) fun z1 => kk (!z1))) fun b1 => if b1 = true then (R false) else (forW rows_here1 () (fun row_here1 _ nx1 bk1 => ∃ y2 : Nat, told1.2 = Sum.inr y2 ∧ W_odd (y2 &&& row_here1) fun z2 => if z2 = true then (R false) else (nx1 ())) fun _ => W_across rows_here1 300 fun z3 => ∃ y3 : Nat, told1.2 = Sum.inr y3 ∧ W_sum_for z3 y3 fun z4 => R (decide (z4.1 = (PySem.Str.ofString "sum"))))
def sp_barred (K : PySem.W.Frag) (cc : Cz) : Sp := fun vs H Q _ => ∃ (F : Hp) (v1 : V) (rows_here1 : List Nat) (wish1 : Nat) (v2 : V) (told1 : Str × (Sum (List Nat) (Nat))) (R : Bool → Prop), vs = [v1, (.int ((wish1 : Nat) : Int)), v2] ∧ Ex F H ∧ (pL pN).r F v1 rows_here1 ∧ (pT2 pS (pAlt (pL pN) pN)).r F v2 told1 ∧ W_barred rows_here1 wish1 told1 R ∧ ∀ z, R z → ∀ F' H', Wf F H F' H' → Q (.bl (z)) H'
abbrev N_barred : List Str := ["_law_rows_here", "_law_wish", "_law_told", "_law_row_here"]
theorem sc_barred : FnScope N_barred ["_law_rows_here", "_law_wish", "_law_told"] (defScope s_barred) := ⟨rfl, rfl, rfl, by decide +kernel, rfl, by decide +kernel, by decide +kernel⟩
theorem ok_barred {P : Program} {w0 : World} {K : PySem.W.Frag} {mg : Str → Option Value} {base : Heap} {f : Addr} {fd : FuncData} {cc : Cz} (T : Tz K mg cc) (FU : Fun K "_law_barred" "_law_barred" s_barred f fd) (hm : mg "_law_barred" = some (.ref f)) (hb : Binds K fd ["_law_rows_here", "_law_wish", "_law_told"] []) (c_odd : Fn P w0 K mg base CX0 1 "_law_odd" ["_law_mask"] (sp_odd K cc)) (c_across : Fn P w0 K mg base CX0 4 "across" ["rows", "width"] (sp_across K cc)) (c_sum_for : Fn P w0 K mg base CX0 4 "sum_for" ["rows", "wish"] (sp_sum_for K cc)) : Fn P w0 K mg base CX0 5 "_law_barred" ["_law_rows_here", "_law_wish", "_law_told"] (sp_barred K cc) := by
  refine ⟨f, fd, FU.ok sc_barred (fun vs H Q E h => ?_) (fun cdv A outer s H0 vs Q E hr h => ?_), hm, FU.kp, hb⟩
  · obtain ⟨_, _, _, _, _, _, _, rfl, _⟩ := h; rfl
  · obtain ⟨F0, v1, rows_here1, wish1, v2, told1, R, rfl, wf, r1, r2, hW, hQ⟩ := h
    have nd := sc_barred.nd
    refine ⟨(tSeq (tIfS (tOr (tTest (tOp L2.rNe (tOp (L2.rIxT K) (tVar 2) (tC (.int 0))) (tC (.str (PySem.Str.ofString "no"))))) (tNot (tB (tCall (sp_odd K cc) [] E0 (tCons (tOp kAnd (tOp (L2.rIxT K) (tVar 2) (tC (.int 1))) (tVar 1)) tNil))))) (tRet (tC (.bl false))) tNext) (tSeq (tFor (iList K (tVar 0)) (gName 3) (tIfS (tB (tCall (sp_odd K cc) [] E0 (tCons (tOp kAnd (tOp (L2.rIxT K) (tVar 2) (tC (.int 1))) (tVar 3)) tNil))) (tRet (tC (.bl false))) tNext)) (tRet (tOp L2.rEq (tOp (L2.rIxT K) (tCall (sp_sum_for K cc) [] E0 (tCons (tCall (sp_across K cc) [] E0 (tCons (tVar 0) (tCons (tC (.int 300)) tNil))) (tCons (tOp (L2.rIxT K) (tVar 2) (tC (.int 1))) tNil))) (tC (.int 0))) (tC (.str (PySem.Str.ofString "sum"))))))), (pss_cons (ps_if (PW.pt (pw_or (pt_cmpR op_ne (pe_ix ix_tup (pv 2) pe_int (fun _ _ => rfl)) pe_str (nomark _)) (pw_or1 (pt_not (pt_val (pe_fn c_odd (hr.mono (by decide)) rfl (pa_cons (pe_op op_and (pe_ix ix_tup (pv 2) pe_int (fun _ _ => rfl)) (pv 1)) pa_nil))))))) (pss_one (ps_ret pe_bl)) pss_nil) (pss_cons (ps_for PassesOwn.never rfl (pi_list (pv 0)) (pg_name (i := 3) nd rfl (Or.inl rfl)) (pss_one (ps_if (pt_val (pe_fn c_odd (hr.mono (by decide)) rfl (pa_cons (pe_op op_and (pe_ix ix_tup (pv 2) pe_int (fun _ _ => rfl)) (pv 3)) pa_nil))) (pss_one (ps_ret pe_bl)) pss_nil))) (pss_one (ps_ret (pe_cmpR op_eq (pe_ix ix_tup (pe_fn c_sum_for (hr.mono (by decide)) rfl (pa_cons (pe_fn c_across (hr.mono (by decide)) rfl (pa_cons (pv 0) (pa_cons pe_int pa_nil))) (pa_cons (pe_ix ix_tup (pv 2) pe_int (fun _ _ => rfl)) pa_nil))) pe_int (fun _ _ => rfl)) pe_str (nomark _)))))), ?_⟩
    have w := Wf.id wf
    refine q_sq fun N1 hN1 => ?_
    refine a_ifE ?_
    refine e_jnT hW (fun b F' H' => b = b ∧ Wf F0 H0 F' H' ∧ Ex F0 F') ?_ ?_
    · intro N2 hN2 hW
      have gx1 : Ex F0 F0 := Ex.rfl'
      refine e_tOr ?_
      obtain ⟨_, rfl, ix1⟩ := ix_2a (K := K) r2 w.f
      refine e_ans (b := decide (told1.1 ≠ (PySem.Str.ofString "no"))) (t_of (c_neS (ix1 (val_var rfl) val_c) val_c)) ?_
      refine b_if (fun hc1 => ?_) (fun hc1 => ?_)
      · have hW := ifP hW hc1
        exact hN2 true _ _ ⟨rfl, w, gx1⟩ hW
      · have hW := ifN hW hc1
        refine e_tNot ?_
        refine e_tB ?_
        refine e_call ?_
        obtain ⟨v4, r4, ix2⟩ := ix_2b (K := K) r2 w.f
        obtain ⟨y1, hy1, hW⟩ := hW
        have hv1 := alt_n r4 hy1
        refine a_val (v := (.int ((y1 &&& wish1 : Nat) : Int))) (vn_and (v_eq (ix2 (val_var rfl) val_c) hv1) (val_var rfl)) ?_
        refine a_nil ?_
        refine ⟨F0, (y1 &&& wish1), _, rfl, w.f, hW, ?_⟩
        intro z1 hW F1 H1 s1
        replace r1 := Rep.mono _ s1.g r1
        replace r2 := Rep.mono _ s1.g r2
        replace r4 := Rep.mono _ s1.g r4
        replace w := w.tr s1
        replace gx1 := Ex.tr gx1 s1.g
        refine bl_v ?_
        exact hN2 (!z1) _ _ ⟨rfl, w, gx1⟩ hW
    intro b1 F2 H2 hI1 hW
    obtain ⟨_, w, gx2⟩ := hI1
    have r1 := Rep.mono _ gx2 r1
    have r2 := Rep.mono _ gx2 r2
    refine bb_if (fun hc2 => ?_) (fun hc2 => ?_)
    · have hW := ifP hW hc2
      refine a_ret (v := (.bl (false))) val_c ?_
      exact hQ _ hW _ _ w
    · have hW := ifN hW hc2
      refine hN1 _ _ ?_
      refine q_sq fun N3 hN3 => ?_
      refine f_LE ?_
      refine e_val (v := v1) (val_var rfl) ?_
      refine w_forL (S := Unit) (fun _ σ' F' H' => ∃ (o1 : Option V), Wf F0 H0 F' H' ∧ Ex F2 F' ∧ σ' = [some v1, some (.int ((wish1 : Nat) : Int)), some v2, o1]) r1 hW ⟨_, w, Ex.rfl', rfl⟩ (fun s σ' F' H' hI => by obtain ⟨_, w', gx', _⟩ := hI; exact ⟨gx', w'.f⟩) w.f ?_ ?_
      · intro N4 Bk1 row_here1 u1 s2 σ' F3 H3 nx1 bk1 hI2 hx1 ru1 hW hN4 hB1
        obtain ⟨o1, w, gx3, rfl⟩ := hI2
        have r1 := Rep.mono _ gx3 r1
        have r2 := Rep.mono _ gx3 r2
        obtain rfl : u1 = (.int ((row_here1 : Nat) : Int)) := ru1
        refine g_name ?_
        refine a_ifE ?_
        refine e_tB ?_
        refine e_call ?_
        obtain ⟨v5, r5, ix3⟩ := ix_2b (K := K) r2 w.f
        obtain ⟨y2, hy2, hW⟩ := hW
        have hv2 := alt_n r5 hy2
        refine a_val (v := (.int ((y2 &&& row_here1 : Nat) : Int))) (vn_and (v_eq (ix3 (val_var rfl) val_c) hv2) (val_var rfl)) ?_
        refine a_nil ?_
        refine ⟨F3, (y2 &&& row_here1), _, rfl, w.f, hW, ?_⟩
        intro z2 hW F4 H4 s3
        replace r1 := Rep.mono _ s3.g r1
        replace r2 := Rep.mono _ s3.g r2
        replace r5 := Rep.mono _ s3.g r5
        replace w := w.tr s3
        replace gx3 := Ex.tr gx3 s3.g
        refine bl_v ?_
        refine bb_if (fun hc3 => ?_) (fun hc3 => ?_)
        · have hW := ifP hW hc3
          refine a_ret (v := (.bl (false))) val_c ?_
          exact hQ _ hW _ _ w
        · have hW := ifN hW hc3
          exact hN4 () _ _ _ ⟨_, w, gx3, rfl⟩ hW
      · intro s4 σ' F5 H5 hI3 hW
        obtain ⟨o1, w, gx4, rfl⟩ := hI3
        have r1 := Rep.mono _ gx4 r1
        have r2 := Rep.mono _ gx4 r2
        refine hN3 _ _ ?_
        refine a_retE ?_
        refine e_op ?_
        refine e_op ?_
        refine e_call ?_
        refine a_cons ?_
        refine e_call ?_
        refine a_val (v := v1) (val_var rfl) ?_
        refine a_val (v := (.int ((300 : Nat) : Int))) val_c ?_
        refine a_nil ?_
        refine ⟨F5, (v1), (rows_here1), (300), _, rfl, w.f, r1, hW, ?_⟩
        intro z3 hW p1 F6 H6 s5 x1
        replace x1 := x1.base w
        replace r1 := Rep.mono _ s5.g r1
        replace r2 := Rep.mono _ s5.g r2
        replace w := w.tr s5
        replace gx4 := Ex.tr gx4 s5.g
        obtain ⟨v6, r6, ix4⟩ := ix_2b (K := K) r2 w.f
        obtain ⟨y3, hy3, hW⟩ := hW
        have hv3 := alt_n r6 hy3
        refine a_val (v := (.int ((y3 : Nat) : Int))) (v_eq (ix4 (val_var rfl) val_c) hv3) ?_
        refine a_nil ?_
        obtain ⟨F7, w1, g1, r7, fz1⟩ := x1.frzE w
        replace r1 := Rep.mono _ g1 r1
        replace r2 := Rep.mono _ g1 r2
        replace r6 := Rep.mono _ g1 r6
        replace w := w1
        replace gx4 := Ex.tr gx4 g1
        refine ⟨F7, ((.ref p1)), (z3), (y3), _, rfl, w.f, r7, hW, ?_⟩
        intro z4 hW v7 F8 H7 s6 r8
        replace r1 := Rep.mono _ s6.g r1
        replace r2 := Rep.mono _ s6.g r2
        replace r7 := Rep.mono _ s6.g r7
        replace r6 := Rep.mono _ s6.g r6
        replace w := w.tr s6
        replace gx4 := Ex.tr gx4 s6.g
        refine e_val (v := (.int ((0 : Nat) : Int))) val_c ?_
        obtain ⟨_, rfl, ix5⟩ := ix_2a (K := K) r8 w.f
        refine rv2 (z := (.str (z4.1))) (ix5 val_c val_c) ?_
        refine e_val (v := (.str ((PySem.Str.ofString "sum")))) val_c ?_
        refine rv2 (z := .bl (decide (z4.1 = (PySem.Str.ofString "sum")))) (c_eqS val_c val_c) ?_
        exact hQ _ hW _ _ w
abbrev s_law : Stmt := topS 19
/-! law -/
def W_law (script1 : List Int) (R : Bool → Prop) : Prop := W_cell script1 0 fun z1 => ∀ width1 : Nat, width1 = 1 + (modN (z1 / ((2 : Nat) : Int)) 6) → W_rows script1 0 60 width1 fun z2 => W_sums z2.1 fun z3 => W_rank z2.2.1 fun z4 => (z4 < 100000000) ∧ if (2 ^ z4) ≠ z3.length then (R false) else ((width1 < 100000000) ∧ (2 ^ width1 < 1000000) ∧ forW (List.range (2 ^ width1)) 0 (fun small1 barred_here1 nx1 bk1 => (width1 < 1000000) ∧ forW (List.range width1) 0 (fun k1 wish1 nx2 bk2 => if ((small1 >>> k1) &&& 1) = 1 then (∃ x2, z2.2.2[k1]? = some x2 ∧ ∀ wish2 : Nat, wish2 = wish1 ^^^ x2 → nx2 wish2) else (nx2 wish1)) fun wish1 => W_sum_for z2.2.1 wish1 fun z5 => if hasT z3 small1 = true then (jn (fun kk => if z5.1 ≠ (PySem.Str.ofString "sum") then (kk true) else (∃ y1, z5.2 = Sum.inl y1 ∧ W_are_places y1 z2.2.1.length fun z6 => if z6 = true then (∃ y2, z5.2 = Sum.inl y2 ∧ W_sum_at z2.2.1 y2 fun z7 => kk (decide (z7 ≠ wish1))) else (kk true))) fun b1 => if b1 = true then (R false) else (nx1 barred_here1)) else (if barred_here1 < 2 then (∀ barred_here2 : Nat, barred_here2 = barred_here1 + 1 → W_barred z2.2.1 wish1 z5 fun z8 => if z8 = true then (nx1 barred_here2) else (R false)) else (if z5.1 ≠ (PySem.Str.ofString "no") then (R false) else (nx1 barred_here1)))) fun barred_here1 => R true)
def sp_law (K : PySem.W.Frag) (cc : Cz) : Sp := fun vs H Q _ => ∃ (F : Hp) (v1 : V) (script1 : List Int) (R : Bool → Prop), vs = [v1] ∧ Ex F H ∧ (pScr K).r F v1 script1 ∧ W_law script1 R ∧ ∀ z, R z → ∀ F' H', Wf F H F' H' → Q (.bl (z)) H'
abbrev N_law : List Str := ["_law_script", "_law_width", "_law_smalls", "_law_rows_here", "_law_wide_here", "_law_sums_here", "_law_barred_here", "_law_small", "_law_wish", "_law_k", "_law_told"]
theorem sc_law : FnScope N_law ["_law_script"] (defScope s_law) := ⟨rfl, rfl, rfl, by decide +kernel, rfl, by decide +kernel, by decide +kernel⟩
theorem ok_law {P : Program} {w0 : World} {K : PySem.W.Frag} {mg : Str → Option Value} {base : Heap} {f : Addr} {fd : FuncData} {cc : Cz} (T : Tz K mg cc) (FU : Fun K "law" "law" s_law f fd) (c_cell : Fn P w0 K mg base CX0 1 "_law_cell" ["_law_script", "_law_k"] (sp_cell K cc)) (c_rows : Fn P w0 K mg base CX0 3 "_law_rows" ["_law_script", "_law_start", "_law_most", "_law_width"] (sp_rows K cc)) (c_sums : Fn P w0 K mg base CX0 1 "_law_sums" ["_law_smalls"] (sp_sums K cc)) (c_rank : Fn P w0 K mg base CX0 4 "rank" ["rows"] (sp_rank K cc)) (c_sum_for : Fn P w0 K mg base CX0 4 "sum_for" ["rows", "wish"] (sp_sum_for K cc)) (c_are_places : Fn P w0 K mg base CX0 1 "_law_are_places" ["_law_found", "_law_many"] (sp_are_places K cc)) (c_sum_at : Fn P w0 K mg base CX0 1 "_law_sum_at" ["_law_rows_here", "_law_places"] (sp_sum_at K cc)) (c_barred : Fn P w0 K mg base CX0 5 "_law_barred" ["_law_rows_here", "_law_wish", "_law_told"] (sp_barred K cc)) (n_len : mg "len" = none) (n_range : mg "range" = none) : FnOk P w0 K mg base CX0 6 f fd ["_law_script"] (sp_law K cc) := by
  refine FU.ok sc_law (fun vs H Q E h => ?_) (fun cdv A outer s H0 vs Q E hr h => ?_)
  · obtain ⟨_, _, _, _, rfl, _⟩ := h; rfl
  · obtain ⟨F0, v1, script1, R, rfl, wf, r1, hW, hQ⟩ := h
    have nd := sc_law.nd
    refine ⟨(tSeq (tAsg (tOp kAdd (tC (.int 1)) (tOp kMod (tOp kDiv (tCall (sp_cell K cc) [] E0 (tCons (tVar 0) (tCons (tC (.int 0)) tNil))) (tC (.int 2))) (tC (.int 6)))) (gName 1)) (tSeq (tAsg (tCall (sp_rows K cc) [] E0 (tCons (tVar 0) (tCons (tC (.int 0)) (tCons (tC (.int 60)) (tCons (tVar 1) tNil))))) (gTup K 3 (gCons (gName 2) (gCons (gName 3) (gCons (gName 4) gNil))))) (tSeq (tAsg (tCall (sp_sums K cc) [] E0 (tCons (tVar 2) tNil)) (gName 5)) (tSeq (tIfS (tTest (tOp L2.rNe (tOp kShl (tC (.int 1)) (tCall (sp_rank K cc) [] E0 (tCons (tVar 3) tNil))) (tCB rLenD (tCons (tVar 5) tNil)))) (tRet (tC (.bl false))) tNext) (tSeq (tAsg (tC (.int 0)) (gName 6)) (tSeq (tFor (iRng1 (tCons (tOp kShl (tC (.int 1)) (tVar 1)) tNil)) (gName 7) (tSeq (tAsg (tC (.int 0)) (gName 8)) (tSeq (tFor (iRng1 (tCons (tVar 1) tNil)) (gName 9) (tIfS (tTest (tOp L2.rEq (tOp kAnd (tOp kShr (tVar 7) (tVar 9)) (tC (.int 1))) (tC (.int 1)))) (tAsg (tOp kXor (tVar 8) (tOp (L2.rIxL K) (tVar 4) (tVar 9))) (gName 8)) tNext)) (tSeq (tAsg (tCall (sp_sum_for K cc) [] E0 (tCons (tVar 3) (tCons (tVar 8) tNil))) (gName 10)) (tIfS (tB (tDIn (tVar 7) (tVar 5))) (tIfS (tOr (tTest (tOp L2.rNe (tOp (L2.rIxT K) (tVar 10) (tC (.int 0))) (tC (.str (PySem.Str.ofString "sum"))))) (tOr (tNot (tB (tCall (sp_are_places K cc) [] E0 (tCons (tOp (L2.rIxT K) (tVar 10) (tC (.int 1))) (tCons (tCB (Wk.rLen K) (tCons (tVar 3) tNil)) tNil))))) (tTest (tOp L2.rNe (tCall (sp_sum_at K cc) [] E0 (tCons (tVar 3) (tCons (tOp (L2.rIxT K) (tVar 10) (tC (.int 1))) tNil))) (tVar 8))))) (tRet (tC (.bl false))) tNext) (tIfS (tTest (tOp kLt (tVar 6) (tC (.int 2)))) (tSeq (tAsg (tOp kAdd (tVar 6) (tC (.int 1))) (gName 6)) (tIfS (tNot (tB (tCall (sp_barred K cc) [] E0 (tCons (tVar 3) (tCons (tVar 8) (tCons (tVar 10) tNil)))))) (tRet (tC (.bl false))) tNext)) (tIfS (tTest (tOp L2.rNe (tOp (L2.rIxT K) (tVar 10) (tC (.int 0))) (tC (.str (PySem.Str.ofString "no"))))) (tRet (tC (.bl false))) tNext))))))) (tRet (tC (.bl true))))))))), (pss_cons (ps_set (i := 1) nd rfl (Or.inl rfl) (pe_op op_add pe_int (pe_op op_mod (pe_op op_fdivW (pe_fn c_cell (hr.mono (by decide)) rfl (pa_cons (pv 0) (pa_cons pe_int pa_nil))) pe_int) pe_int))) (pss_cons (ps_asg (pe_fn c_rows (hr.mono (by decide)) rfl (pa_cons (pv 0) (pa_cons pe_int (pa_cons pe_int (pa_cons (pv 1) pa_nil))))) (pg_tup rfl (pgs_cons (pg_name (i := 2) nd rfl (Or.inl rfl)) (pgs_cons (pg_name (i := 3) nd rfl (Or.inl rfl)) (pgs_cons (pg_name (i := 4) nd rfl (Or.inl rfl)) pgs_nil))) (by rfl))) (pss_cons (ps_set (i := 5) nd rfl (Or.inl rfl) (pe_fn c_sums (hr.mono (by decide)) rfl (pa_cons (pv 2) pa_nil))) (pss_cons (ps_if (pt_cmpR op_ne (pe_op op_shlW pe_int (pe_fn c_rank (hr.mono (by decide)) rfl (pa_cons (pv 3) pa_nil))) (pe_callB call_lenD (by rfl) n_len PySem.boot_len (pa_cons (pv 5) pa_nil)) (nomark _)) (pss_one (ps_ret pe_bl)) pss_nil) (pss_cons (ps_set (i := 6) nd rfl (Or.inl rfl) pe_int) (pss_cons (ps_for PassesOwn.never rfl (pi_range1 rfl n_range (pa_cons (pe_op op_shlW pe_int (pv 1)) pa_nil)) (pg_name (i := 7) nd rfl (Or.inl rfl)) (pss_cons (ps_set (i := 8) nd rfl (Or.inl rfl) pe_int) (pss_cons (ps_for PassesOwn.never rfl (pi_range1 rfl n_range (pa_cons (pv 1) pa_nil)) (pg_name (i := 9) nd rfl (Or.inl rfl)) (pss_one (ps_if (pt_cmpR op_eq (pe_op op_and (pe_op op_shr (pv 7) (pv 9)) pe_int) pe_int (nomark _)) (pss_one (ps_set (i := 8) nd rfl (Or.inl rfl) (pe_op op_xor (pv 8) (pe_ix ix_list (pv 4) (pv 9) (fun _ _ => rfl))))) pss_nil))) (pss_cons (ps_set (i := 10) nd rfl (Or.inl rfl) (pe_fn c_sum_for (hr.mono (by decide)) rfl (pa_cons (pv 3) (pa_cons (pv 8) pa_nil)))) (pss_one (ps_if (pt_cmp (pc_din (hu_of hr) (pv 7) (pv 5))) (pss_one (ps_if (PW.pt (pw_or (pt_cmpR op_ne (pe_ix ix_tup (pv 10) pe_int (fun _ _ => rfl)) pe_str (nomark _)) (pw_or (pt_not (pt_val (pe_fn c_are_places (hr.mono (by decide)) rfl (pa_cons (pe_ix ix_tup (pv 10) pe_int (fun _ _ => rfl)) (pa_cons (pe_callB call_len_seq (by rfl) n_len PySem.boot_len (pa_cons (pv 3) pa_nil)) pa_nil))))) (pw_or1 (pt_cmpR op_ne (pe_fn c_sum_at (hr.mono (by decide)) rfl (pa_cons (pv 3) (pa_cons (pe_ix ix_tup (pv 10) pe_int (fun _ _ => rfl)) pa_nil))) (pv 8) (nomark _)))))) (pss_one (ps_ret pe_bl)) pss_nil)) (pss_one (ps_if (pt_cmpR op_lt (pv 6) pe_int (nomark _)) (pss_cons (ps_set (i := 6) nd rfl (Or.inl rfl) (pe_op op_add (pv 6) pe_int)) (pss_one (ps_if (pt_not (pt_val (pe_fn c_barred (hr.mono (by decide)) rfl (pa_cons (pv 3) (pa_cons (pv 8) (pa_cons (pv 10) pa_nil)))))) (pss_one (ps_ret pe_bl)) pss_nil))) (pss_one (ps_if (pt_cmpR op_ne (pe_ix ix_tup (pv 10) pe_int (fun _ _ => rfl)) pe_str (nomark _)) (pss_one (ps_ret pe_bl)) pss_nil)))))))))) (pss_one (ps_ret pe_bl)))))))), ?_⟩
    have w := Wf.id wf
    refine q_sq fun N1 hN1 => ?_
    refine a_asgE ?_
    refine e_op ?_
    refine e_val (v := (.int ((1 : Nat) : Int))) val_c ?_
    refine e_op ?_
    refine e_op ?_
    refine e_call ?_
    refine a_val (v := v1) (val_var rfl) ?_
    refine a_val (v := (.int ((0 : Nat) : Int))) val_c ?_
    refine a_nil ?_
    refine ⟨F0, (v1), (script1), (0), _, rfl, w.f, r1, hW, ?_⟩
    intro z1 hW F1 H1 s1
    replace r1 := Rep.mono _ s1.g r1
    replace w := w.tr s1
    refine e_val (v := (.int ((2 : Nat) : Int))) val_c ?_
    refine rv2 (z := (.int (z1 / ((2 : Nat) : Int)))) (vi_div val_c val_c ⟨by decide, by decide +kernel⟩) ?_
    refine e_val (v := (.int ((6 : Nat) : Int))) val_c ?_
    refine rv2 (z := (.int ((modN (z1 / ((2 : Nat) : Int)) 6 : Nat) : Int))) (vm_mod val_c val_c (by decide)) ?_
    refine rv2 (z := (.int ((1 + (modN (z1 / ((2 : Nat) : Int)) 6) : Nat) : Int))) (vn_add val_c val_c) ?_
    obtain ⟨width1, ewidth1⟩ : ∃ width1 : Nat, width1 = 1 + (modN (z1 / ((2 : Nat) : Int)) 6) := ⟨_, rfl⟩
    replace hW := hW width1 ewidth1
    refine nx_set (v := (.int ((width1 : Nat) : Int))) (by rw [ewidth1]) ?_
    refine hN1 _ _ ?_
    refine q_sq fun N2 hN2 => ?_
    refine a_asgG ?_
    refine e_call ?_
    refine a_val (v := v1) (val_var rfl) ?_
    refine a_val (v := (.int ((0 : Nat) : Int))) val_c ?_
    refine a_val (v := (.int ((60 : Nat) : Int))) val_c ?_
    refine a_val (v := (.int ((width1 : Nat) : Int))) (val_var rfl) ?_
    refine a_nil ?_
    refine ⟨F1, (v1), (script1), (0), (60), (width1), _, rfl, w.f, r1, hW, ?_⟩
    intro z2 hW v2 F2 H2 s2 r2
    replace r1 := Rep.mono _ s2.g r1
    replace w := w.tr s2
    obtain ⟨p1, u1, u2, u3, rfl, h1, r3, r4, r5⟩ := r2
    refine ⟨p1, _, rfl, SqT.of (w.f _ _ h1), rfl, _, _, rfl, _, _, rfl, _, _, rfl, rfl, ?_⟩
    refine hN2 _ _ ?_
    refine q_sq fun N3 hN3 => ?_
    refine a_asgE ?_
    refine e_call ?_
    refine a_val (v := u1) (val_var rfl) ?_
    refine a_nil ?_
    refine ⟨F2, (u1), (z2.1), _, rfl, w.f, r3, hW, ?_⟩
    intro z3 hW p2 F3 H3 s3 x1
    replace x1 := x1.base w
    replace r1 := Rep.mono _ s3.g r1
    replace r3 := Rep.mono _ s3.g r3
    replace r4 := Rep.mono _ s3.g r4
    replace r5 := Rep.mono _ s3.g r5
    replace w := w.tr s3
    obtain ⟨F4, w1, g1, r6, fz1⟩ := x1.frzE w
    replace r1 := Rep.mono _ g1 r1
    replace r3 := Rep.mono _ g1 r3
    replace r4 := Rep.mono _ g1 r4
    replace r5 := Rep.mono _ g1 r5
    replace w := w1
    refine hN3 _ _ ?_
    refine q_sq fun N4 hN4 => ?_
    refine a_ifE ?_
    refine e_tT ?_
    refine e_op ?_
    refine e_op ?_
    refine e_val (v := (.int ((1 : Nat) : Int))) val_c ?_
    refine e_call ?_
    refine a_val (v := u2) (val_var rfl) ?_
    refine a_nil ?_
    refine ⟨F4, (u2), (z2.2.1), _, rfl, w.f, r4, hW, ?_⟩
    intro z4 hW F5 H4 s4
    replace r1 := Rep.mono _ s4.g r1
    replace r3 := Rep.mono _ s4.g r3
    replace r4 := Rep.mono _ s4.g r4
    replace r5 := Rep.mono _ s4.g r5
    replace r6 := Rep.mono _ s4.g r6
    replace w := w.tr s4
    obtain ⟨c1, hW⟩ := hW
    refine rv2 (z := (.int ((2 ^ z4 : Nat) : Int))) (vn_one val_c val_c c1) ?_
    refine e_val (v := (.int ((z3.length : Nat) : Int))) (len_D r6 w.f (val_var rfl)) ?_
    refine rv2T (b := decide ((2 ^ z4) ≠ z3.length)) (vb_dec (c_neI val_c val_c) n_ne) ?_
    refine b_if (fun hc1 => ?_) (fun hc1 => ?_)
    · have hW := ifP hW hc1
      refine a_ret (v := (.bl (false))) val_c ?_
      exact hQ _ hW _ _ w
    · have hW := ifN hW hc1
      refine hN4 _ _ ?_
      refine q_sq fun N5 hN5 => ?_
      refine a_asg (v := (.int ((0 : Nat) : Int))) val_c ?_
      refine hN5 _ _ ?_
      refine q_sq fun N6 hN6 => ?_
      refine f_RE ?_
      obtain ⟨c2, hW⟩ := hW
      refine e_val (v := (.int ((2 ^ width1 : Nat) : Int))) (vn_one val_c (val_var rfl) c2) ?_
      obtain ⟨c3, hW⟩ := hW
      refine w_forR (S := Nat) (fun barred_here1 σ' F' H' => ∃ (o1 : Option V) (o2 : Option V) (o3 : Option V) (o4 : Option V), Wf F0 H0 F' H' ∧ Ex F5 F' ∧ σ' = [some v1, some (.int ((width1 : Nat) : Int)), some u1, some u2, some u3, some (.ref p2), some (.int ((barred_here1 : Nat) : Int)), o1, o2, o3, o4]) c3 hW ⟨_, _, _, _, w, Ex.rfl', rfl⟩ ?_ ?_
      · intro N7 Bk1 small1 barred_here1 σ' F6 H5 nx1 bk1 hI1 hx1 hW hN7 hB1
        obtain ⟨o1, o2, o3, o4, w, gx1, rfl⟩ := hI1
        have r1 := Rep.mono _ gx1 r1
        have r3 := Rep.mono _ gx1 r3
        have r4 := Rep.mono _ gx1 r4
        have r5 := Rep.mono _ gx1 r5
        have r6 := Rep.mono _ gx1 r6
        refine g_name ?_
        refine q_sq fun N8 hN8 => ?_
        refine a_asg (v := (.int ((0 : Nat) : Int))) val_c ?_
        refine hN8 _ _ ?_
        refine q_sq fun N9 hN9 => ?_
        refine f_RE ?_
        refine e_val (v := (.int ((width1 : Nat) : Int))) (val_var rfl) ?_
        obtain ⟨c4, hW⟩ := hW
        refine w_forR (S := Nat) (fun wish1 σ' F' H' => ∃ (o5 : Option V), Wf F0 H0 F' H' ∧ Ex F6 F' ∧ σ' = [some v1, some (.int ((width1 : Nat) : Int)), some u1, some u2, some u3, some (.ref p2), some (.int ((barred_here1 : Nat) : Int)), some (.int ((small1 : Nat) : Int)), some (.int ((wish1 : Nat) : Int)), o5, o4]) c4 hW ⟨_, w, Ex.rfl', rfl⟩ ?_ ?_
        · intro N10 Bk2 k1 wish1 σ' F7 H6 nx2 bk2 hI2 hx2 hW hN10 hB2
          obtain ⟨o5, w, gx2, rfl⟩ := hI2
          have r1 := Rep.mono _ gx2 r1
          have r3 := Rep.mono _ gx2 r3
          have r4 := Rep.mono _ gx2 r4
          have r5 := Rep.mono _ gx2 r5
          have r6 := Rep.mono _ gx2 r6
          have gx1 := Ex.tr gx1 gx2
          refine g_name ?_
          refine a_ifE ?_
          refine e_ans (b := decide (((small1 >>> k1) &&& 1) = 1)) (t_of (vb_dec (c_eqI (vn_and (vn_shr (val_var rfl) (val_var rfl)) val_c) val_c) n_eq)) ?_
          refine b_if (fun hc2 => ?_) (fun hc2 => ?_)
          · have hW := ifP hW hc2
            obtain ⟨x2, hx2_1, hW⟩ := hW
            obtain ⟨_, rfl, ix1⟩ := ix_L (K := K) r5 w.f hx2_1
            obtain ⟨wish2, ewish1⟩ : ∃ wish2 : Nat, wish2 = wish1 ^^^ x2 := ⟨_, rfl⟩
            replace hW := hW wish2 ewish1
            refine a_asg (v := (.int ((wish2 : Nat) : Int))) (v_eq (vn_xor (val_var rfl) (ix1 (val_var rfl) (val_var rfl))) (by rw [ewish1])) ?_
            exact hN10 wish2 _ _ _ ⟨_, w, gx2, rfl⟩ hW
          · have hW := ifN hW hc2
            exact hN10 wish1 _ _ _ ⟨_, w, gx2, rfl⟩ hW
        · intro wish1 σ' F8 H7 hI3 hW
          obtain ⟨o5, w, gx3, rfl⟩ := hI3
          have r1 := Rep.mono _ gx3 r1
          have r3 := Rep.mono _ gx3 r3
          have r4 := Rep.mono _ gx3 r4
          have r5 := Rep.mono _ gx3 r5
          have r6 := Rep.mono _ gx3 r6
          have gx1 := Ex.tr gx1 gx3
          refine hN9 _ _ ?_
          refine q_sq fun N11 hN11 => ?_
          refine a_asgE ?_
          refine e_call ?_
          refine a_val (v := u2) (val_var rfl) ?_
          refine a_val (v := (.int ((wish1 : Nat) : Int))) (val_var rfl) ?_
          refine a_nil ?_
          refine ⟨F8, (u2), (z2.2.1), (wish1), _, rfl, w.f, r4, hW, ?_⟩
          intro z5 hW v3 F9 H8 s8 r7
          replace r1 := Rep.mono _ s8.g r1
          replace r3 := Rep.mono _ s8.g r3
          replace r4 := Rep.mono _ s8.g r4
          replace r5 := Rep.mono _ s8.g r5
          replace r6 := Rep.mono _ s8.g r6
          replace w := w.tr s8
          replace gx3 := Ex.tr gx3 s8.g
          replace gx1 := Ex.tr gx1 s8.g
          refine hN11 _ _ ?_
          refine a_ifE ?_
          refine e_ans (b := decide (hasT z3 small1 = true)) (t_ofB (vb_of (in_D (j := small1) r6 w.f (val_var rfl) (val_var rfl)) dec_tt)) ?_
          refine b_if (fun hc3 => ?_) (fun hc3 => ?_)
          · have hW := ifP hW hc3
            refine a_ifE ?_
            refine e_jnT hW (fun b F' H' => b = b ∧ Wf F0 H0 F' H' ∧ Ex F9 F') ?_ ?_
            · intro N12 hN12 hW
              have gx4 : Ex F9 F9 := Ex.rfl'
              refine e_tOr ?_
              obtain ⟨_, rfl, ix2⟩ := ix_2a (K := K) r7 w.f
              refine e_ans (b := decide (z5.1 ≠ (PySem.Str.ofString "sum"))) (t_of (c_neS (ix2 (val_var rfl) val_c) val_c)) ?_
              refine b_if (fun hc4 => ?_) (fun hc4 => ?_)
              · have hW := ifP hW hc4
                exact hN12 true _ _ ⟨rfl, w, gx4⟩ hW
              · have hW := ifN hW hc4
                refine e_tOr ?_
                refine e_tNot ?_
                refine e_tB ?_
                refine e_call ?_
                obtain ⟨v5, r9, ix3⟩ := ix_2b (K := K) r7 w.f
                refine a_val (v := v5) (ix3 (val_var rfl) val_c) ?_
                obtain ⟨y1, hy1, hW⟩ := hW
                have r10 := alt_l r9 hy1
                refine a_val (v := (.int ((z2.2.1.length : Nat) : Int))) (len_L r4 w.f (val_var rfl)) ?_
                refine a_nil ?_
                refine ⟨F9, (v5), (y1), (z2.2.1.length), _, rfl, w.f, r10, hW, ?_⟩
                intro z6 hW F10 H9 s9
                replace r1 := Rep.mono _ s9.g r1
                replace r3 := Rep.mono _ s9.g r3
                replace r4 := Rep.mono _ s9.g r4
                replace r5 := Rep.mono _ s9.g r5
                replace r6 := Rep.mono _ s9.g r6
                replace r7 := Rep.mono _ s9.g r7
                replace r9 := Rep.mono _ s9.g r9
                replace r10 := Rep.mono _ s9.g r10
                replace w := w.tr s9
                replace gx4 := Ex.tr gx4 s9.g
                replace gx3 := Ex.tr gx3 s9.g
                replace gx1 := Ex.tr gx1 s9.g
                refine bl_v ?_
                refine bb_ifn (fun hc5 => ?_) (fun hc5 => ?_)
                · have hW := ifP hW hc5
                  refine e_tT ?_
                  refine e_op ?_
                  refine e_call ?_
                  refine a_val (v := u2) (val_var rfl) ?_
                  obtain ⟨v6, r11, ix4⟩ := ix_2b (K := K) r7 w.f
                  refine a_val (v := v6) (ix4 (val_var rfl) val_c) ?_
                  obtain ⟨y2, hy2, hW⟩ := hW
                  have r12 := alt_l r11 hy2
                  refine a_nil ?_
                  refine ⟨F10, (u2), (z2.2.1), (v6), (y2), _, rfl, w.f, r4, r12, hW, ?_⟩
                  intro z7 hW F11 H10 s10
                  replace r1 := Rep.mono _ s10.g r1
                  replace r3 := Rep.mono _ s10.g r3
                  replace r4 := Rep.mono _ s10.g r4
                  replace r5 := Rep.mono _ s10.g r5
                  replace r6 := Rep.mono _ s10.g r6
                  replace r7 := Rep.mono _ s10.g r7
                  replace r9 := Rep.mono _ s10.g r9
                  replace r10 := Rep.mono _ s10.g r10
                  replace r11 := Rep.mono _ s10.g r11
                  replace r12 := Rep.mono _ s10.g r12
                  replace w := w.tr s10
                  replace gx4 := Ex.tr gx4 s10.g
                  replace gx3 := Ex.tr gx3 s10.g
                  replace gx1 := Ex.tr gx1 s10.g
                  refine e_val (v := (.int ((wish1 : Nat) : Int))) (val_var rfl) ?_
                  refine rv2T (b := decide (z7 ≠ wish1)) (vb_dec (c_neI val_c val_c) n_ne) ?_
                  exact hN12 (decide (z7 ≠ wish1)) _ _ ⟨rfl, w, gx4⟩ hW
                · have hW := ifN hW hc5
                  exact hN12 true _ _ ⟨rfl, w, gx4⟩ hW
            intro b1 F12 H11 hI4 hW
            obtain ⟨_, w, gx5⟩ := hI4
            have r1 := Rep.mono _ gx5 r1
            have r3 := Rep.mono _ gx5 r3
            have r4 := Rep.mono _ gx5 r4
            have r5 := Rep.mono _ gx5 r5
            have r6 := Rep.mono _ gx5 r6
            have r7 := Rep.mono _ gx5 r7
            have gx3 := Ex.tr gx3 gx5
            have gx1 := Ex.tr gx1 gx5
            refine bb_if (fun hc6 => ?_) (fun hc6 => ?_)
            · have hW := ifP hW hc6
              refine a_ret (v := (.bl (false))) val_c ?_
              exact hQ _ hW _ _ w
            · have hW := ifN hW hc6
              exact hN7 barred_here1 _ _ _ ⟨_, _, _, _, w, gx1, rfl⟩ hW
          · have hW := ifN hW hc3
            refine a_ifE ?_
            refine e_ans (b := decide (barred_here1 < 2)) (t_of (vb_dec (c_lt (val_var rfl) val_c) n_lt)) ?_
            refine b_if (fun hc7 => ?_) (fun hc7 => ?_)
            · have hW := ifP hW hc7
              refine q_sq fun N13 hN13 => ?_
              obtain ⟨barred_here2, ebarred_here1⟩ : ∃ barred_here2 : Nat, barred_here2 = barred_here1 + 1 := ⟨_, rfl⟩
              replace hW := hW barred_here2 ebarred_here1
              refine a_asg (v := (.int ((barred_here2 : Nat) : Int))) (v_eq (vn_add (val_var rfl) val_c) (by rw [ebarred_here1])) ?_
              refine hN13 _ _ ?_
              refine a_ifE ?_
              refine e_tNot ?_
              refine e_tB ?_
              refine e_call ?_
              refine a_val (v := u2) (val_var rfl) ?_
              refine a_val (v := (.int ((wish1 : Nat) : Int))) (val_var rfl) ?_
              refine a_val (v := v3) (val_var rfl) ?_
              refine a_nil ?_
              refine ⟨F9, (u2), (z2.2.1), (wish1), (v3), (z5), _, rfl, w.f, r4, r7, hW, ?_⟩
              intro z8 hW F13 H12 s11
              replace r1 := Rep.mono _ s11.g r1
              replace r3 := Rep.mono _ s11.g r3
              replace r4 := Rep.mono _ s11.g r4
              replace r5 := Rep.mono _ s11.g r5
              replace r6 := Rep.mono _ s11.g r6
              replace r7 := Rep.mono _ s11.g r7
              replace w := w.tr s11
              replace gx3 := Ex.tr gx3 s11.g
              replace gx1 := Ex.tr gx1 s11.g
              refine bl_v ?_
              refine bb_ifn (fun hc8 => ?_) (fun hc8 => ?_)
              · have hW := ifP hW hc8
                exact hN7 barred_here2 _ _ _ ⟨_, _, _, _, w, gx1, rfl⟩ hW
              · have hW := ifN hW hc8
                refine a_ret (v := (.bl (false))) val_c ?_
                exact hQ _ hW _ _ w
            · have hW := ifN hW hc7
              refine a_ifE ?_
              obtain ⟨_, rfl, ix5⟩ := ix_2a (K := K) r7 w.f
              refine e_ans (b := decide (z5.1 ≠ (PySem.Str.ofString "no"))) (t_of (c_neS (ix5 (val_var rfl) val_c) val_c)) ?_
              refine b_if (fun hc9 => ?_) (fun hc9 => ?_)
              · have hW := ifP hW hc9
                refine a_ret (v := (.bl (false))) val_c ?_
                exact hQ _ hW _ _ w
              · have hW := ifN hW hc9
                exact hN7 barred_here1 _ _ _ ⟨_, _, _, _, w, gx1, rfl⟩ hW
      · intro barred_here1 σ' F14 H13 hI5 hW
        obtain ⟨o1, o2, o3, o4, w, gx6, rfl⟩ := hI5
        have r1 := Rep.mono _ gx6 r1
        have r3 := Rep.mono _ gx6 r3
        have r4 := Rep.mono _ gx6 r4
        have r5 := Rep.mono _ gx6 r5
        have r6 := Rep.mono _ gx6 r6
        refine hN6 _ _ ?_
        refine a_ret (v := (.bl (true))) val_c ?_
        exact hQ _ hW _ _ w
end My
namespace My
open Wk
theorem w_even {n : Nat} {R : Bool → Prop} (h : R (!par n)) : W_even n R := by
  refine whileW_ind (fun s => s.1 ≤ 1 ∧ xor (decide (s.1 = 1)) (par s.2) = par n) (fun s => s.2) ⟨by show 0 ≤ 1; decide, by simp⟩ ?_
  rintro ⟨many, number⟩ nx ⟨h1, h2⟩ hn
  by_cases hp : 0 < number
  · show if decide (0 < number) = true then _ else _
    rw [if_pos (decide_eq_true hp)]
    rintro _ rfl _ rfl
    refine hn _ ⟨?_, ?_⟩ ?_
    · show many ^^^ (number &&& 1) ≤ 1
      rw [Nat.and_one_is_mod]
      have : many = 0 ∨ many = 1 := by simp at h1; omega
      rcases Nat.mod_two_eq_zero_or_one number with e | e <;> rcases this with f | f <;> rw [e, f] <;> decide
    · show xor (decide (many ^^^ (number &&& 1) = 1)) (par (number >>> 1)) = par n
      rw [← h2, Nat.and_one_is_mod, par_step number, Nat.shiftRight_eq_div_pow, Nat.testBit_zero]
      simp only [Nat.pow_one]
      have : many = 0 ∨ many = 1 := by simp at h1; omega
      rcases Nat.mod_two_eq_zero_or_one number with e | e <;> rcases this with f | f <;> simp [e, f]
    · show number >>> 1 < number
      rw [Nat.shiftRight_eq_div_pow]; omega
  · show if decide (0 < number) = true then _ else _
    rw [if_neg (by simpa using hp)]
    have : number = 0 := by omega
    subst this
    show R (decide (many = 0))
    simp [par_zero] at h2
    rw [← h2] at h
    have e : many = 0 ∨ many = 1 := by simp at h1; omega
    rcases e with f | f <;> subst f <;> simpa using h
end My
namespace My
open Wk
theorem w_bits_of {k n : Nat} {R : List Nat → Prop} (hk : k < 1000000) (hn : n < 2 ^ k) (h : R (bl k n)) : W_bits_of n R := by
  refine whileW_ind (fun s => s.2.1 = n >>> s.2.2 ∧ s.1 = bl s.2.2 n ∧ s.2.2 ≤ k) (fun s => k - s.2.2) ⟨rfl, rfl, Nat.zero_le _⟩ ?_
  rintro ⟨found, mask, place⟩ nx ⟨(rfl : mask = n >>> place), (rfl : found = bl place n), (h3 : place ≤ k)⟩ hx
  show if decide (0 < n >>> place) = true then _ else _
  by_cases hp : 0 < n >>> place
  · rw [if_pos (decide_eq_true hp)]
    have hl : place < k := by
      refine Nat.lt_of_not_le fun z => ?_
      rw [Nat.shiftRight_eq_div_pow, Nat.div_eq_of_lt (Nat.lt_of_lt_of_le hn (Nat.pow_le_pow_right (by decide) z))] at hp
      exact Nat.lt_irrefl _ hp
    have nxt : ∀ (s' : List Nat × Nat × Nat), s' = (bl (place + 1) n, n >>> (place + 1), place + 1) → nx s' := fun s' e => hx s' (by subst e; exact ⟨rfl, rfl, hl⟩) (by
      subst e
      show k - (place + 1) < k - place
      omega)
    have e1 : (n >>> place &&& 1 = 1) ↔ n.testBit place = true := by
      rw [Nat.and_one_is_mod, Nat.testBit_eq_decide_div_mod_eq, Nat.shiftRight_eq_div_pow, decide_eq_true_iff]
    have e2 : n >>> place >>> 1 = n >>> (place + 1) := (Nat.shiftRight_add ..).symm
    show if _ then _ else _
    by_cases hb : n.testBit place = true
    · rw [if_pos (e1.mpr hb)]
      refine ⟨Nat.lt_of_le_of_lt (bl_len _ _) (Nat.lt_of_le_of_lt h3 hk), ?_⟩
      rintro _ rfl _ rfl
      exact nxt _ (by rw [bl_snoc, if_pos hb, e2])
    · rw [if_neg (fun z => hb (e1.mp z))]
      rintro _ rfl _ rfl
      exact nxt _ (by rw [bl_snoc, if_neg hb, e2, List.append_nil])
  · rw [if_neg (by simpa using hp)]
    show R (bl place n)
    rw [← bl_more h3 (Nat.eq_zero_of_not_pos hp)]; exact h
end My
namespace My
open Wk
def cellV (s : List Int) (k : Nat) : Int := if h : k < s.length then s[k] else ((41 * k + 3 : Nat) : Int)
theorem w_cell {s : List Int} {k : Nat} {R : Int → Prop} (h : R (cellV s k)) : W_cell s k R := by
  unfold W_cell
  unfold cellV at h
  by_cases e : k < s.length
  · rw [dif_pos e] at h; rw [if_pos e]; exact ⟨_, List.getElem?_eq_getElem e, h⟩
  · rw [dif_neg e] at h; rw [if_neg e]; exact h
def mixN (c : Int) (k : Nat) : Nat := (((modN c 2147483647) * 48271) + (7919 * k) + 11) % 2147483647
def mixV (c : Int) (k : Nat) : Nat := ((mixN c k * mixN c k % 2147483629) * ((mixN c k * mixN c k % 2147483629 + 48271 * k) + 7)) % 2147483587
theorem w_mix {c : Int} {k : Nat} {R : Nat → Prop} (h : R (mixV c k)) : W_mix c k R := by
  rintro _ rfl
  have b : mixN c k < 2 ^ 64 := Nat.lt_trans (Nat.mod_lt _ (by decide)) (by decide)
  refine ⟨.inl b, ?_⟩
  rintro _ rfl
  exact ⟨.inl (Nat.lt_trans (Nat.mod_lt _ (by decide)) (by decide)), h⟩
end My
namespace My
open Wk
/-- what is kept, behind the rows pre -/
structure KI (pre : List Nat) (kept : List (Nat × (Nat × Nat))) : Prop where
  ent : ∀ t l p, valT kept t = some (l, p) → l ≠ 0 ∧ bits l = t ∧ comb pre p = l ∧ p < 2 ^ pre.length
  top : ∀ v, v ≠ 0 → Span pre v → hasT kept (bits v) = true
theorem KI.nil : KI [] [] := ⟨fun t l p h => (by cases h), fun v h s => absurd (Span.nil.mp s) h⟩
/-- behind lowered -/
structure Low (pre : List Nat) (kept : List (Nat × (Nat × Nat))) (row places left more : Nat) : Prop where
  no : hasT kept (bits left) = false
  by_ : ∃ D, D < 2 ^ pre.length ∧ left = row ^^^ comb pre D ∧ more = places ^^^ D
theorem xor4 (a b c : Nat) : (a ^^^ b) ^^^ c = a ^^^ (b ^^^ c) := Nat.xor_assoc a b c
theorem w_lowered {pre : List Nat} {kept : List (Nat × (Nat × Nat))} (K : KI pre kept) {row places : Nat} {R : Nat × Nat → Prop} (h : ∀ z : Nat × Nat, Low pre kept row places z.1 z.2 → R z) : W_Steps_lowered kept row places R := by
  refine whileW_ind (fun s => ∃ D, D < 2 ^ pre.length ∧ s.1 = row ^^^ comb pre D ∧ s.2 = places ^^^ D) (fun s => bits s.1) ⟨0, Nat.two_pow_pos _, by rw [comb_zero, Nat.xor_zero], by rw [Nat.xor_zero]⟩ ?_
  rintro ⟨r, p⟩ nx ⟨D, hD, (e1 : r = _), (e2 : p = _)⟩ hn
  show if decide (hasT kept (bits r) = true) = true then _ else _
  by_cases q : hasT kept (bits r) = true
  · rw [if_pos (decide_eq_true q)]
    obtain ⟨⟨l, pl⟩, hx⟩ : ∃ x, valT kept (bits r) = some x := by
      unfold hasT at q
      cases hv : valT kept (bits r) with
      | none => rw [hv] at q; cases q
      | some x => exact ⟨x, rfl⟩
    refine ⟨(l, pl), hx, ?_⟩
    rintro _ rfl _ rfl
    obtain ⟨h0, hb, hc, hp⟩ := K.ent _ _ _ hx
    have hr : r ≠ 0 := fun z => by rw [z, bits_zero] at hb; exact h0 (bits_eq_zero.mp hb)
    refine hn _ ⟨D ^^^ pl, Nat.xor_lt_two_pow hD hp, ?_, ?_⟩ (bits_xor_eq hb.symm hr)
    · show r ^^^ l = _
      rw [e1, comb_xor, hc, Nat.xor_assoc]
    · show p ^^^ pl = _
      rw [e2, Nat.xor_assoc]
  · rw [if_neg (by simpa using q)]
    exact h (r, p) ⟨by simpa using q, D, hD, e1, e2⟩
theorem Low.zero {pre : List Nat} {kept : List (Nat × (Nat × Nat))} {row places left more : Nat} (K : KI pre kept) (L : Low pre kept row places left more) : left = 0 ↔ Span pre row := by
  obtain ⟨D, hD, e1, e2⟩ := L.by_
  constructor
  · intro h
    rw [h] at e1
    exact ⟨D, (xor0 e1.symm).symm⟩
  · intro h
    refine Classical.byContradiction fun z => ?_
    have hs : Span pre left := by rw [e1]; exact h.xor ⟨D, rfl⟩
    have := K.top left z hs
    rw [L.no] at this; cases this
/-- what Steps(rows) holds -/
structure StepsOk (rows : List Nat) (z : List (Nat × (Nat × Nat)) × List Nat × List Nat) : Prop where
  ki : KI rows z.1
  nd : (z.1.map (·.1)).Nodup
  kl : z.1.length = z.2.1.length
  fnd : z.2.1 = fndP rows
  gon : ∀ g ∈ z.2.2, g ≠ 0 ∧ comb rows g = 0 ∧ g < 2 ^ rows.length
  inc : z.2.2.Pairwise (fun a b => bits a < bits b)
  len : z.2.1.length + z.2.2.length = rows.length
theorem KI.up {pre : List Nat} {kept : List (Nat × (Nat × Nat))} (K : KI pre kept) {x : Nat} : ∀ t l p, valT kept t = some (l, p) → l ≠ 0 ∧ bits l = t ∧ comb (pre ++ [x]) p = l ∧ p < 2 ^ (pre ++ [x]).length := fun t l p h => by
  obtain ⟨a, b, c, d⟩ := K.ent t l p h
  refine ⟨a, b, by rw [comb_snoc, testBit_big d (Nat.le_refl _), c]; simp, Nat.lt_of_lt_of_le d (Nat.pow_le_pow_right (by decide) (by simp))⟩
theorem keys_putT {κ α : Type} [DecidableEq κ] [KeyT κ] {m : List (κ × α)} {j : κ} {x : α} (hn : (m.map (·.1)).Nodup) : ((putT m j x).map (·.1)).Nodup := by
  unfold putT
  by_cases h : hasT m j = true
  · rw [if_pos h, List.map_map]
    have : ((fun q : κ × α => q.1) ∘ fun q => if q.1 = j then (q.1, x) else q) = fun q => q.1 := by
      funext q
      show (if q.1 = j then (q.1, x) else q).1 = q.1
      by_cases e : q.1 = j
      · rw [if_pos e]
      · rw [if_neg e]
    rw [this]; exact hn
  · rw [if_neg h, List.map_append]
    refine List.nodup_append.mpr ⟨hn, by simp, fun a ha b hb e => ?_⟩
    rw [List.mem_singleton.mp (show b ∈ [j] from hb)] at e
    subst e
    exact h (hasT_iff.mpr ha)
theorem w_Steps_init {rows : List Nat} (hl : rows.length < 1000000) {R : (List (Nat × (Nat × Nat)) × List Nat × List Nat) → Prop} (h : ∀ z, StepsOk rows z → R z) : W_Steps___init__ rows R := by
  refine forW_ind (fun pre (s : List Nat × List (Nat × (Nat × Nat)) × List Nat) => ∃ us, rows = us ++ rows.drop us.length ∧ us.length = pre.length ∧ StepsOk us (s.2.1, s.2.2, s.1)) ⟨[], rfl, rfl, ⟨KI.nil, List.nodup_nil, rfl, rfl, fun g hg => (by cases hg), List.Pairwise.nil, rfl⟩⟩ ?_ ?_
  · rintro pre ⟨i, x⟩ post ⟨gone, kept, found⟩ nx bk e ⟨us, hu, hul, S⟩ hn _
    have hget : (enumT rows)[pre.length]? = some (i, x) := by rw [e, List.getElem?_append_right (Nat.le_refl _), Nat.sub_self]; rfl
    rw [enumT_get] at hget
    obtain ⟨y, hy, ey⟩ := Option.map_eq_some_iff.mp hget
    obtain ⟨rfl, rfl⟩ := Prod.ext_iff.mp ey
    have hlt : pre.length < rows.length := (List.getElem?_eq_some_iff.mp hy).1
    have hus : us ++ [y] = rows.take (us.length + 1) := by
      have e1 : us = rows.take us.length := by
        conv => rhs; rw [hu]
        rw [List.take_append_of_le_length (Nat.le_refl _), List.take_length]
      have e2 : rows[us.length]'(by omega) = y := by
        have := (List.getElem?_eq_some_iff.mp hy).2
        simp only [hul]; exact this
      rw [List.take_succ_eq_append_getElem (by omega), e2, ← e1]
    have hnew : rows = (us ++ [y]) ++ rows.drop (us ++ [y]).length := by
      rw [hus, List.length_take, Nat.min_eq_left (by omega), List.take_append_drop]
    have hsl := S.len
    have hsk := S.kl
    have hi : (pre.length : Nat) = us.length := hul.symm
    show (pre.length < 100000000) ∧ _
    refine ⟨by omega, w_lowered S.ki fun z L => ?_⟩
    have hz := L.zero S.ki
    obtain ⟨D, hD, e1, e2⟩ := L.by_
    have hc : comb (us ++ [y]) z.2 = z.1 := by
      show comb (us ++ [y]) z.2 = z.1
      rw [e2, hi, comb_xor, comb_snoc, comb_pow_len, Nat.testBit_two_pow, decide_eq_true rfl, if_pos rfl, comb_snoc, testBit_big hD (Nat.le_refl _), if_neg (by simp), Nat.zero_xor, Nat.xor_zero, e1]
    have hzb : z.2.testBit us.length = true := by rw [e2, hi, Nat.testBit_xor, Nat.testBit_two_pow, decide_eq_true rfl, testBit_big hD (Nat.le_refl _)]; rfl
    have hzl : z.2 < 2 ^ (us.length + 1) := by
      rw [e2, hi]
      exact Nat.xor_lt_two_pow (Nat.pow_lt_pow_right (by decide) (Nat.lt_succ_self _)) (Nat.lt_of_lt_of_le hD (Nat.pow_le_pow_right (by decide) (Nat.le_succ _)))
    have hzz : bits z.2 = us.length + 1 := bits_of_bit hzb hzl
    have ll : (us ++ [y]).length = us.length + 1 := by simp
    by_cases q : z.1 = 0
    · rw [if_pos q]
      have hs := hz.mp q
      refine ⟨by simp only at hsl; omega, hn _ ⟨us ++ [y], hnew, by simp [hul], ?_⟩⟩
      refine ⟨⟨S.ki.up, fun v hv sv => ?_⟩, S.nd, S.kl, ?_, ?_, ?_, ?_⟩
      · rcases Span.snoc.mp sv with a | a
        · exact S.ki.top v hv a
        · refine S.ki.top v hv ?_
          have := a.xor hs
          rwa [Nat.xor_assoc, Nat.xor_self, Nat.xor_zero] at this
      · rw [fndP_snoc, if_pos hs, List.append_nil]; exact S.fnd
      · intro g hg
        rcases List.mem_append.mp hg with m | m
        · obtain ⟨a, b, c⟩ := S.gon g m
          exact ⟨a, by rw [comb_snoc, testBit_big c (Nat.le_refl _), b]; simp, Nat.lt_of_lt_of_le c (Nat.pow_le_pow_right (by decide) (by simp))⟩
        · rw [List.mem_singleton.mp m]
          exact ⟨fun z0 => by rw [z0, bits_zero] at hzz; omega, by rw [hc, q], by rw [ll]; exact hzl⟩
      · refine List.pairwise_append.mpr ⟨S.inc, List.pairwise_singleton _ _, fun a ha b hb => ?_⟩
        rw [List.mem_singleton.mp hb, hzz]
        exact Nat.lt_succ_of_le (bits_le.mpr (S.gon a ha).2.2)
      · simp only [List.length_append, List.length_singleton] at hsl ⊢; omega
    · rw [if_neg q]
      have hs : ¬ Span us y := fun z0 => q (hz.mpr z0)
      refine ⟨by simp only at hsk hsl; omega, by simp only at hsl; omega, hn _ ⟨us ++ [y], hnew, by simp [hul], ?_⟩⟩
      have hno := L.no
      refine ⟨⟨fun t l p hv => ?_, fun v hv sv => ?_⟩, keys_putT S.nd, ?_, ?_, ?_, S.inc, ?_⟩
      · rw [valT_putT] at hv
        by_cases e : bits z.1 = t
        · rw [if_pos e] at hv
          obtain ⟨rfl, rfl⟩ := Prod.ext_iff.mp (Option.some.inj hv)
          exact ⟨q, e, hc, by rw [ll]; exact hzl⟩
        · rw [if_neg e] at hv
          exact S.ki.up t l p hv
      · show hasT (putT kept (bits z.1) (z.1, z.2)) (bits v) = true
        rw [hasT_putT]
        have key : ∀ u, u ≠ 0 → Span us u → hasT kept (bits u) = true := S.ki.top
        rcases Span.snoc.mp sv with a | a
        · rw [key v hv a, Bool.or_true]
        · have a' : Span us (v ^^^ z.1) := by
            have := a.xor ⟨D, rfl⟩
            rw [e1]; rwa [Nat.xor_assoc] at this
          by_cases hu0 : v ^^^ z.1 = 0
          · rw [xor0 hu0, decide_eq_true rfl]; rfl
          · have hk := key _ hu0 a'
            have hne : bits (v ^^^ z.1) ≠ bits z.1 := fun e => by rw [e, hno] at hk; cases hk
            have hm : bits v = max (bits (v ^^^ z.1)) (bits z.1) := by
              rw [← bits_xor_max hne, Nat.xor_assoc, Nat.xor_self, Nat.xor_zero]
            rcases Nat.le_total (bits (v ^^^ z.1)) (bits z.1) with o | o
            · rw [hm, Nat.max_eq_right o, decide_eq_true rfl]; rfl
            · rw [hm, Nat.max_eq_left o, hk, Bool.or_true]
      · show (putT kept (bits z.1) (z.1, z.2)).length = (found ++ [pre.length]).length
        unfold putT
        rw [if_neg (by rw [hno]; simp), List.length_append, List.length_append]
        simp only at hsk
        rw [hsk]; rfl
      · show found ++ [pre.length] = _
        rw [fndP_snoc, if_neg hs, hi]
        have := S.fnd
        simp only at this
        rw [this]
      · intro g hg
        obtain ⟨a, b, c⟩ := S.gon g hg
        exact ⟨a, by rw [comb_snoc, testBit_big c (Nat.le_refl _), b]; simp, Nat.lt_of_lt_of_le c (Nat.pow_le_pow_right (by decide) (by simp))⟩
      · simp only [List.length_append, List.length_singleton] at hsl ⊢; omega
  · rintro ⟨gone, kept, found⟩ ⟨us, hu, hul, S⟩
    have : us = rows := by
      rw [enumT_len] at hul
      rw [hul, List.drop_length, List.append_nil] at hu
      exact hu.symm
    rw [this] at S
    exact h _ S
end My
namespace My
open Wk
/-! rows of signs: masks of a width, and what each bit of them stands for -/
theorem w_wide {c : Int} {n : Nat} (hn : 0 < n ∧ n ≤ 8) {R : List Nat → Prop} (h : ∀ ws : List Nat, ws.length = n → Incr ws → (∀ w ∈ ws, w < 2 ^ 200 ∧ (modN c 2 = 0 → w < 2 ^ n)) → R ws) : W_wide c n R := by
  unfold W_wide
  by_cases q : modN c 2 = 0
  · rw [if_pos q]
    refine ⟨by omega, compW_map (fun k => 2 ^ k) (fun k hk kk z => ⟨by have := List.mem_range.mp hk; omega, z⟩) (h _ (by rw [List.length_map, List.length_range]) ⟨?_, ?_⟩ ?_)⟩
    · refine List.pairwise_map.mpr (List.Pairwise.imp ?_ List.pairwise_lt_range)
      intro a b hab
      have e : ∀ k, bits (2 ^ k) = k + 1 := fun k => bits_of_bit (by rw [Nat.testBit_two_pow]; simp) (Nat.pow_lt_pow_right (by decide) (Nat.lt_succ_self _))
      rw [e, e]; omega
    · intro w hw
      obtain ⟨k, _, rfl⟩ := List.mem_map.mp hw
      exact Nat.ne_of_gt (Nat.two_pow_pos k)
    · intro w hw
      obtain ⟨k, hk, rfl⟩ := List.mem_map.mp hw
      have := List.mem_range.mp hk
      exact ⟨Nat.pow_lt_pow_right (by decide) (by omega), fun _ => Nat.pow_lt_pow_right (by decide) this⟩
  · rw [if_neg q]
    refine ⟨by omega, ?_⟩
    have hd : 25 ≤ 200 / n := by
      have : n = 1 ∨ n = 2 ∨ n = 3 ∨ n = 4 ∨ n = 5 ∨ n = 6 ∨ n = 7 ∨ n = 8 := by omega
      rcases this with e | e | e | e | e | e | e | e <;> subst e <;> decide
    have hdn : 200 / n * n ≤ 200 := Nat.div_mul_le_self 200 n
    refine forW_ind (fun pre (ws : List Nat) => pre = List.range pre.length ∧ ws.length = pre.length ∧ Incr ws ∧ ∀ w ∈ ws, bits w ≤ 200 / n * pre.length) ⟨rfl, rfl, ⟨List.Pairwise.nil, fun w hw => (by cases hw)⟩, fun w hw => (by cases hw)⟩ ?_ ?_
    · rintro pre k post ws nx bk e ⟨hp, hl, hI, hb⟩ hx _
      have hk : k = pre.length := by
        have h1 : (List.range n)[pre.length]? = some k := by rw [e, List.getElem?_append_right (Nat.le_refl _), Nat.sub_self]; rfl
        obtain ⟨_, h2⟩ := List.getElem?_eq_some_iff.mp h1
        rw [List.getElem_range] at h2; exact h2.symm
      have hkn : k < n := by
        have : pre.length + (post.length + 1) = n := by
          have := congrArg List.length e
          rw [List.length_range, List.length_append, List.length_cons] at this; exact this.symm
        omega
      refine ⟨by decide, forW_foldI (fun (nz : Nat) j => nz * 2147483587 + mixV c (20 * k + j)) (fun _ => True) trivial (fun j _ nz nx bk _ z => w_mix fun _ e => by subst e; exact z trivial) (fun _ _ _ _ => trivial) fun _ => ?_⟩
      generalize (List.range 7).foldl _ 0 = nz
      have hm1 : 200 / n ≤ 200 / n * (k + 1) := Nat.le_mul_of_pos_right _ (Nat.succ_pos _)
      have hm2 : 200 / n * (k + 1) ≤ 200 := Nat.le_trans (Nat.mul_le_mul_left _ hkn) hdn
      refine ⟨⟨by omega, Nat.lt_of_le_of_lt (Nat.log2_le_self n) (by omega)⟩, .inl (Nat.lt_of_le_of_lt (Nat.div_le_self 200 n) (by decide)), by omega, ?_⟩
      rintro top rfl
      refine ⟨by omega, by omega, by omega, hx _ ?_⟩
      generalize ht : 200 / n * (k + 1) - 1 = top
      have hbt : bits (2 ^ top + nz % 2 ^ top) = top + 1 := by
        have h1 := Nat.mod_lt nz (Nat.two_pow_pos top)
        refine Nat.le_antisymm (bits_le.mpr (by rw [Nat.pow_succ]; omega)) ?_
        refine Nat.succ_le_of_lt (Nat.lt_of_not_le fun z => ?_)
        have := bits_le.mp z
        omega
      refine ⟨?_, ?_, hI.snoc (fun x hxw => ?_) (fun z => ?_), fun w hw => ?_⟩
      · rw [List.length_append, List.length_singleton, List.range_succ, ← hp, hk]
      · rw [List.length_append, List.length_append, hl, List.length_singleton, List.length_singleton]
      · have := hb x hxw
        rw [← hk] at this
        rw [hbt]
        have e2 : 200 / n * (k + 1) = 200 / n * k + 200 / n := Nat.mul_succ _ _
        omega
      · rw [z, bits_zero] at hbt; omega
      · rw [List.length_append, List.length_singleton, ← hk]
        rcases List.mem_append.mp hw with m | m
        · have := hb w m
          rw [← hk] at this
          exact Nat.le_trans this (Nat.mul_le_mul_left _ (Nat.le_succ _))
        · rw [List.mem_singleton.mp m, hbt]; omega
    · rintro ws ⟨hp, hl, hI, hb⟩
      rw [List.length_range] at hl hb
      exact h ws hl hI fun w hw => ⟨bits_le.mp (Nat.le_trans (hb w hw) hdn), fun z => absurd z q⟩
theorem w_bits_loop {n s : Nat} {ws : List Nat} (hw : ws.length = n) {k : Nat → Prop} (h : k (comb ws s)) :
    forW (List.range n) 0 (fun k1 row_here1 nx1 bk1 => if ((s >>> k1) &&& 1) = 1 then (∃ x1, ws[k1]? = some x1 ∧ ∀ row_here2 : Nat, row_here2 = row_here1 ^^^ x1 → nx1 row_here2) else (nx1 row_here1)) k := by
  refine forW_ind (fun pre (acc : Nat) => pre = List.range pre.length ∧ acc = comb (ws.take pre.length) s) ⟨rfl, rfl⟩ ?_ ?_
  · rintro pre k1 post acc nx bk e ⟨hp, rfl⟩ hx _
    have hk : k1 = pre.length := by
      have h1 : (List.range n)[pre.length]? = some k1 := by rw [e, List.getElem?_append_right (Nat.le_refl _), Nat.sub_self]; rfl
      obtain ⟨_, h2⟩ := List.getElem?_eq_some_iff.mp h1
      rw [List.getElem_range] at h2; exact h2.symm
    have hkn : k1 < n := by
      have : pre.length + (post.length + 1) = n := by
        have := congrArg List.length e
        rw [List.length_range, List.length_append, List.length_cons] at this; exact this.symm
      omega
    have e1 : (s >>> k1 &&& 1 = 1) ↔ s.testBit k1 = true := by
      rw [Nat.and_one_is_mod, Nat.testBit_eq_decide_div_mod_eq, Nat.shiftRight_eq_div_pow, decide_eq_true_iff]
    have e2 : ws.take (k1 + 1) = ws.take k1 ++ [ws[k1]'(by omega)] := List.take_succ_eq_append_getElem (by omega)
    have e3 : (ws.take k1).length = k1 := by rw [List.length_take]; omega
    have nxt : ∀ a, a = comb (ws.take (k1 + 1)) s → nx a := fun a ha => hx a ⟨by rw [List.length_append, List.length_singleton, List.range_succ, ← hp, hk], by rw [List.length_append, List.length_singleton, ← hk]; exact ha⟩
    rw [← hk]
    by_cases q : s.testBit k1 = true
    · rw [if_pos (e1.mpr q)]
      refine ⟨ws[k1]'(by omega), List.getElem?_eq_getElem (by omega), ?_⟩
      rintro _ rfl
      exact nxt _ (by rw [e2, comb_snoc, e3, if_pos q])
    · rw [if_neg (fun z => q (e1.mp z))]
      exact nxt _ (by rw [e2, comb_snoc, e3, if_neg q, Nat.xor_zero])
  · rintro acc ⟨_, rfl⟩
    rw [List.length_range, ← hw, List.take_length]
    exact h
theorem w_row {c : Int} {n : Nat} {ws : List Nat} (hn : n ≤ 8) (hw : ws.length = n) {R : Nat × Nat → Prop} (h : ∀ s, s < 2 ^ n → R (s, comb ws s)) : W_row c n ws R := by
  refine ⟨by omega, ?_⟩
  rintro _ rfl
  suffices g : ∀ s, s < 2 ^ n → (n < 1000000) ∧ forW (List.range n) 0 (fun k1 row_here1 nx1 bk1 => if ((s >>> k1) &&& 1) = 1 then (∃ x1, ws[k1]? = some x1 ∧ ∀ row_here2 : Nat, row_here2 = row_here1 ^^^ x1 → nx1 row_here2) else (nx1 row_here1)) fun row_here1 => R (s, row_here1) by
    refine jnI ?_
    by_cases q : modN c 2 = 1
    · rw [if_pos q]
      refine w_mix (w_mix ⟨by omega, ?_⟩)
      rintro _ rfl
      refine g _ (Nat.lt_of_le_of_lt Nat.and_le_right ?_)
      have := Nat.two_pow_pos n
      omega
    · rw [if_neg q]
      exact g _ (modN_lt (Nat.two_pow_pos n))
  intro s hs
  exact ⟨by omega, w_bits_loop hw (h s hs)⟩
/-- smalls, their rows, what each bit stands for -/
theorem w_rows {s : List Int} {st most n : Nat} (hs : s.length ≤ 63) (hn : 0 < n ∧ n ≤ 8) {R : List Nat × List Nat × List Nat → Prop}
    (h : ∀ ss ws : List Nat, ss.length ≤ 67 → (∀ x ∈ ss, x < 2 ^ n) → ws.length = n → Incr ws → (∀ w ∈ ws, w < 2 ^ 200 ∧ (modN (cellV s st) 2 = 0 → w < 2 ^ n)) → R (ss, ss.map (comb ws), ws)) : W_rows s st most n R := by
  refine w_cell (w_wide hn fun ws hl hI hb => ?_)
  have hc : (cutT s (some (st + 1)) (some (st + 1 + most))).length ≤ 63 := by
    show ((s.drop _).take _).length ≤ 63
    rw [List.length_take, List.length_drop]; omega
  refine ⟨by omega, ?_⟩
  have tail : ∀ ys : List (Nat × Nat), ys.length ≤ 63 → (∀ y ∈ ys, y.1 < 2 ^ n ∧ y.2 = comb ws y.1) → W_cell s st fun z4 => W_mix z4 3 fun z5 => (z5 % 5 < 1000000) ∧ forW (List.range (z5 % 5)) ys (fun k1 pairs1 nx1 bk1 => W_cell s st fun z6 => W_mix z6 (4 + k1) fun z7 => W_row ((z7 : Nat) : Int) n ws fun z8 => (pairs1.length < 1000000) ∧ nx1 (pairs1 ++ [z8])) fun pairs1 => (pairs1.length < 1000000) ∧ compW pairs1 (fun pair1 kk => kk (some pair1.1)) fun ys2 => (pairs1.length < 1000000) ∧ compW pairs1 (fun pair2 kk => kk (some pair2.2)) fun ys3 => R (ys2, ys3, ws) := by
    intro ys hy hg
    refine w_cell (w_mix ⟨Nat.lt_trans (Nat.mod_lt _ (by decide)) (by decide), ?_⟩)
    refine forW_ind (fun pre (ps : List (Nat × Nat)) => ps.length = ys.length + pre.length ∧ ∀ y ∈ ps, y.1 < 2 ^ n ∧ y.2 = comb ws y.1) ⟨rfl, hg⟩ ?_ ?_
    · rintro pre k post ps nx bk e ⟨h1, h2⟩ hx _
      have hp : pre.length + (post.length + 1) ≤ 5 := by
        have := congrArg List.length e
        rw [List.length_range, List.length_append, List.length_cons] at this
        rw [← this]; exact Nat.le_of_lt (Nat.mod_lt _ (by decide))
      refine w_cell (w_mix (w_row hn.2 hl fun sm hsm => ⟨by omega, hx _ ⟨by rw [List.length_append, List.length_append, h1, List.length_singleton, List.length_singleton]; rfl, fun y hy' => ?_⟩⟩))
      rcases List.mem_append.mp hy' with m | m
      · exact h2 y m
      · rw [List.mem_singleton.mp m]; exact ⟨hsm, rfl⟩
    · rintro ps ⟨h1, h2⟩
      rw [List.length_range] at h1
      have h5 : ps.length ≤ 67 := by
        have : ∀ a : Nat, a % 5 ≤ 4 := fun a => Nat.le_of_lt_succ (Nat.mod_lt _ (by decide))
        have := this (mixV (cellV s st) 3)
        omega
      refine ⟨by omega, compW_map (fun y => y.1) (fun _ _ _ z => z) ⟨by omega, compW_map (fun y => y.2) (fun _ _ _ z => z) ?_⟩⟩
      have e : ps.map (fun y => y.2) = (ps.map fun y => y.1).map (comb ws) := by
        rw [List.map_map]
        exact List.map_congr_left fun y hy' => (h2 y hy').2
      rw [e]
      exact h _ ws (by rw [List.length_map]; exact h5) (fun x hx => by
        obtain ⟨y, hy', rfl⟩ := List.mem_map.mp hx
        exact (h2 y hy').1) hl hI hb
  -- the cells' rows
  generalize cutT s (some (st + 1)) (some (st + 1 + most)) = cs at hc ⊢
  have go : ∀ (cs : List Int) (acc : List (Nat × Nat)), acc.length + cs.length ≤ 63 → (∀ y ∈ acc, y.1 < 2 ^ n ∧ y.2 = comb ws y.1) → compG cs acc (fun cell_here1 kk => W_row cell_here1 n ws fun z3 => kk (some z3)) fun ys1 => W_cell s st fun z4 => W_mix z4 3 fun z5 => (z5 % 5 < 1000000) ∧ forW (List.range (z5 % 5)) ys1 (fun k1 pairs1 nx1 bk1 => W_cell s st fun z6 => W_mix z6 (4 + k1) fun z7 => W_row ((z7 : Nat) : Int) n ws fun z8 => (pairs1.length < 1000000) ∧ nx1 (pairs1 ++ [z8])) fun pairs1 => (pairs1.length < 1000000) ∧ compW pairs1 (fun pair1 kk => kk (some pair1.1)) fun ys2 => (pairs1.length < 1000000) ∧ compW pairs1 (fun pair2 kk => kk (some pair2.2)) fun ys3 => R (ys2, ys3, ws) := by
    intro cs
    induction cs with
    | nil => intro acc ha hg; exact tail acc (by simpa using ha) hg
    | cons c cs ih =>
      intro acc ha hg
      show W_row c n ws (fun z3 => compG cs (acc ++ (some z3).toList) _ _)
      refine w_row hn.2 hl fun sm hsm => ?_
      show compG cs (acc ++ [(sm, comb ws sm)]) _ _
      refine ih _ ?_ fun y hy => ?_
      · simp only [List.length_append, List.length_cons, List.length_nil] at ha ⊢; omega
      · rcases List.mem_append.mp hy with m | m
        · exact hg y m
        · rw [List.mem_singleton.mp m]; exact ⟨hsm, rfl⟩
  exact go cs [] (by simpa using hc) fun y hy => by cases hy
end My
namespace My
open Wk
/-- all sums, gathered: the loop over the sums so far -/
theorem w_sums {sums : List (Nat × Bool)} {y n : Nat} {us : List Nat} (hn : n ≤ 8) (hy : y < 2 ^ n) (h2 : ∀ v, hasT sums v = true ↔ Span us v) (hb : ∀ v, Span us v → v < 2 ^ n) (h3 : (List.map (fun q : Nat × Bool => q.1) sums).Nodup) {k : List (Nat × Bool) → Prop}
    (hny : ¬ Span us y) (hk : ∀ d : List (Nat × Bool), (∀ v, hasT d v = true ↔ Span (us ++ [y]) v) → (List.map (fun q : Nat × Bool => q.1) d).Nodup → d.length = 2 * sums.length → k d) :
    forW (sums.map (·.1)) sums (fun one1 sums2 nx2 bk2 => (sums2.length < 1000000) ∧ nx2 (putT sums2 (one1 ^^^ y) true)) k := by
  have p8 : (2 : Nat) ^ n ≤ 256 := Nat.pow_le_pow_right (n := 2) (by decide) hn
  refine forW_ind (fun pr (d : List (Nat × Bool)) => (∀ v, hasT d v = true ↔ hasT sums v = true ∨ v ^^^ y ∈ pr) ∧ (d.map (·.1)).Nodup ∧ d.length = sums.length + pr.length) ⟨fun v => ⟨.inl, fun z => z.elim id fun a => (by cases a)⟩, h3, rfl⟩ ?_ ?_
  · rintro pr one po d nx' bk' e' ⟨g1, g2, g3⟩ hx' _
    have dl : d.length ≤ 256 := by
      rw [← List.length_map (f := fun q : Nat × Bool => q.1)]
      refine nodup_len g2 fun v hv => Nat.lt_of_lt_of_le (?_ : v < 2 ^ n) p8
      rcases (g1 v).mp (hasT_iff.mpr hv) with a | a
      · exact hb v ((h2 v).mp a)
      · have a' : v ^^^ y ∈ sums.map (·.1) := by rw [e']; exact List.mem_append_left _ a
        have := Nat.xor_lt_two_pow (hb _ ((h2 _).mp (hasT_iff.mpr a'))) hy
        rwa [Nat.xor_assoc, Nat.xor_self, Nat.xor_zero] at this
    have onew : hasT d (one ^^^ y) = false := by
      refine Bool.eq_false_iff.mpr fun z => ?_
      have om : one ∈ sums.map (·.1) := by rw [e']; exact List.mem_append_right _ (List.mem_cons_self ..)
      have os := (h2 one).mp (hasT_iff.mpr om)
      rcases (g1 _).mp z with a | a
      · have := ((h2 _).mp a).xor os
        rw [Nat.xor_comm one y, Nat.xor_assoc, Nat.xor_self, Nat.xor_zero] at this
        exact hny this
      · rw [Nat.xor_assoc, Nat.xor_self, Nat.xor_zero] at a
        have h3' : (sums.map (·.1)).Nodup := h3
        rw [e', List.nodup_append] at h3'
        exact h3'.2.2 one a one (List.mem_cons_self ..) rfl
    refine ⟨by omega, hx' _ ⟨fun v => ?_, keys_putT g2, ?_⟩⟩
    rotate_left
    · unfold putT
      rw [if_neg (by rw [onew]; simp), List.length_append, List.length_append, g3]; rfl
    rw [hasT_putT, Bool.or_eq_true, decide_eq_true_iff, g1 v, List.mem_append, List.mem_singleton]
    constructor
    · rintro (a | a | a)
      · right; right
        rw [← a, Nat.xor_assoc, Nat.xor_self, Nat.xor_zero]
      · exact .inl a
      · exact .inr (.inl a)
    · rintro (a | a | a)
      · exact .inr (.inl a)
      · exact .inr (.inr a)
      · left; rw [← a, Nat.xor_assoc, Nat.xor_self, Nat.xor_zero]
  · rintro d ⟨g1, g2, g3⟩
    refine hk d (fun v => ?_) g2 (by rw [g3, List.length_map]; omega)
    rw [Span.snoc]
    refine (g1 v).trans ?_
    rw [h2 v, ← hasT_iff, h2]
end My
namespace My
open Wk
theorem par_drop : ∀ n : Nat, 0 < n → par (n &&& (n - 1)) = !par n := by
  intro n
  induction n using Nat.strongRecOn with
  | ind n ih =>
    intro hn
    rw [par_step (n &&& (n - 1)), par_step n, half_and, Nat.testBit_and]
    rcases Nat.mod_two_eq_zero_or_one n with e | e
    · have e1 : (n - 1) / 2 = n / 2 - 1 := by omega
      have e2 : n.testBit 0 = false := by rw [Nat.testBit_zero, decide_eq_false (by omega)]
      rw [e1, ih (n / 2) (by omega) (by omega), e2]
      simp
    · have e1 : (n - 1) / 2 = n / 2 := by omega
      have e2 : n.testBit 0 = true := by rw [Nat.testBit_zero, decide_eq_true e]
      have e3 : (n - 1).testBit 0 = false := by rw [Nat.testBit_zero, decide_eq_false (by omega)]
      rw [e1, Nat.and_self, e2, e3]
      simp
theorem w_odd {n : Nat} {R : Bool → Prop} (h : R (par n)) : W_odd n R := by
  refine whileW_ind (fun s => xor s.2 (par s.1) = par n) (fun s => s.1) (by simp) ?_
  rintro ⟨m, o⟩ nx h1 hn
  show if decide (0 < m) = true then _ else _
  by_cases hp : 0 < m
  · rw [if_pos (decide_eq_true hp)]
    refine ⟨hp, ?_⟩
    rintro _ rfl _ rfl
    have hle : m &&& (m - 1) ≤ m - 1 := Nat.and_le_right
    refine hn _ ?_ (by show m &&& (m - 1) < m; omega)
    show xor (decide (¬ (o = true))) (par (m &&& (m - 1))) = par n
    rw [par_drop m hp, ← h1]
    cases o <;> cases par m <;> rfl
  · rw [if_neg (by simpa using hp)]
    have : m = 0 := by omega
    subst this
    show R o
    simp [par_zero] at h1
    rw [h1]; exact h
end My
namespace My
open Wk
/-- masks, each with a bit that no other one has -/
def Priv (zs : List (Nat × Nat)) : Prop := zs.Pairwise (fun p q => p.1.testBit q.2 = false ∧ q.1.testBit p.2 = false) ∧ ∀ p ∈ zs, p.1.testBit p.2 = true
end My
namespace My
open Wk
/-- a mask that is even with all rows, and of the bits that no kept row has for its highest has bit alone -/
structure Crs (rows : List Nat) (kept : List (Nat × (Nat × Nat))) (bit m : Nat) : Prop where
  ev : ∀ v, Span rows v → par (v &&& m) = false
  own : ∀ b, hasT kept (b + 1) = false → (m.testBit b = true ↔ b = bit)
  lowz : ∀ j, j < bit → m.testBit j = false
  low : ∀ w, bit < w → (∀ t, hasT kept t = true → t ≤ w) → m < 2 ^ w
theorem and_xor (a b c : Nat) : (a ^^^ b) &&& c = (a &&& c) ^^^ (b &&& c) := Nat.eq_of_testBit_eq fun i => by
  rw [Nat.testBit_and, Nat.testBit_xor, Nat.testBit_xor, Nat.testBit_and, Nat.testBit_and]
  cases a.testBit i <;> cases b.testBit i <;> cases c.testBit i <;> rfl
theorem and_xor' (a b c : Nat) : a &&& (b ^^^ c) = (a &&& b) ^^^ (a &&& c) := by rw [Nat.and_comm, and_xor, Nat.and_comm b, Nat.and_comm c]
theorem and_pow {a k : Nat} : a &&& 2 ^ k = if a.testBit k = true then 2 ^ k else 0 := Nat.eq_of_testBit_eq fun i => by
  rw [Nat.testBit_and, Nat.testBit_two_pow]
  by_cases e : k = i
  · subst e
    by_cases q : a.testBit k = true
    · rw [if_pos q, q, Nat.testBit_two_pow]; simp
    · rw [if_neg q]; simp [q]
  · by_cases q : a.testBit k = true
    · rw [if_pos q, Nat.testBit_two_pow, decide_eq_false e]; simp
    · rw [if_neg q, decide_eq_false e]; simp
theorem w_crossing {rows : List Nat} {z : List (Nat × (Nat × Nat)) × List Nat × List Nat} (S : StepsOk rows z) {bit : Nat} (hb : bit < 100000000) (hbt : hasT z.1 (bit + 1) = false) (hk : z.1.length < 1000000) (ht : ∀ t, hasT z.1 t = true → t < 100000000) {R : Nat → Prop} (h : ∀ m, Crs rows z.1 bit m → R m) : W_Steps_crossing z bit R := by
  refine ⟨hb, ?_⟩
  rintro _ rfl
  refine ⟨hk, fun ys hp hs => ?_⟩
  have key : ∀ t, t ∈ ys ↔ hasT z.1 t = true := fun t => by rw [hp.mem_iff, hasT_iff]
  have nd : ys.Nodup := hp.nodup_iff.mpr S.nd
  refine forW_ind (fun pre (m : Nat) => (∀ t l p, t ∈ pre → valT z.1 t = some (l, p) → par (l &&& m) = false) ∧ (∀ b, m.testBit b = true → b = bit ∨ (b + 1) ∈ pre) ∧ m.testBit bit = true ∧ ∀ j, j < bit → m.testBit j = false) ⟨fun t l p ht => (by cases ht), fun b hb => .inl ?_, by rw [Nat.testBit_two_pow]; simp, fun j hj => by rw [Nat.testBit_two_pow, decide_eq_false (by omega)]⟩ ?_ ?_
  · rw [Nat.testBit_two_pow] at hb; exact (of_decide_eq_true hb).symm
  · rintro pre t post m nx bk e ⟨h1, h2, h3, h4⟩ hx _
    have tm : t ∈ ys := by rw [e]; exact List.mem_append_right _ (List.mem_cons_self ..)
    have tk := (key t).mp tm
    obtain ⟨⟨l, p⟩, hv⟩ : ∃ x, valT z.1 t = some x := by
      unfold hasT at tk
      cases hv : valT z.1 t with
      | none => rw [hv] at tk; cases tk
      | some x => exact ⟨x, rfl⟩
    obtain ⟨l0, lb, lc, lp⟩ := S.ki.ent t l p hv
    have tpos : 0 < t := by rw [← lb]; exact bits_pos l0
    have prelt : ∀ t' ∈ pre, t' < t := fun t' ht' => by
      rw [e, List.pairwise_append] at hs
      have a := hs.2.2 t' ht' t (List.mem_cons_self ..)
      rw [e, List.nodup_append] at nd
      have b := nd.2.2 t' ht' t (List.mem_cons_self ..)
      omega
    refine ⟨(l, p), hv, (l, p), hv, fun row1 erow => ?_⟩
    rw [show row1 = l from erow]
    refine w_even ?_
    have tlt : l.testBit (t - 1) = true := by rw [← lb]; exact bits_bit l0
    have mt : t ∈ pre ++ [t] := List.mem_append_right _ (List.mem_singleton_self _)
    by_cases q : par (l &&& m) = true
    · rw [q, if_neg (by simp)]
      refine ⟨tpos, by have := ht t tk; omega, ?_⟩
      rintro _ rfl
      have tge : bit ≤ t - 1 := by
        refine Nat.le_of_not_lt fun z0 => ?_
        have : l &&& m = 0 := Nat.eq_of_testBit_eq fun i => by
          rw [Nat.testBit_and, Nat.zero_testBit]
          by_cases o : i < bit
          · rw [h4 i o, Bool.and_false]
          · rw [testBit_big (lt_bits l) (by omega), Bool.false_and]
        rw [this, par_zero] at q; cases q
      refine hx _ ⟨fun t' l' p' ht' hv' => ?_, fun b hb' => ?_, ?_, fun j hj => by rw [Nat.testBit_xor, h4 j hj, Nat.testBit_two_pow, decide_eq_false (by omega)]; rfl⟩
      · rw [and_xor', par_xor, and_pow]
        rcases List.mem_append.mp ht' with g | g
        · obtain ⟨l0', lb', _, _⟩ := S.ki.ent t' l' p' hv'
          have := prelt t' g
          rw [h1 t' l' p' g hv', testBit_big (lt_bits l') (by omega), if_neg (by simp), par_zero]; rfl
        · rw [List.mem_singleton.mp g, hv] at hv'
          obtain ⟨rfl, rfl⟩ := Prod.ext_iff.mp (Option.some.inj hv')
          show xor (par (l &&& m)) (par (if l.testBit (t - 1) = true then 2 ^ (t - 1) else 0)) = false
          rw [q, tlt, if_pos rfl, par_two_pow]; rfl
      · rw [Nat.testBit_xor, Nat.testBit_two_pow] at hb'
        by_cases eb : t - 1 = b
        · right
          have : b + 1 = t := by omega
          rw [this]; exact mt
        · rw [decide_eq_false eb, Bool.xor_false] at hb'
          exact (h2 b hb').imp id fun g => List.mem_append_left _ g
      · rw [Nat.testBit_xor, h3, Nat.testBit_two_pow, decide_eq_false (fun eb => ?_)]; rfl
        have : bit + 1 = t := by omega
        rw [this, tk] at hbt; cases hbt
    · have q' : par (l &&& m) = false := by simpa using q
      rw [q', if_pos (by rfl)]
      refine hx _ ⟨fun t' l' p' ht' hv' => ?_, fun b hb' => (h2 b hb').imp id fun g => List.mem_append_left _ g, h3, h4⟩
      rcases List.mem_append.mp ht' with g | g
      · exact h1 t' l' p' g hv'
      · rw [List.mem_singleton.mp g, hv] at hv'
        obtain ⟨rfl, rfl⟩ := Prod.ext_iff.mp (Option.some.inj hv')
        exact q'
  · rintro m ⟨h1, h2, h3, h4⟩
    refine h m ⟨fun v => ?_, fun b hb' => ⟨fun hm => ?_, fun e => by subst e; exact h3⟩, h4, fun w hw hw2 => ?_⟩
    · -- each sum is taken down by what is kept
      induction hn : bits v using Nat.strongRecOn generalizing v with
      | ind n ih =>
        intro hs'
        by_cases v0 : v = 0
        · subst v0; rw [Nat.zero_and, par_zero]
        · have hk' := S.ki.top v v0 hs'
          obtain ⟨⟨l, p⟩, hv⟩ : ∃ x, valT z.1 (bits v) = some x := by
            unfold hasT at hk'
            cases hv : valT z.1 (bits v) with
            | none => rw [hv] at hk'; cases hk'
            | some x => exact ⟨x, rfl⟩
          obtain ⟨l0, lb, lc, lp⟩ := S.ki.ent _ l p hv
          have e : v = (v ^^^ l) ^^^ l := by rw [Nat.xor_assoc, Nat.xor_self, Nat.xor_zero]
          have := ih (bits (v ^^^ l)) (by rw [← hn]; exact bits_xor_eq lb.symm v0) _ rfl (hs'.xor ⟨p, lc⟩)
          rw [e, and_xor, par_xor, this, h1 _ l p ((key _).mpr hk') hv]; rfl
    · rcases h2 b hm with g | g
      · exact g
      · rw [(key _).mp g] at hb'; cases hb'
    · refine Nat.lt_pow_two_of_testBit _ fun j hj => ?_
      refine Bool.eq_false_iff.mpr fun hm => ?_
      rcases h2 j hm with g | g
      · omega
      · have := hw2 _ ((key _).mp g); omega
end My
namespace My
open Wk
theorem kept_has {kept : List (Nat × (Nat × Nat))} {t : Nat} (h : hasT kept t = true) : ∃ l p, valT kept t = some (l, p) := by
  unfold hasT at h
  cases hv : valT kept t with
  | none => rw [hv] at h; cases h
  | some x => exact ⟨x.1, x.2, rfl⟩
theorem Span.mem {rows : List Nat} {r : Nat} (hr : r ∈ rows) : Span rows r := by
  obtain ⟨us, vs, er⟩ := List.append_of_mem hr
  rw [er]
  have : ∀ (vs us : List Nat), Span us r → Span (us ++ vs) r := by
    intro vs
    induction vs with
    | nil => intro us h; rwa [List.append_nil]
    | cons v vs ih => intro us h; rw [show us ++ v :: vs = (us ++ [v]) ++ vs by simp]; exact ih _ (Span.snoc.mpr (.inl h))
  rw [show us ++ r :: vs = (us ++ [r]) ++ vs by simp]
  exact this vs _ (Span.snoc.mpr (.inr (by rw [Nat.xor_self]; exact Span.zero _)))
end My
namespace My
open Wk
theorem sub_len : ∀ {l1 l2 : List Nat}, l1.Nodup → (∀ x ∈ l1, x ∈ l2) → l1.length ≤ l2.length
  | [], _, _, _ => Nat.zero_le _
  | x :: l1, l2, hn, h => by
    obtain ⟨h1, h2⟩ := List.nodup_cons.mp hn
    have hx := h x (List.mem_cons_self ..)
    have := sub_len (l2 := l2.erase x) h2 fun y hy => (List.mem_erase_of_ne fun e => by subst e; exact h1 hy).mpr (h y (List.mem_cons_of_mem _ hy))
    rw [List.length_erase_of_mem hx] at this
    have := List.length_pos_of_mem hx
    rw [List.length_cons]; omega
theorem filter_two (p : Nat → Bool) : ∀ l : List Nat, l.length = (l.filter p).length + (l.filter fun b => !p b).length
  | [] => rfl
  | x :: l => by
    have := filter_two p l
    rw [List.length_cons]
    cases h : p x with
    | true => rw [List.filter_cons_of_pos h, List.filter_cons_of_neg (by simp [h]), List.length_cons]; omega
    | false => rw [List.filter_cons_of_neg (by simp [h]), List.filter_cons_of_pos (by simp [h]), List.length_cons]; omega
theorem count_free {keys : List Nat} {w : Nat} (hn : keys.Nodup) (h : ∀ t ∈ keys, 1 ≤ t ∧ t ≤ w) : ((List.range w).filter fun b => decide (b + 1 ∉ keys)).length = w - keys.length := by
  have e1 : ((List.range w).filter fun b => decide (b + 1 ∉ keys)).length + ((List.range w).filter fun b => !decide (b + 1 ∉ keys)).length = w := by
    have := filter_two (fun b => decide (b + 1 ∉ keys)) (List.range w)
    rw [List.length_range] at this
    exact this.symm
  have e2 : ((List.range w).filter fun b => !decide (b + 1 ∉ keys)).length = keys.length := by
    refine Nat.le_antisymm ?_ ?_
    · rw [← List.length_map (f := fun b => b + 1)]
      refine sub_len ?_ fun x hx => ?_
      · refine List.pairwise_map.mpr (((List.nodup_range).filter _).imp fun h e => h (by omega))
      · obtain ⟨b, hb, rfl⟩ := List.mem_map.mp hx
        have := (List.mem_filter.mp hb).2
        simpa using this
    · rw [← List.length_map (as := keys) (f := fun t => t - 1)]
      refine sub_len ?_ fun x hx => ?_
      · refine List.pairwise_map.mpr (List.Pairwise.imp_of_mem (fun {a b} ha hb hne e => ?_) hn)
        have := h a ha
        have := h b hb
        omega
      · obtain ⟨t, ht, rfl⟩ := List.mem_map.mp hx
        have := h t ht
        refine List.mem_filter.mpr ⟨List.mem_range.mpr (by omega), ?_⟩
        rw [show t - 1 + 1 = t by omega]
        simpa using ht
  omega
theorem w_across {rows : List Nat} {w : Nat} (hl : rows.length < 1000000) (hw : w ≤ 1000) (hr : ∀ r ∈ rows, r < 2 ^ w) {R : List Nat → Prop}
    (h : ∀ zs : List (Nat × Nat), Priv zs → zs.length + (fndP rows).length = w → (∀ p ∈ zs, p.1 < 2 ^ w ∧ ∀ v, Span rows v → par (v &&& p.1) = false) → (∀ m, m < 2 ^ w → (∀ v, Span rows v → par (v &&& m) = false) → Span (zs.map (·.1)) m) → R (zs.map (·.1))) : W_across rows w R := by
  refine w_Steps_init hl fun z S => ?_
  have tw : ∀ t, hasT z.1 t = true → 1 ≤ t ∧ t ≤ w := fun t ht => by
    obtain ⟨⟨l, p⟩, hv⟩ : ∃ x, valT z.1 t = some x := by
      unfold hasT at ht
      cases hv : valT z.1 t with
      | none => rw [hv] at ht; cases ht
      | some x => exact ⟨x, rfl⟩
    obtain ⟨l0, lb, lc, lp⟩ := S.ki.ent t l p hv
    refine ⟨by rw [← lb]; exact bits_pos l0, ?_⟩
    rw [← lb]
    exact bits_le.mpr (by rw [← lc]; exact comb_lt hr)
  have kw : z.1.length ≤ w := by
    rw [← List.length_map (f := fun q : Nat × (Nat × Nat) => q.1), ← List.length_map (f := fun t => t - 1)]
    refine nodup_len (List.pairwise_map.mpr (List.Pairwise.imp_of_mem (fun {a b} ha hb hne e => ?_) S.nd)) fun x hx => ?_
    · have := tw a (hasT_iff.mpr ha)
      have := tw b (hasT_iff.mpr hb)
      omega
    · obtain ⟨t, ht, rfl⟩ := List.mem_map.mp hx
      have := tw t (hasT_iff.mpr ht)
      omega
  refine ⟨by omega, ?_⟩
  refine compW_rel (fun b o => if hasT z.1 (b + 1) = true then o = none else ∃ m, o = some m ∧ Crs rows z.1 b m) (fun b hb kk q => ?_) fun ys hy => ?_
  · have hb' := List.mem_range.mp hb
    by_cases c : hasT z.1 (b + 1) = true
    · rw [if_neg (fun e => e c)]
      exact q none (by rw [if_pos c])
    · rw [if_pos c]
      exact w_crossing S (by omega) (by simpa using c) (by omega) (fun t ht => by have := tw t ht; omega) fun m cm => q (some m) (by rw [if_neg c]; exact ⟨m, rfl, cm⟩)
  · have go : ∀ (xs : List Nat) (ys : List Nat), CR (fun b o => if hasT z.1 (b + 1) = true then o = none else ∃ m, o = some m ∧ Crs rows z.1 b m) xs ys → ∃ zs : List (Nat × Nat), ys = zs.map (·.1) ∧ zs.map (·.2) = (xs.filter fun b => decide (b + 1 ∉ z.1.map (·.1))) ∧ ∀ p ∈ zs, hasT z.1 (p.2 + 1) = false ∧ Crs rows z.1 p.2 p.1 := by
      intro xs
      induction xs with
      | nil => rintro ys rfl; exact ⟨[], rfl, rfl, fun p hp => by cases hp⟩
      | cons b xs ih =>
        rintro ys ⟨o, ys', ho, rfl, hc⟩
        obtain ⟨zs, rfl, e2, e3⟩ := ih ys' hc
        by_cases c : hasT z.1 (b + 1) = true
        · rw [if_pos c] at ho
          subst ho
          exact ⟨zs, rfl, by rw [e2, List.filter_cons_of_neg (by simpa using hasT_iff.mp c)], e3⟩
        · rw [if_neg c] at ho
          obtain ⟨m, rfl, cm⟩ := ho
          refine ⟨(m, b) :: zs, rfl, ?_, fun p hp => ?_⟩
          · have : b + 1 ∉ z.1.map (·.1) := fun e => c (hasT_iff.mpr e)
            rw [List.map_cons, e2, List.filter_cons_of_pos (by simpa using this)]
          · rcases List.mem_cons.mp hp with e | e
            · subst e; exact ⟨by simpa using c, cm⟩
            · exact e3 p e
    obtain ⟨zs, rfl, e2, e3⟩ := go _ _ hy
    have zl : zs.length + (fndP rows).length = w := by
      have a := congrArg List.length e2
      rw [List.length_map, count_free S.nd (fun t ht => tw t (hasT_iff.mpr ht)), List.length_map] at a
      have := S.kl
      rw [← S.fnd]; omega
    have nd2 : (zs.map (·.2)).Nodup := by rw [e2]; exact (List.nodup_range).filter _
    have lt2 : ∀ p ∈ zs, p.2 < w := fun p hp => by
      have : p.2 ∈ zs.map (·.2) := List.mem_map.mpr ⟨p, hp, rfl⟩
      rw [e2] at this
      exact List.mem_range.mp (List.mem_filter.mp this).1
    have evX : ∀ (a b : Nat), (∀ v, Span rows v → par (v &&& a) = false) → (∀ v, Span rows v → par (v &&& b) = false) → ∀ v, Span rows v → par (v &&& (a ^^^ b)) = false := fun a b h1 h2 v hv => by
      rw [and_xor', par_xor, h1 v hv, h2 v hv]; rfl
    have full : ∀ m, m < 2 ^ w → (∀ v, Span rows v → par (v &&& m) = false) → Span (zs.map (·.1)) m := fun m hm hev => by
      have build : ∀ xs : List (Nat × Nat), (∀ p ∈ xs, p ∈ zs) → (xs.map (·.2)).Nodup → ∃ X, Span (zs.map (·.1)) X ∧ (∀ v, Span rows v → par (v &&& X) = false) ∧ ∀ b, hasT z.1 (b + 1) = false → (X.testBit b = true ↔ m.testBit b = true ∧ b ∈ xs.map (·.2)) := by
        intro xs
        induction xs with
        | nil => exact fun _ _ => ⟨0, Span.zero _, fun v _ => by rw [Nat.and_zero, par_zero], fun b _ => Iff.intro (fun h => (by rw [Nat.zero_testBit] at h; cases h)) (fun h => (by cases h.2))⟩
        | cons p xs ih =>
          intro hx hn
          rw [List.map_cons, List.nodup_cons] at hn
          obtain ⟨X, h1, h2, h3⟩ := ih (fun q hq => hx q (List.mem_cons_of_mem _ hq)) hn.2
          have pm := hx p (List.mem_cons_self ..)
          have pc := e3 p pm
          by_cases q : m.testBit p.2 = true
          · refine ⟨X ^^^ p.1, h1.xor (Span.mem (List.mem_map.mpr ⟨p, pm, rfl⟩)), evX _ _ h2 pc.2.ev, fun b hb => ?_⟩
            rw [Nat.testBit_xor, List.map_cons, List.mem_cons]
            have o := pc.2.own b hb
            by_cases eb : b = p.2
            · subst eb
              have : X.testBit p.2 = false := Bool.eq_false_iff.mpr fun h => hn.1 ((h3 _ hb).mp h).2
              rw [this, o.mpr rfl]
              exact ⟨fun _ => ⟨q, .inl rfl⟩, fun _ => rfl⟩
            · have : p.1.testBit b = false := Bool.eq_false_iff.mpr fun h => eb (o.mp h)
              rw [this, Bool.xor_false, h3 b hb]
              exact ⟨fun h => ⟨h.1, .inr h.2⟩, fun h => ⟨h.1, h.2.resolve_left eb⟩⟩
          · refine ⟨X, h1, h2, fun b hb => ?_⟩
            rw [h3 b hb, List.map_cons, List.mem_cons]
            exact ⟨fun h => ⟨h.1, .inr h.2⟩, fun h => ⟨h.1, h.2.resolve_left fun e => q (by rw [← e]; exact h.1)⟩⟩
      obtain ⟨X, h1, h2, h3⟩ := build zs (fun _ h => h) nd2
      have e : m ^^^ X = 0 := by
        refine Nat.eq_of_testBit_eq fun i => ?_
        rw [Nat.zero_testBit]
        induction i using Nat.strongRecOn with
        | ind i ih =>
          refine Bool.eq_false_iff.mpr fun hb => ?_
          by_cases c : hasT z.1 (i + 1) = true
          · obtain ⟨l, p, hv⟩ := kept_has c
            obtain ⟨l0, lb, lc, lp⟩ := S.ki.ent _ l p hv
            have lt : l.testBit i = true := by have := bits_bit l0; rwa [lb, Nat.add_sub_cancel] at this
            have e4 : l &&& (m ^^^ X) = 2 ^ i := Nat.eq_of_testBit_eq fun j => by
              rw [Nat.testBit_and, Nat.testBit_two_pow]
              rcases Nat.lt_trichotomy j i with o | o | o
              · rw [ih j o, Bool.and_false, decide_eq_false (by omega)]
              · subst o
                rw [hb, lt, decide_eq_true rfl]; rfl
              · rw [testBit_big (lt_bits l) (by omega), Bool.false_and, decide_eq_false (by omega)]
            have := evX m X hev h2 l ⟨p, lc⟩
            rw [e4, par_two_pow] at this; cases this
          · have c' : hasT z.1 (i + 1) = false := by simpa using c
            rw [Nat.testBit_xor] at hb
            by_cases iw : i < w
            · have im : i ∈ zs.map (·.2) := by
                rw [e2]
                exact List.mem_filter.mpr ⟨List.mem_range.mpr iw, decide_eq_true fun z0 => c (hasT_iff.mpr z0)⟩
              have h3' := h3 i c'
              by_cases mi : m.testBit i = true
              · rw [mi, h3'.mpr ⟨mi, im⟩] at hb; cases hb
              · have xi : X.testBit i = false := Bool.eq_false_iff.mpr fun h => mi (h3'.mp h).1
                rw [xi] at hb
                exact mi (by simpa using hb)
            · rw [testBit_big hm (by omega)] at hb
              have := ((h3 i c').mp (by simpa using hb)).1
              rw [testBit_big hm (by omega)] at this; cases this
      rw [xor0 e]; exact h1
    refine h zs ⟨?_, fun p hp => ((e3 p hp).2.own p.2 (e3 p hp).1).mpr rfl⟩ zl (fun p hp => ⟨(e3 p hp).2.low w (lt2 p hp) fun t ht => (tw t ht).2, (e3 p hp).2.ev⟩) full
    refine List.Pairwise.imp_of_mem (fun {p q} hp hq hne => ?_) (List.pairwise_map.mp nd2)
    refine ⟨Bool.eq_false_iff.mpr fun e => ?_, Bool.eq_false_iff.mpr fun e => ?_⟩
    · exact hne (((e3 p hp).2.own q.2 (e3 q hq).1).mp e).symm
    · exact hne (((e3 q hq).2.own p.2 (e3 p hp).1).mp e)
end My
namespace My
open Wk
theorem w_sum_for {rows : List Nat} {wish w : Nat} (hl : rows.length < 1000000) (hw : w < 1000000) (hr : ∀ r ∈ rows, r < 2 ^ w) (hwi : wish < 2 ^ w) {R : PySem.Str × (Sum (List Nat) Nat) → Prop}
    (hs : Span rows wish → ∀ D, D < 2 ^ rows.length → comb rows D = wish → R (PySem.Str.ofString "sum", Sum.inl (bl rows.length D)))
    (hn : ¬ Span rows wish → ∀ m, (∀ v, Span rows v → par (v &&& m) = false) → par (wish &&& m) = true → m < 2 ^ w → R (PySem.Str.ofString "no", Sum.inr m)) : W_sum_for rows wish R := by
  refine w_Steps_init hl fun z S => w_lowered S.ki fun y L => ?_
  have hz := L.zero S.ki
  obtain ⟨D, hD, e1, e2⟩ := L.by_
  rw [Nat.zero_xor] at e2
  by_cases q : y.1 = 0
  · rw [if_pos q]
    rw [e2]
    have hc : comb rows D = wish := (xor0 (by rw [← e1]; exact q)).symm
    exact w_bits_of hl hD (hs (hz.mp q) D hD hc)
  · rw [if_neg q]
    have bp := bits_pos q
    have tw : ∀ t, hasT z.1 t = true → t ≤ w := fun t ht => by
      obtain ⟨l, p, hv⟩ := kept_has ht
      obtain ⟨l0, lb, lc, lp⟩ := S.ki.ent t l p hv
      rw [← lb]
      exact bits_le.mpr (by rw [← lc]; exact comb_lt hr)
    have yl : y.1 < 2 ^ w := by rw [e1]; exact Nat.xor_lt_two_pow hwi (comb_lt hr)
    have yb : bits y.1 ≤ w := bits_le.mpr yl
    have no := L.no
    refine ⟨bp, w_crossing S (by omega) (by rw [Nat.sub_add_cancel bp]; exact no) (by have := S.kl; have := S.len; omega) (fun t ht => by have := tw t ht; omega) fun m C => hn (fun z0 => q (hz.mpr z0)) m C.ev ?_ (C.low w (by omega) tw)⟩
    have e3 : wish = y.1 ^^^ comb rows D := by rw [e1, Nat.xor_assoc, Nat.xor_self, Nat.xor_zero]
    rw [e3, and_xor, par_xor, C.ev _ ⟨D, rfl⟩, Bool.xor_false]
    have e4 : y.1 &&& m = 2 ^ (bits y.1 - 1) := Nat.eq_of_testBit_eq fun i => by
      rw [Nat.testBit_and, Nat.testBit_two_pow]
      rcases Nat.lt_trichotomy i (bits y.1 - 1) with o | o | o
      · rw [C.lowz i o, Bool.and_false, decide_eq_false (by omega)]
      · subst o
        rw [bits_bit q, (C.own _ (by rw [Nat.sub_add_cancel bp]; exact no)).mpr rfl, decide_eq_true rfl]; rfl
      · rw [testBit_big (lt_bits y.1) (by omega), Bool.false_and, decide_eq_false (by omega)]
    rw [e4, par_two_pow]
end My
namespace My
open Wk
theorem w_are_places {ps : List Nat} {n : Nat} (hp : ps.Pairwise (· < ·)) (hn : ∀ p ∈ ps, p < n) {R : Bool → Prop} (h : R true) : W_are_places ps n R := by
  rintro _ rfl
  refine forW_ind (fun pre (a : Int) => a < 0 ∧ pre = [] ∨ ∃ x, pre.getLast? = some x ∧ a = (x : Int)) (.inl ⟨by decide, rfl⟩) ?_ (fun _ _ => h)
  rintro pre x post a nx bk e ha hx _
  have hxm : x ∈ ps := by rw [e]; exact List.mem_append_right _ (List.mem_cons_self ..)
  have hlt : a < (x : Int) := by
    rcases ha with ⟨a0, _⟩ | ⟨y, hy, rfl⟩
    · omega
    · have hym : y ∈ pre := List.mem_of_getLast? hy
      rw [e, List.pairwise_append] at hp
      have := hp.2.2 y hym x (List.mem_cons_self ..)
      omega
  rw [if_neg (fun z => z ⟨hlt, hn x hxm⟩)]
  rintro _ rfl
  exact hx _ (.inr ⟨x, by rw [List.getLast?_append]; simp, rfl⟩)
theorem sum_bl : ∀ (k n : Nat), ((bl k n).map (2 ^ ·)).sum = n % 2 ^ k
  | 0, n => by simp [bl, Nat.mod_one]
  | k + 1, n => by
    rw [bl_snoc, List.map_append, List.sum_append, sum_bl k n, Nat.mod_pow_succ]
    have e := Nat.testBit_eq_decide_div_mod_eq (x := n) (i := k)
    by_cases q : n.testBit k = true
    · rw [if_pos q]
      rw [q] at e
      have : n / 2 ^ k % 2 = 1 := by simpa using e.symm
      rw [this]; simp
    · rw [if_neg q]
      have : n / 2 ^ k % 2 = 0 := by
        have : ¬ n / 2 ^ k % 2 = 1 := by intro z; rw [e] at q; simp [z] at q
        omega
      rw [this]; simp
theorem bl_rise (k n : Nat) : (bl k n).Pairwise (· < ·) := List.pairwise_lt_range.sublist List.filter_sublist
theorem w_sum_at {rows : List Nat} {g : Nat} {R : Nat → Prop} (h : R (comb rows g)) : W_sum_at rows (bl rows.length g) R := by
  suffices f : ∀ k, k ≤ rows.length → ∀ {R : Nat → Prop}, R (comb (rows.take k) g) → W_sum_at rows (bl k g) R from f _ (Nat.le_refl _) (by rw [List.take_length]; exact h)
  intro k
  induction k with
  | zero => intro _ R h; exact h
  | succ k ih =>
    intro hk R h
    have e : rows.take (k + 1) = rows.take k ++ [rows[k]'(by omega)] := List.take_succ_eq_append_getElem (by omega)
    have el : (rows.take k).length = k := by rw [List.length_take]; omega
    rw [e, comb_snoc, el] at h
    unfold W_sum_at
    rw [bl_snoc, forW_append]
    refine ih (by omega) (R := fun acc => forW _ acc _ _) ?_
    by_cases q : g.testBit k = true
    · rw [if_pos q] at h ⊢
      exact ⟨rows[k]'(by omega), List.getElem?_eq_getElem (by omega), fun _ e => by subst e; exact h⟩
    · rw [if_neg q] at h ⊢
      rw [Nat.xor_zero] at h; exact h
end My
namespace My
open Wk
theorem w_rank {rows : List Nat} (hl : rows.length < 1000000) {R : Nat → Prop} (h : R (fndP rows).length) : W_rank rows R := w_Steps_init hl fun z S => by rw [S.fnd]; exact h
theorem w_sums_all {ss : List Nat} {n : Nat} (hn : n ≤ 8) (hs : ∀ x ∈ ss, x < 2 ^ n) {R : List (Nat × Bool) → Prop} (h : ∀ d : List (Nat × Bool), (∀ v, hasT d v = true ↔ Span ss v) → d.length = 2 ^ (fndP ss).length → R d) : W_sums ss R := by
  refine forW_ind (fun pre (d : List (Nat × Bool)) => (∀ v, hasT d v = true ↔ Span pre v) ∧ (d.map (·.1)).Nodup ∧ d.length = 2 ^ (fndP pre).length) ⟨fun v => ?_, by simp, rfl⟩ ?_ ?_
  · show hasT [(0, true)] v = true ↔ Span [] v
    rw [Span.nil, hasT_iff]
    exact List.mem_singleton
  · rintro pre y post sums nx bk e ⟨h2, h3', h4⟩ hx _
    have h3 : (List.map (fun q : Nat × Bool => q.1) sums).Nodup := h3'
    have ym : y ∈ ss := by rw [e]; exact List.mem_append_right _ (List.mem_cons_self ..)
    have hb : ∀ v, Span pre v → v < 2 ^ n := fun v ⟨S, e2⟩ => by rw [← e2]; exact comb_lt fun r hr => hs r (by rw [e]; exact List.mem_append_left _ hr)
    by_cases q : hasT sums y = true
    · rw [if_neg (fun z => z q)]
      have sq := (h2 y).mp q
      refine hx _ ⟨fun v => ?_, h3, ?_⟩
      · rw [Span.snoc]
        refine (h2 v).trans ⟨.inl, fun z => z.elim id fun a => ?_⟩
        have := a.xor sq
        rwa [Nat.xor_assoc, Nat.xor_self, Nat.xor_zero] at this
      · rw [fndP_snoc, if_pos sq, List.append_nil]; exact h4
    · rw [if_pos q]
      have sq : ¬ Span pre y := fun z => q ((h2 y).mpr z)
      refine w_sums hn (hs y ym) h2 hb h3 sq fun d g1 g2 g3 => hx _ ⟨g1, g2, ?_⟩
      rw [fndP_snoc, if_neg sq, List.length_append, List.length_singleton, Nat.pow_succ, g3, h4, Nat.mul_comm]
  · rintro d ⟨h2, _, h4⟩
    exact h d h2 h4
theorem sum_ne_no : ¬ (PySem.Str.ofString "sum" = PySem.Str.ofString "no") := by decide +kernel
theorem w_barred {rows : List Nat} {wish m : Nat} (hl : rows.length < 1000000) (hr : ∀ r ∈ rows, r < 2 ^ 300) (hm : m < 2 ^ 300) (he : ∀ v, Span rows v → par (v &&& m) = false) (ho : par (wish &&& m) = true) {R : Bool → Prop} (h : R true) : W_barred rows wish (PySem.Str.ofString "no", Sum.inr m) R := by
  refine jnI ?_
  rw [if_neg (fun z => z rfl)]
  refine ⟨m, rfl, w_odd ?_⟩
  rw [Nat.and_comm, ho]
  show if false = true then _ else _
  rw [if_neg (by simp)]
  refine forW_unit (fun r hr' nx bk q => ⟨m, rfl, w_odd ?_⟩) ?_
  · rw [Nat.and_comm, he r (Span.mem hr'), if_neg (by simp)]; exact q
  · refine w_across hl (by decide) hr fun zs _ hlz hp full => ⟨m, rfl, ?_⟩
    have sp := full m hm he
    refine w_sum_for (by rw [List.length_map]; omega) (by decide : 300 < 1000000) (fun r hr' => ?_) hm (fun _ D _ _ => ?_) fun z => absurd sp z
    · obtain ⟨p, hp', rfl⟩ := List.mem_map.mp hr'
      exact (hp p hp').1
    · rw [decide_eq_true rfl]; exact h
theorem w_law {s : List Int} (hs : s.length ≤ 63) {R : Bool → Prop} (h : R true) : W_law s R := by
  refine w_cell ?_
  rintro _ rfl
  have hm := modN_lt (i := cellV s 0 / ((2 : Nat) : Int)) (show 0 < 6 by decide)
  refine w_rows hs ⟨by omega, by omega⟩ fun ss ws hl hb hw hI hws => ?_
  generalize hn : 1 + modN (cellV s 0 / ((2 : Nat) : Int)) 6 = n at hb hw hws ⊢
  have hn6 : n ≤ 6 := by omega
  refine w_sums_all (by omega) hb fun d hd hdl => ?_
  have hinj : ∀ a, a < 2 ^ n → comb ws a = 0 → a = 0 := fun a ha hz => hI.inj (by rw [hw]; exact ha) hz
  have e : fndP (ss.map (comb ws)) = fndP ss := fndP_map (comb ws) (comb_zero ws) (comb_xor ws) hinj hb
  have sp : ∀ v, v < 2 ^ n → (Span (ss.map (comb ws)) (comb ws v) ↔ Span ss v) := fun v hv => Span.inj (comb ws) (comb_zero ws) (comb_xor ws) hinj hb hv
  have hll : (ss.map (comb ws)).length ≤ 67 := by rw [List.length_map]; exact hl
  have cb : ∀ v, comb ws v < 2 ^ 300 := fun v => comb_lt fun w hw' => Nat.lt_of_lt_of_le (hws w hw').1 (Nat.pow_le_pow_right (by decide) (by decide))
  have hr3 : ∀ r ∈ ss.map (comb ws), r < 2 ^ 300 := fun r hr => by
    obtain ⟨x, _, rfl⟩ := List.mem_map.mp hr
    exact cb x
  refine w_rank (by show (ss.map (comb ws)).length < 1000000; omega) ?_
  show ((fndP (ss.map (comb ws))).length < 100000000) ∧ _
  rw [e]
  have fl := fndP_len ss
  have p6 : (2 : Nat) ^ n ≤ 64 := Nat.pow_le_pow_right (n := 2) (by decide) hn6
  refine ⟨by omega, ?_⟩
  rw [if_neg (fun z => z hdl.symm)]
  refine ⟨by omega, by omega, ?_⟩
  generalize hrw : ss.map (comb ws) = rows at sp hll hr3 ⊢
  refine forW_foldI (fun (b : Nat) (sm : Nat) => if hasT d sm = true then b else if b < 2 then b + 1 else b) (fun _ => True) trivial (fun sm hsm b nx bk _ hx => ?_) (fun _ _ _ _ => trivial) fun _ => h
  have hsm' := List.mem_range.mp hsm
  have hx := hx trivial
  refine ⟨by omega, w_bits_loop hw ?_⟩
  have key := sp sm hsm'
  refine w_sum_for (by omega) (by decide : 300 < 1000000) hr3 (cb sm) (fun hsp D _ hc => ?_) fun hsp m he ho hm => ?_
  · have t : hasT d sm = true := (hd sm).mpr (key.mp hsp)
    rw [if_pos t] at hx ⊢
    refine jnI ?_
    rw [if_neg (fun z => z rfl)]
    refine ⟨_, rfl, w_are_places (bl_rise _ _) (fun p hp => (mem_bl.mp hp).1) ?_⟩
    rw [if_pos rfl]
    refine ⟨_, rfl, w_sum_at ?_⟩
    rw [hc, decide_eq_false (fun z => z rfl)]
    show if false = true then _ else _
    rw [if_neg (by simp)]
    exact hx
  · have t : ¬ hasT d sm = true := fun z => hsp (key.mpr ((hd sm).mp z))
    rw [if_neg t] at hx ⊢
    by_cases q : b < 2
    · rw [if_pos q] at hx ⊢
      rintro _ rfl
      refine w_barred (by omega) hr3 hm he ho ?_
      rw [if_pos rfl]; exact hx
    · rw [if_neg q] at hx ⊢
      rw [if_neg (fun z => z rfl)]; exact hx
end My
namespace My
open PySem L2 Wk
theorem all_mk {l : PySem.W.OpenLaw} {w : World} {K : PySem.W.Frag} {h : Heap} {mg : Str → Option Value} {fa f_even f_bits_of f_Steps_lowered f_Steps_crossing f_Steps___init__ f_rank f_sum_for f_across f_cell f_mix f_wide f_row f_rows f_odd f_are_places f_sum_at f_sums f_barred f_law C_Steps : Addr} (X : K.In h) (G : h.Ns mainGlobals mg) (hfa : mg "law" = some (.ref fa))
    {oc_even kV_even dc_even pm_even cd_even ct_even : Value} {od_even an_even : Option Addr} {sl_even : Array (Option Value)} {oc_bits_of kV_bits_of dc_bits_of pm_bits_of cd_bits_of ct_bits_of : Value} {od_bits_of an_bits_of : Option Addr} {sl_bits_of : Array (Option Value)} {oc_Steps_lowered kV_Steps_lowered dc_Steps_lowered pm_Steps_lowered cd_Steps_lowered ct_Steps_lowered : Value} {od_Steps_lowered an_Steps_lowered : Option Addr} {sl_Steps_lowered : Array (Option Value)} {oc_Steps_crossing kV_Steps_crossing dc_Steps_crossing pm_Steps_crossing cd_Steps_crossing ct_Steps_crossing : Value} {od_Steps_crossing an_Steps_crossing : Option Addr} {sl_Steps_crossing : Array (Option Value)} {oc_Steps___init__ kV_Steps___init__ dc_Steps___init__ pm_Steps___init__ cd_Steps___init__ ct_Steps___init__ : Value} {od_Steps___init__ an_Steps___init__ : Option Addr} {sl_Steps___init__ : Array (Option Value)} {oc_rank kV_rank dc_rank pm_rank cd_rank ct_rank : Value} {od_rank an_rank : Option Addr} {sl_rank : Array (Option Value)} {oc_sum_for kV_sum_for dc_sum_for pm_sum_for cd_sum_for ct_sum_for : Value} {od_sum_for an_sum_for : Option Addr} {sl_sum_for : Array (Option Value)} {oc_across kV_across dc_across pm_across cd_across ct_across : Value} {od_across an_across : Option Addr} {sl_across : Array (Option Value)} {oc_cell kV_cell dc_cell pm_cell cd_cell ct_cell : Value} {od_cell an_cell : Option Addr} {sl_cell : Array (Option Value)} {oc_mix kV_mix dc_mix pm_mix cd_mix ct_mix : Value} {od_mix an_mix : Option Addr} {sl_mix : Array (Option Value)} {oc_wide kV_wide dc_wide pm_wide cd_wide ct_wide : Value} {od_wide an_wide : Option Addr} {sl_wide : Array (Option Value)} {oc_row kV_row dc_row pm_row cd_row ct_row : Value} {od_row an_row : Option Addr} {sl_row : Array (Option Value)} {oc_rows kV_rows dc_rows pm_rows cd_rows ct_rows : Value} {od_rows an_rows : Option Addr} {sl_rows : Array (Option Value)} {oc_odd kV_odd dc_odd pm_odd cd_odd ct_odd : Value} {od_odd an_odd : Option Addr} {sl_odd : Array (Option Value)} {oc_are_places kV_are_places dc_are_places pm_are_places cd_are_places ct_are_places : Value} {od_are_places an_are_places : Option Addr} {sl_are_places : Array (Option Value)} {oc_sum_at kV_sum_at dc_sum_at pm_sum_at cd_sum_at ct_sum_at : Value} {od_sum_at an_sum_at : Option Addr} {sl_sum_at : Array (Option Value)} {oc_sums kV_sums dc_sums pm_sums cd_sums ct_sums : Value} {od_sums an_sums : Option Addr} {sl_sums : Array (Option Value)} {oc_barred kV_barred dc_barred pm_barred cd_barred ct_barred : Value} {od_barred an_barred : Option Addr} {sl_barred : Array (Option Value)} {oc_law kV_law dc_law pm_law cd_law ct_law : Value} {od_law an_law : Option Addr} {sl_law : Array (Option Value)}
    (aC_Steps : PySem.W.nsIn K mainGlobals "Steps" = some (some (.ref C_Steps))) (pg_Steps : PySem.W.plainGet K C_Steps Str.empty = true) (hd_Steps : PySem.W.hasDictIn K C_Steps = true) (po_Steps : PySem.W.plainOver K C_Steps = true) (sa_Steps : PySem.W.findIn K (.ref C_Steps) "__setattr__" = some (some (.builtin "object.__setattr__"))) (mk_Steps : PySem.W.makesIn K C_Steps = true) (kc_Steps : PySem.W.keepIn K (.ref C_Steps) = true)
    (na_Steps_kept : PySem.W.findIn K (.ref C_Steps) "kept" = some none)
    (na_Steps_found : PySem.W.findIn K (.ref C_Steps) "found" = some none)
    (na_Steps_gone : PySem.W.findIn K (.ref C_Steps) "gone" = some none)
    (a_even : PySem.W.nsIn K mainGlobals "even" = some (some (.ref f_even)))
    (l_even : K.lookup f_even = some ⟨oc_even, od_even, .func (PySem.W.fnOf "even" "even" (defArgs s_even) (defBody s_even) (defScope s_even) .none kV_even dc_even pm_even an_even cd_even ct_even), sl_even⟩) (c_even : PySem.W.codeIn K cd_even "even" = true) (k_even : PySem.W.keepIn K (.ref f_even) = true)
    (a_bits_of : PySem.W.nsIn K mainGlobals "bits_of" = some (some (.ref f_bits_of)))
    (l_bits_of : K.lookup f_bits_of = some ⟨oc_bits_of, od_bits_of, .func (PySem.W.fnOf "bits_of" "bits_of" (defArgs s_bits_of) (defBody s_bits_of) (defScope s_bits_of) .none kV_bits_of dc_bits_of pm_bits_of an_bits_of cd_bits_of ct_bits_of), sl_bits_of⟩) (c_bits_of : PySem.W.codeIn K cd_bits_of "bits_of" = true) (k_bits_of : PySem.W.keepIn K (.ref f_bits_of) = true)
    (a_Steps_lowered : PySem.W.findIn K (.ref C_Steps) "lowered" = some (some (.ref f_Steps_lowered))) (i_Steps_lowered : PySem.W.isFn K (.ref f_Steps_lowered) = true)
    (l_Steps_lowered : K.lookup f_Steps_lowered = some ⟨oc_Steps_lowered, od_Steps_lowered, .func (PySem.W.fnOf "lowered" "Steps.lowered" (defArgs s_Steps_lowered) (defBody s_Steps_lowered) (defScope s_Steps_lowered) .none kV_Steps_lowered dc_Steps_lowered pm_Steps_lowered an_Steps_lowered cd_Steps_lowered ct_Steps_lowered), sl_Steps_lowered⟩) (c_Steps_lowered : PySem.W.codeIn K cd_Steps_lowered "Steps.lowered" = true) (k_Steps_lowered : PySem.W.keepIn K (.ref f_Steps_lowered) = true)
    (a_Steps_crossing : PySem.W.findIn K (.ref C_Steps) "crossing" = some (some (.ref f_Steps_crossing))) (i_Steps_crossing : PySem.W.isFn K (.ref f_Steps_crossing) = true)
    (l_Steps_crossing : K.lookup f_Steps_crossing = some ⟨oc_Steps_crossing, od_Steps_crossing, .func (PySem.W.fnOf "crossing" "Steps.crossing" (defArgs s_Steps_crossing) (defBody s_Steps_crossing) (defScope s_Steps_crossing) .none kV_Steps_crossing dc_Steps_crossing pm_Steps_crossing an_Steps_crossing cd_Steps_crossing ct_Steps_crossing), sl_Steps_crossing⟩) (c_Steps_crossing : PySem.W.codeIn K cd_Steps_crossing "Steps.crossing" = true) (k_Steps_crossing : PySem.W.keepIn K (.ref f_Steps_crossing) = true)
    (a_Steps___init__ : PySem.W.findIn K (.ref C_Steps) "__init__" = some (some (.ref f_Steps___init__))) (i_Steps___init__ : PySem.W.isFn K (.ref f_Steps___init__) = true)
    (l_Steps___init__ : K.lookup f_Steps___init__ = some ⟨oc_Steps___init__, od_Steps___init__, .func (PySem.W.fnOf "__init__" "Steps.__init__" (defArgs s_Steps___init__) (defBody s_Steps___init__) (defScope s_Steps___init__) .none kV_Steps___init__ dc_Steps___init__ pm_Steps___init__ an_Steps___init__ cd_Steps___init__ ct_Steps___init__), sl_Steps___init__⟩) (c_Steps___init__ : PySem.W.codeIn K cd_Steps___init__ "Steps.__init__" = true) (k_Steps___init__ : PySem.W.keepIn K (.ref f_Steps___init__) = true)
    (a_rank : PySem.W.nsIn K mainGlobals "rank" = some (some (.ref f_rank)))
    (l_rank : K.lookup f_rank = some ⟨oc_rank, od_rank, .func (PySem.W.fnOf "rank" "rank" (defArgs s_rank) (defBody s_rank) (defScope s_rank) .none kV_rank dc_rank pm_rank an_rank cd_rank ct_rank), sl_rank⟩) (c_rank : PySem.W.codeIn K cd_rank "rank" = true) (k_rank : PySem.W.keepIn K (.ref f_rank) = true)
    (a_sum_for : PySem.W.nsIn K mainGlobals "sum_for" = some (some (.ref f_sum_for)))
    (l_sum_for : K.lookup f_sum_for = some ⟨oc_sum_for, od_sum_for, .func (PySem.W.fnOf "sum_for" "sum_for" (defArgs s_sum_for) (defBody s_sum_for) (defScope s_sum_for) .none kV_sum_for dc_sum_for pm_sum_for an_sum_for cd_sum_for ct_sum_for), sl_sum_for⟩) (c_sum_for : PySem.W.codeIn K cd_sum_for "sum_for" = true) (k_sum_for : PySem.W.keepIn K (.ref f_sum_for) = true)
    (a_across : PySem.W.nsIn K mainGlobals "across" = some (some (.ref f_across)))
    (l_across : K.lookup f_across = some ⟨oc_across, od_across, .func (PySem.W.fnOf "across" "across" (defArgs s_across) (defBody s_across) (defScope s_across) .none kV_across dc_across pm_across an_across cd_across ct_across), sl_across⟩) (c_across : PySem.W.codeIn K cd_across "across" = true) (k_across : PySem.W.keepIn K (.ref f_across) = true)
    (a_cell : PySem.W.nsIn K mainGlobals "_law_cell" = some (some (.ref f_cell)))
    (l_cell : K.lookup f_cell = some ⟨oc_cell, od_cell, .func (PySem.W.fnOf "_law_cell" "_law_cell" (defArgs s_cell) (defBody s_cell) (defScope s_cell) .none kV_cell dc_cell pm_cell an_cell cd_cell ct_cell), sl_cell⟩) (c_cell : PySem.W.codeIn K cd_cell "_law_cell" = true) (k_cell : PySem.W.keepIn K (.ref f_cell) = true)
    (a_mix : PySem.W.nsIn K mainGlobals "_law_mix" = some (some (.ref f_mix)))
    (l_mix : K.lookup f_mix = some ⟨oc_mix, od_mix, .func (PySem.W.fnOf "_law_mix" "_law_mix" (defArgs s_mix) (defBody s_mix) (defScope s_mix) .none kV_mix dc_mix pm_mix an_mix cd_mix ct_mix), sl_mix⟩) (c_mix : PySem.W.codeIn K cd_mix "_law_mix" = true) (k_mix : PySem.W.keepIn K (.ref f_mix) = true)
    (a_wide : PySem.W.nsIn K mainGlobals "_law_wide" = some (some (.ref f_wide)))
    (l_wide : K.lookup f_wide = some ⟨oc_wide, od_wide, .func (PySem.W.fnOf "_law_wide" "_law_wide" (defArgs s_wide) (defBody s_wide) (defScope s_wide) .none kV_wide dc_wide pm_wide an_wide cd_wide ct_wide), sl_wide⟩) (c_wide : PySem.W.codeIn K cd_wide "_law_wide" = true) (k_wide : PySem.W.keepIn K (.ref f_wide) = true)
    (a_row : PySem.W.nsIn K mainGlobals "_law_row" = some (some (.ref f_row)))
    (l_row : K.lookup f_row = some ⟨oc_row, od_row, .func (PySem.W.fnOf "_law_row" "_law_row" (defArgs s_row) (defBody s_row) (defScope s_row) .none kV_row dc_row pm_row an_row cd_row ct_row), sl_row⟩) (c_row : PySem.W.codeIn K cd_row "_law_row" = true) (k_row : PySem.W.keepIn K (.ref f_row) = true)
    (a_rows : PySem.W.nsIn K mainGlobals "_law_rows" = some (some (.ref f_rows)))
    (l_rows : K.lookup f_rows = some ⟨oc_rows, od_rows, .func (PySem.W.fnOf "_law_rows" "_law_rows" (defArgs s_rows) (defBody s_rows) (defScope s_rows) .none kV_rows dc_rows pm_rows an_rows cd_rows ct_rows), sl_rows⟩) (c_rows : PySem.W.codeIn K cd_rows "_law_rows" = true) (k_rows : PySem.W.keepIn K (.ref f_rows) = true)
    (a_odd : PySem.W.nsIn K mainGlobals "_law_odd" = some (some (.ref f_odd)))
    (l_odd : K.lookup f_odd = some ⟨oc_odd, od_odd, .func (PySem.W.fnOf "_law_odd" "_law_odd" (defArgs s_odd) (defBody s_odd) (defScope s_odd) .none kV_odd dc_odd pm_odd an_odd cd_odd ct_odd), sl_odd⟩) (c_odd : PySem.W.codeIn K cd_odd "_law_odd" = true) (k_odd : PySem.W.keepIn K (.ref f_odd) = true)
    (a_are_places : PySem.W.nsIn K mainGlobals "_law_are_places" = some (some (.ref f_are_places)))
    (l_are_places : K.lookup f_are_places = some ⟨oc_are_places, od_are_places, .func (PySem.W.fnOf "_law_are_places" "_law_are_places" (defArgs s_are_places) (defBody s_are_places) (defScope s_are_places) .none kV_are_places dc_are_places pm_are_places an_are_places cd_are_places ct_are_places), sl_are_places⟩) (c_are_places : PySem.W.codeIn K cd_are_places "_law_are_places" = true) (k_are_places : PySem.W.keepIn K (.ref f_are_places) = true)
    (a_sum_at : PySem.W.nsIn K mainGlobals "_law_sum_at" = some (some (.ref f_sum_at)))
    (l_sum_at : K.lookup f_sum_at = some ⟨oc_sum_at, od_sum_at, .func (PySem.W.fnOf "_law_sum_at" "_law_sum_at" (defArgs s_sum_at) (defBody s_sum_at) (defScope s_sum_at) .none kV_sum_at dc_sum_at pm_sum_at an_sum_at cd_sum_at ct_sum_at), sl_sum_at⟩) (c_sum_at : PySem.W.codeIn K cd_sum_at "_law_sum_at" = true) (k_sum_at : PySem.W.keepIn K (.ref f_sum_at) = true)
    (a_sums : PySem.W.nsIn K mainGlobals "_law_sums" = some (some (.ref f_sums)))
    (l_sums : K.lookup f_sums = some ⟨oc_sums, od_sums, .func (PySem.W.fnOf "_law_sums" "_law_sums" (defArgs s_sums) (defBody s_sums) (defScope s_sums) .none kV_sums dc_sums pm_sums an_sums cd_sums ct_sums), sl_sums⟩) (c_sums : PySem.W.codeIn K cd_sums "_law_sums" = true) (k_sums : PySem.W.keepIn K (.ref f_sums) = true)
    (a_barred : PySem.W.nsIn K mainGlobals "_law_barred" = some (some (.ref f_barred)))
    (l_barred : K.lookup f_barred = some ⟨oc_barred, od_barred, .func (PySem.W.fnOf "_law_barred" "_law_barred" (defArgs s_barred) (defBody s_barred) (defScope s_barred) .none kV_barred dc_barred pm_barred an_barred cd_barred ct_barred), sl_barred⟩) (c_barred : PySem.W.codeIn K cd_barred "_law_barred" = true) (k_barred : PySem.W.keepIn K (.ref f_barred) = true)
    (a_law : PySem.W.nsIn K mainGlobals "law" = some (some (.ref f_law)))
    (l_law : K.lookup f_law = some ⟨oc_law, od_law, .func (PySem.W.fnOf "law" "law" (defArgs s_law) (defBody s_law) (defScope s_law) .none kV_law dc_law pm_law an_law cd_law ct_law), sl_law⟩) (c_law : PySem.W.codeIn K cd_law "law" = true) (k_law : PySem.W.keepIn K (.ref f_law) = true)
    (z_bool : PySem.W.nsIn K mainGlobals "bool" = some none)
    (z_enumerate : PySem.W.nsIn K mainGlobals "enumerate" = some none)
    (z_int : PySem.W.nsIn K mainGlobals "int" = some none)
    (z_isinstance : PySem.W.nsIn K mainGlobals "isinstance" = some none)
    (z_len : PySem.W.nsIn K mainGlobals "len" = some none)
    (z_list : PySem.W.nsIn K mainGlobals "list" = some none)
    (z_range : PySem.W.nsIn K mainGlobals "range" = some none)
    (z_sorted : PySem.W.nsIn K mainGlobals "sorted" = some none)
    : ∃ (fd : FuncData) (sp : Sp), (∀ (s : Shared) (v : Value), BindsTo s fd ⟨[v], []⟩ [("_law_script", v)]) ∧ (∀ (H : Hp) (a : Addr) (ns : List Int), ns.length ≤ 63 → SqL K H a (ns.map V.int) → sp [.ref a] H (fun v _ => v = .bl true) fun _ _ _ => False) ∧ ∀ base : Heap, K.In base → base.Ns mainGlobals mg → FnOk l.prog w K mg base CX0 6 fa fd ["_law_script"] sp := by
  have e := hfa.symm.trans (PySem.W.mg_of X G a_law)
  cases e
  have F_even := fun_mk (st := s_even) l_even c_even k_even
  have b_even := F_even.binds (ps := ["number"]) fun _ _ _ _ _ _ us hl => match us, hl with | [_], _ => rfl
  have F_bits_of := fun_mk (st := s_bits_of) l_bits_of c_bits_of k_bits_of
  have b_bits_of := F_bits_of.binds (ps := ["mask"]) fun _ _ _ _ _ _ us hl => match us, hl with | [_], _ => rfl
  have F_Steps_lowered := fun_mk (st := s_Steps_lowered) l_Steps_lowered c_Steps_lowered k_Steps_lowered
  have b_Steps_lowered := F_Steps_lowered.binds (ps := ["self", "row", "places"]) fun _ _ _ _ _ _ us hl => match us, hl with | [_, _, _], _ => rfl
  have F_Steps_crossing := fun_mk (st := s_Steps_crossing) l_Steps_crossing c_Steps_crossing k_Steps_crossing
  have b_Steps_crossing := F_Steps_crossing.binds (ps := ["self", "bit"]) fun _ _ _ _ _ _ us hl => match us, hl with | [_, _], _ => rfl
  have F_Steps___init__ := fun_mk (st := s_Steps___init__) l_Steps___init__ c_Steps___init__ k_Steps___init__
  have b_Steps___init__ := F_Steps___init__.binds (ps := ["self", "rows"]) fun _ _ _ _ _ _ us hl => match us, hl with | [_, _], _ => rfl
  have F_rank := fun_mk (st := s_rank) l_rank c_rank k_rank
  have b_rank := F_rank.binds (ps := ["rows"]) fun _ _ _ _ _ _ us hl => match us, hl with | [_], _ => rfl
  have F_sum_for := fun_mk (st := s_sum_for) l_sum_for c_sum_for k_sum_for
  have b_sum_for := F_sum_for.binds (ps := ["rows", "wish"]) fun _ _ _ _ _ _ us hl => match us, hl with | [_, _], _ => rfl
  have F_across := fun_mk (st := s_across) l_across c_across k_across
  have b_across := F_across.binds (ps := ["rows", "width"]) fun _ _ _ _ _ _ us hl => match us, hl with | [_, _], _ => rfl
  have F_cell := fun_mk (st := s_cell) l_cell c_cell k_cell
  have b_cell := F_cell.binds (ps := ["_law_script", "_law_k"]) fun _ _ _ _ _ _ us hl => match us, hl with | [_, _], _ => rfl
  have F_mix := fun_mk (st := s_mix) l_mix c_mix k_mix
  have b_mix := F_mix.binds (ps := ["_law_cell_here", "_law_k"]) fun _ _ _ _ _ _ us hl => match us, hl with | [_, _], _ => rfl
  have F_wide := fun_mk (st := s_wide) l_wide c_wide k_wide
  have b_wide := F_wide.binds (ps := ["_law_cell_here", "_law_width"]) fun _ _ _ _ _ _ us hl => match us, hl with | [_, _], _ => rfl
  have F_row := fun_mk (st := s_row) l_row c_row k_row
  have b_row := F_row.binds (ps := ["_law_cell_here", "_law_width", "_law_wide_here"]) fun _ _ _ _ _ _ us hl => match us, hl with | [_, _, _], _ => rfl
  have F_rows := fun_mk (st := s_rows) l_rows c_rows k_rows
  have b_rows := F_rows.binds (ps := ["_law_script", "_law_start", "_law_most", "_law_width"]) fun _ _ _ _ _ _ us hl => match us, hl with | [_, _, _, _], _ => rfl
  have F_odd := fun_mk (st := s_odd) l_odd c_odd k_odd
  have b_odd := F_odd.binds (ps := ["_law_mask"]) fun _ _ _ _ _ _ us hl => match us, hl with | [_], _ => rfl
  have F_are_places := fun_mk (st := s_are_places) l_are_places c_are_places k_are_places
  have b_are_places := F_are_places.binds (ps := ["_law_found", "_law_many"]) fun _ _ _ _ _ _ us hl => match us, hl with | [_, _], _ => rfl
  have F_sum_at := fun_mk (st := s_sum_at) l_sum_at c_sum_at k_sum_at
  have b_sum_at := F_sum_at.binds (ps := ["_law_rows_here", "_law_places"]) fun _ _ _ _ _ _ us hl => match us, hl with | [_, _], _ => rfl
  have F_sums := fun_mk (st := s_sums) l_sums c_sums k_sums
  have b_sums := F_sums.binds (ps := ["_law_smalls"]) fun _ _ _ _ _ _ us hl => match us, hl with | [_], _ => rfl
  have F_barred := fun_mk (st := s_barred) l_barred c_barred k_barred
  have b_barred := F_barred.binds (ps := ["_law_rows_here", "_law_wish", "_law_told"]) fun _ _ _ _ _ _ us hl => match us, hl with | [_, _, _], _ => rfl
  have F_law := fun_mk (st := s_law) l_law c_law k_law
  refine ⟨PySem.W.fnOf "law" "law" (defArgs s_law) (defBody s_law) (defScope s_law) .none kV_law dc_law pm_law an_law cd_law ct_law, sp_law K ⟨C_Steps⟩, fun s v => .of_eq rfl, fun H a ns hl  hS => ⟨H, .ref a, ns, fun b => b = true, rfl, Ex.rfl', ⟨a, rfl, hS⟩, w_law hl  rfl, fun z hz _ _ _ => by subst hz; rfl⟩, fun base _ _ => ?_⟩
  have T : Tz K mg ⟨C_Steps⟩ := ⟨⟨pg_Steps, hd_Steps, po_Steps, sa_Steps⟩, na_Steps_kept, na_Steps_found, na_Steps_gone⟩
  have C_even := ok_even (P := l.prog) (w0 := w) (base := base) T F_even (PySem.W.mg_of X G a_even) b_even
  have C_bits_of := ok_bits_of (P := l.prog) (w0 := w) (base := base) T F_bits_of (PySem.W.mg_of X G a_bits_of) b_bits_of
  have C_Steps_lowered := ok_Steps_lowered (P := l.prog) (w0 := w) (base := base) T F_Steps_lowered ⟨a_Steps_lowered, i_Steps_lowered, k_Steps_lowered⟩ b_Steps_lowered
  have C_Steps_crossing := ok_Steps_crossing (P := l.prog) (w0 := w) (base := base) T F_Steps_crossing ⟨a_Steps_crossing, i_Steps_crossing, k_Steps_crossing⟩ b_Steps_crossing C_even (PySem.W.mg_none_of X G z_sorted)
  have C_Steps___init__ := ok_Steps___init__ (P := l.prog) (w0 := w) (base := base) T F_Steps___init__ ⟨mk_Steps, a_Steps___init__, i_Steps___init__, kc_Steps⟩ (PySem.W.mg_of X G aC_Steps) b_Steps___init__ C_Steps_lowered (PySem.W.mg_none_of X G z_enumerate)
  have C_rank := ok_rank (P := l.prog) (w0 := w) (base := base) T F_rank (PySem.W.mg_of X G a_rank) b_rank C_Steps___init__ (PySem.W.mg_none_of X G z_len)
  have C_sum_for := ok_sum_for (P := l.prog) (w0 := w) (base := base) T F_sum_for (PySem.W.mg_of X G a_sum_for) b_sum_for C_Steps___init__ C_Steps_lowered C_bits_of C_Steps_crossing
  have C_across := ok_across (P := l.prog) (w0 := w) (base := base) T F_across (PySem.W.mg_of X G a_across) b_across C_Steps___init__ C_Steps_crossing (PySem.W.mg_none_of X G z_range)
  have C_cell := ok_cell (P := l.prog) (w0 := w) (base := base) T F_cell (PySem.W.mg_of X G a_cell) b_cell (PySem.W.mg_none_of X G z_len)
  have C_mix := ok_mix (P := l.prog) (w0 := w) (base := base) T F_mix (PySem.W.mg_of X G a_mix) b_mix
  have C_wide := ok_wide (P := l.prog) (w0 := w) (base := base) T F_wide (PySem.W.mg_of X G a_wide) b_wide C_mix (PySem.W.mg_none_of X G z_range)
  have C_row := ok_row (P := l.prog) (w0 := w) (base := base) T F_row (PySem.W.mg_of X G a_row) b_row C_mix (PySem.W.mg_none_of X G z_range)
  have C_rows := ok_rows (P := l.prog) (w0 := w) (base := base) T F_rows (PySem.W.mg_of X G a_rows) b_rows C_cell C_wide C_row C_mix (PySem.W.mg_none_of X G z_range)
  have C_odd := ok_odd (P := l.prog) (w0 := w) (base := base) T F_odd (PySem.W.mg_of X G a_odd) b_odd
  have C_are_places := ok_are_places (P := l.prog) (w0 := w) (base := base) T F_are_places (PySem.W.mg_of X G a_are_places) b_are_places (PySem.W.mg_none_of X G z_bool) (PySem.W.mg_none_of X G z_int) (PySem.W.mg_none_of X G z_isinstance) (PySem.W.mg_none_of X G z_list)
  have C_sum_at := ok_sum_at (P := l.prog) (w0 := w) (base := base) T F_sum_at (PySem.W.mg_of X G a_sum_at) b_sum_at
  have C_sums := ok_sums (P := l.prog) (w0 := w) (base := base) T F_sums (PySem.W.mg_of X G a_sums) b_sums (PySem.W.mg_none_of X G z_list)
  have C_barred := ok_barred (P := l.prog) (w0 := w) (base := base) T F_barred (PySem.W.mg_of X G a_barred) b_barred C_odd C_across C_sum_for
  exact ok_law T F_law C_cell C_rows C_sums C_rank C_sum_for C_are_places C_sum_at C_barred (PySem.W.mg_none_of X G z_len) (PySem.W.mg_none_of X G z_range)
theorem walk {l : PySem.W.OpenLaw} {q : Program} {loose : List Str} {XP : (Str → Option Value) → Heap → Prop} {YP : World → Heap → Prop} {d : DefRec} {K : Params → PySem.W.Frag} (hn : l.most = some 63) (hdf : d.params.defaults = [])
    (hY : ∀ (w : World) (h : Heap), YP w h → (K w.params).In h)
    (F : ∀ (w : World) (mg : Str → Option Value) (fa : Addr) (h : Heap), (K w.params).In h → h.Ns mainGlobals mg → mg d.name = some (.ref fa) → ∃ (fd : FuncData) (sp : Sp), (∀ (s : Shared) (u : Value), BindsTo s fd ⟨[u], []⟩ [("_law_script", u)]) ∧ (∀ (H : Hp) (a : Addr) (ns : List Int), ns.length ≤ 63 → SqL (K w.params) H a (ns.map V.int) → sp [.ref a] H (fun v _ => v = .bl true) fun _ _ _ => False) ∧ ∀ base : Heap, (K w.params).In base → base.Ns mainGlobals mg → FnOk l.prog w (K w.params) mg base CX0 6 fa fd ["_law_script"] sp) :
    PySem.W.WalkO q loose XP YP l.row.toRowW d [] (fun f vs => PySem.call f vs) := by
  refine Att.attach_call hn hdf fun w s₀ s₁ mg mb fa o pm cd doc a vs ns G Y ho hd hcd hmg hobj hints hlen hg => ?_
  have KX := hY w _ Y
  obtain ⟨fd, sp, hb, hsp, hF⟩ := F w mg fa _ KX G.T.g hmg
  exact law_call (k := 6) (x := "_law_script") (CX := CX0) KX G.T.g G.T.b G.T.builtins G.T.nolimit hg hobj hints (Nat.le_trans hlen (by decide)) ⟨rfl, by decide, by decide⟩ hF hb (fun H hO hS => hsp H a ns hlen hS) fun H e s' z => z
end My
open PySem PySem.W PyProof.Rows
set_option maxRecDepth 100000 in
set_option maxHeartbeats 0 in
theorem PySem.Challenge.cw_sumwires_k45_whole_every_wish_holds : PySem.Challenge.rw_sumwires_k45_whole_every_wish.Holds := by
  w_on; o_law; k_head; (case hw => w_witness2)
  k_fill
  refine My.walk (l := PySem.Challenge.rw_sumwires_k45_whole_every_wish) rfl rfl (fun w h Y => PySem.W.kIn_of Y) ?F
  case F =>
    intro w mg fa h KX G hmg
    refine' My.all_mk KX G hmg ?aC_Steps ?pg_Steps ?hd_Steps ?po_Steps ?sa_Steps ?mk_Steps ?kc_Steps ?na_Steps_kept ?na_Steps_found ?na_Steps_gone ?a_even ?l_even ?c_even ?k_even ?a_bits_of ?l_bits_of ?c_bits_of ?k_bits_of ?a_Steps_lowered ?i_Steps_lowered ?l_Steps_lowered ?c_Steps_lowered ?k_Steps_lowered ?a_Steps_crossing ?i_Steps_crossing ?l_Steps_crossing ?c_Steps_crossing ?k_Steps_crossing ?a_Steps___init__ ?i_Steps___init__ ?l_Steps___init__ ?c_Steps___init__ ?k_Steps___init__ ?a_rank ?l_rank ?c_rank ?k_rank ?a_sum_for ?l_sum_for ?c_sum_for ?k_sum_for ?a_across ?l_across ?c_across ?k_across ?a_cell ?l_cell ?c_cell ?k_cell ?a_mix ?l_mix ?c_mix ?k_mix ?a_wide ?l_wide ?c_wide ?k_wide ?a_row ?l_row ?c_row ?k_row ?a_rows ?l_rows ?c_rows ?k_rows ?a_odd ?l_odd ?c_odd ?k_odd ?a_are_places ?l_are_places ?c_are_places ?k_are_places ?a_sum_at ?l_sum_at ?c_sum_at ?k_sum_at ?a_sums ?l_sums ?c_sums ?k_sums ?a_barred ?l_barred ?c_barred ?k_barred ?a_law ?l_law ?c_law ?k_law ?z_bool ?z_enumerate ?z_int ?z_isinstance ?z_len ?z_list ?z_range ?z_sorted
    (case aC_Steps => k_is); (case pg_Steps => k_is); (case hd_Steps => k_is); (case po_Steps => k_is)
    (case sa_Steps => k_is); (case mk_Steps => k_is); (case kc_Steps => k_is); (case na_Steps_kept => k_is)
    (case na_Steps_found => k_is); (case na_Steps_gone => k_is); (case a_even => k_is); (case l_even => k_is)
    (case c_even => k_is); (case k_even => k_is); (case a_bits_of => k_is); (case l_bits_of => k_is)
    (case c_bits_of => k_is); (case k_bits_of => k_is); (case a_Steps_lowered => k_is); (case i_Steps_lowered => k_is)
    (case l_Steps_lowered => k_is); (case c_Steps_lowered => k_is); (case k_Steps_lowered => k_is); (case a_Steps_crossing => k_is)
    (case i_Steps_crossing => k_is); (case l_Steps_crossing => k_is); (case c_Steps_crossing => k_is); (case k_Steps_crossing => k_is)
    (case a_Steps___init__ => k_is); (case i_Steps___init__ => k_is); (case l_Steps___init__ => k_is); (case c_Steps___init__ => k_is)
    (case k_Steps___init__ => k_is); (case a_rank => k_is); (case l_rank => k_is); (case c_rank => k_is)
    (case k_rank => k_is); (case a_sum_for => k_is); (case l_sum_for => k_is); (case c_sum_for => k_is)
    (case k_sum_for => k_is); (case a_across => k_is); (case l_across => k_is); (case c_across => k_is)
    (case k_across => k_is); (case a_cell => k_is); (case l_cell => k_is); (case c_cell => k_is)
    (case k_cell => k_is); (case a_mix => k_is); (case l_mix => k_is); (case c_mix => k_is)
    (case k_mix => k_is); (case a_wide => k_is); (case l_wide => k_is); (case c_wide => k_is)
    (case k_wide => k_is); (case a_row => k_is); (case l_row => k_is); (case c_row => k_is)
    (case k_row => k_is); (case a_rows => k_is); (case l_rows => k_is); (case c_rows => k_is)
    (case k_rows => k_is); (case a_odd => k_is); (case l_odd => k_is); (case c_odd => k_is)
    (case k_odd => k_is); (case a_are_places => k_is); (case l_are_places => k_is); (case c_are_places => k_is)
    (case k_are_places => k_is); (case a_sum_at => k_is); (case l_sum_at => k_is); (case c_sum_at => k_is)
    (case k_sum_at => k_is); (case a_sums => k_is); (case l_sums => k_is); (case c_sums => k_is)
    (case k_sums => k_is); (case a_barred => k_is); (case l_barred => k_is); (case c_barred => k_is)
    (case k_barred => k_is); (case a_law => k_is); (case l_law => k_is); (case c_law => k_is)
    (case k_law => k_is); (case z_bool => k_is); (case z_enumerate => k_is); (case z_int => k_is)
    (case z_isinstance => k_is); (case z_len => k_is); (case z_list => k_is); (case z_range => k_is)
    (case z_sorted => k_is)
