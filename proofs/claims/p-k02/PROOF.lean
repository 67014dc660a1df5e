import PyProof.Rows.All
import Wide.All
import OpenK.AllK
import Wide.FinOn
import HandS.ForMost
import HandS.Wide
import HandS.WideBits
import HandS.IsInst
import HandS.Steps
import HandS.Exc
import HandS.ExcOwn
import HandS.TryOnly
import HandS.WordsExc
import HandS.EndBits
import HandS.Rev
import HandS.RevTup
import PySem.Challenge.RW_sumwires_k02_bits_of_masks
set_option Elab.async false
set_option linter.all false
set_option maxRecDepth 100000
set_option maxHeartbeats 4000000
set_option exponentiation.threshold 4000
/-! Wk: a typed layer over the hand layer. A state is a pair (F, H): H the tracked heap, F that part of it which nobody changes any more. -/
namespace Wk
open PySem L2

abbrev Ex (H H' : Hp) : Prop := ∀ a o, H a = some o → H' a = some o
theorem Ex.rfl' {H : Hp} : Ex H H := fun _ _ h => h
theorem Ex.tr {H H1 H2 : Hp} (a : Ex H H1) (b : Ex H1 H2) : Ex H H2 := fun x o h => b x o (a x o h)
theorem Ex.new {H : Hp} {p : Addr} {o : HO} (h : H p = none) : Ex H (upd H p o) := fun a u e => by
  rw [upd_ne (ne_of_none e h)]; exact e
theorem Ex.non {H H' : Hp} (e : Ex H H') {p : Addr} (h : H' p = none) : H p = none := by
  cases q : H p with
  | none => rfl
  | some o => rw [e p o q] at h; cases h

/-- from (F0, H0) to (F, H): all is kept, and F has grown by nothing but what is new to H0 -/
structure Wf (F0 H0 F H : Hp) : Prop where
  h : Ex H0 H
  f : Ex F H
  g : Ex F0 F
  n : ∀ a o, F a = some o → F0 a = none → H0 a = none
theorem Wf.id {F H : Hp} (e : Ex F H) : Wf F H F H := ⟨Ex.rfl', e, Ex.rfl', fun a o h h' => by rw [h] at h'; cases h'⟩
theorem Wf.tr {F0 H0 F H F' H' : Hp} (a : Wf F0 H0 F H) (b : Wf F H F' H') : Wf F0 H0 F' H' := ⟨a.h.tr b.h, b.f, a.g.tr b.g, fun x o h h0 => by
  cases q : F x with
  | none => exact a.h.non (b.n x o h q)
  | some u => exact a.n x u q h0⟩
/-- a new object that stays as it is -/
theorem Wf.new {F H : Hp} {p : Addr} {o : HO} (e : Ex F H) (hp : H p = none) : Wf F H (upd F p o) (upd H p o) := ⟨Ex.new hp, fun a u h => by
    by_cases q : a = p
    · subst q; rw [upd_same] at h ⊢; exact h
    · rw [upd_ne q] at h ⊢; exact e a u h, Ex.new (e.non hp), fun a u h h0 => by
    by_cases q : a = p
    · subst q; exact hp
    · rw [upd_ne q, h0] at h; cases h⟩
/-- a new object that is still changed -/
theorem Wf.newX {F H : Hp} {p : Addr} {o : HO} (e : Ex F H) (hp : H p = none) : Wf F H F (upd H p o) := ⟨Ex.new hp, e.tr (Ex.new hp), Ex.rfl', fun a u h h0 => by rw [h] at h0; cases h0⟩
/-- the heap alone has grown -/
theorem Wf.grow {F H H' : Hp} (e : Ex F H) (h : Ex H H') : Wf F H F H' := ⟨h, e.tr h, Ex.rfl', fun a u h h0 => by rw [h] at h0; cases h0⟩

/-- one's own object, not yet in F -/
structure Xc (H0 F H : Hp) (p : Addr) (o : HO) : Prop where
  z : H0 p = none
  n : F p = none
  h : H p = some o
section
variable {F0 H0 F H F' H' : Hp} {p q : Addr} {o u : HO}
theorem Xc.mk' (w : Wf F0 H0 F H) (hp : H p = none) : Xc H0 F (upd H p o) p o := ⟨w.h.non hp, w.f.non hp, upd_same⟩
theorem Xc.step (x : Xc H0 F H p o) (w : Wf F H F' H') : Xc H0 F' H' p o := ⟨x.z, (by
  cases q : F' p with
  | none => rfl
  | some u => have := w.n p u q x.n; rw [x.h] at this; cases this), w.h _ _ x.h⟩
theorem Xc.other (x : Xc H0 F H p o) (h : p ≠ q) : Xc H0 F (upd H q u) p o := ⟨x.z, x.n, by rw [upd_ne h]; exact x.h⟩
theorem Xc.set (x : Xc H0 F H p o) : Xc H0 F (upd H p u) p u := ⟨x.z, x.n, upd_same⟩
theorem Wf.set (w : Wf F0 H0 F H) (x : Xc H0 F H p o) : Wf F0 H0 F (upd H p u) := ⟨fun a v e => by
    rw [upd_ne (ne_of_none e x.z)]; exact w.h a v e, fun a v e => by rw [upd_ne (ne_of_none e x.n)]; exact w.f a v e, w.g, w.n⟩
/-- it is changed no more -/
theorem Wf.freeze (w : Wf F0 H0 F H) (x : Xc H0 F H p o) : Wf F0 H0 (upd F p o) H := ⟨w.h, fun a v e => by
    by_cases q : a = p
    · subst q; rw [upd_same] at e; rw [← e]; exact x.h
    · rw [upd_ne q] at e; exact w.f a v e, w.g.tr (Ex.new x.n), fun a v e e0 => by
    by_cases q : a = p
    · subst q; exact x.z
    · rw [upd_ne q] at e; exact w.n a v e e0⟩
theorem Xc.frz (x : Xc H0 F H p o) (y : Xc H0 F H q u) (h : p ≠ q) : Xc H0 (upd F q u) H p o := ⟨x.z, by rw [upd_ne h]; exact x.n, x.h⟩
theorem Xc.ne (x : Xc H0 F H p o) (h : H q = none) : p ≠ q := ne_of_none x.h h
end

/-! ### what represents what -/
structure Rep (α : Type) where
  r : Hp → V → α → Prop
  mono : ∀ {F F' : Hp} {v : V} {x : α}, Ex F F' → r F v x → r F' v x
def pI : Rep Int := ⟨fun _ v x => v = .int x, fun _ h => h⟩
def pN : Rep Nat := ⟨fun _ v x => v = .int (x : Int), fun _ h => h⟩
def pB : Rep Bool := ⟨fun _ v x => v = .bl x, fun _ h => h⟩
def pS : Rep Str := ⟨fun _ v x => v = .str x, fun _ h => h⟩
def pU : Rep Unit := ⟨fun _ v _ => v = .non, fun _ h => h⟩
def All {α : Type} (e : Rep α) (F : Hp) : List V → List α → Prop
  | [], [] => True
  | v :: vs, x :: xs => e.r F v x ∧ All e F vs xs
  | _, _ => False
section
variable {α β γ : Type} {e : Rep α} {F F' : Hp} {vs ws : List V} {xs ys : List α} {v : V} {x : α}
theorem All.mono (h : Ex F F') : ∀ {vs : List V} {xs : List α}, All e F vs xs → All e F' vs xs
  | [], [], _ => trivial
  | _ :: _, _ :: _, ⟨a, b⟩ => ⟨e.mono h a, All.mono h b⟩
  | [], _ :: _, q => q.elim
  | _ :: _, [], q => q.elim
theorem All.len : ∀ {vs : List V} {xs : List α}, All e F vs xs → vs.length = xs.length
  | [], [], _ => rfl
  | _ :: _, _ :: _, ⟨_, b⟩ => by rw [List.length_cons, List.length_cons, All.len b]
  | [], _ :: _, q => q.elim
  | _ :: _, [], q => q.elim
theorem All.get : ∀ {vs : List V} {xs : List α} {i : Nat} {x : α}, All e F vs xs → xs[i]? = some x → ∃ v, vs[i]? = some v ∧ e.r F v x
  | _ :: _, _ :: _, 0, _, ⟨a, _⟩, h => by simp at h; subst h; exact ⟨_, rfl, a⟩
  | _ :: _, _ :: _, i + 1, _, ⟨_, b⟩, h => by
    obtain ⟨v, h1, h2⟩ := All.get (i := i) b (by simpa using h)
    exact ⟨v, by simpa using h1, h2⟩
  | [], [], _, _, _, h => by simp at h
  | [], _ :: _, _, _, q, _ => q.elim
  | _ :: _, [], _, _, q, _ => q.elim
theorem All.got : ∀ {vs : List V} {xs : List α} {i : Nat} {v : V}, All e F vs xs → vs[i]? = some v → ∃ x, xs[i]? = some x ∧ e.r F v x
  | _ :: _, _ :: _, 0, _, ⟨a, _⟩, h => by simp at h; subst h; exact ⟨_, rfl, a⟩
  | _ :: _, _ :: _, i + 1, _, ⟨_, b⟩, h => by
    obtain ⟨v, h1, h2⟩ := All.got (i := i) b (by simpa using h)
    exact ⟨v, by simpa using h1, h2⟩
  | [], [], _, _, _, h => by simp at h
  | [], _ :: _, _, _, q, _ => q.elim
  | _ :: _, [], _, _, q, _ => q.elim
theorem All.app : ∀ {vs : List V} {xs : List α}, All e F vs xs → All e F ws ys → All e F (vs ++ ws) (xs ++ ys)
  | [], [], _, b => b
  | _ :: _, _ :: _, ⟨a, a'⟩, b => ⟨a, All.app a' b⟩
  | [], _ :: _, q, _ => q.elim
  | _ :: _, [], q, _ => q.elim
theorem All.snoc (a : All e F vs xs) (b : e.r F v x) : All e F (vs ++ [v]) (xs ++ [x]) := a.app ⟨b, trivial⟩
theorem All.set : ∀ {vs : List V} {xs : List α} (i : Nat), All e F vs xs → e.r F v x → All e F (vs.set i v) (xs.set i x)
  | [], [], _, _, _ => trivial
  | _ :: _, _ :: _, 0, ⟨_, b⟩, r => ⟨r, b⟩
  | _ :: _, _ :: _, i + 1, ⟨a, b⟩, r => ⟨a, All.set i b r⟩
  | [], _ :: _, _, q, _ => q.elim
  | _ :: _, [], _, q, _ => q.elim
theorem All.take : ∀ {vs : List V} {xs : List α} (i : Nat), All e F vs xs → All e F (vs.take i) (xs.take i)
  | [], [], i, _ => by simp [All]
  | _ :: _, _ :: _, 0, _ => trivial
  | _ :: _, _ :: _, i + 1, ⟨a, b⟩ => ⟨a, All.take i b⟩
  | [], _ :: _, _, q => q.elim
  | _ :: _, [], _, q => q.elim
theorem All.drop : ∀ {vs : List V} {xs : List α} (i : Nat), All e F vs xs → All e F (vs.drop i) (xs.drop i)
  | [], [], i, _ => by simp [All]
  | _ :: _, _ :: _, 0, h => h
  | _ :: _, _ :: _, i + 1, ⟨_, b⟩ => All.drop i b
  | [], _ :: _, _, q => q.elim
  | _ :: _, [], _, q => q.elim
theorem All.ints {vs : List V} : ∀ {xs : List Int}, All pI F vs xs → vs = xs.map V.int := by
  induction vs with
  | nil => intro xs h; cases xs with
    | nil => rfl
    | cons _ _ => exact h.elim
  | cons v vs ih => intro xs h; cases xs with
    | nil => exact h.elim
    | cons y ys => obtain ⟨a, b⟩ := h; rw [ih b, List.map_cons]; rw [show v = .int y from a]
theorem All.ofInts : ∀ {xs : List Int}, All pI F (xs.map V.int) xs
  | [] => trivial
  | _ :: _ => ⟨rfl, All.ofInts⟩
theorem All.nats {vs : List V} : ∀ {xs : List Nat}, All pN F vs xs → vs = (xs.map Int.ofNat).map V.int := by
  induction vs with
  | nil => intro xs h; cases xs with
    | nil => rfl
    | cons _ _ => exact h.elim
  | cons v vs ih => intro xs h; cases xs with
    | nil => exact h.elim
    | cons y ys => obtain ⟨a, b⟩ := h; rw [ih b, List.map_cons, List.map_cons]; rw [show v = .int (y : Int) from a]; rfl
end
/-- a list, a tuple of things of one kind, pairs, triples -/
def pL {α : Type} (e : Rep α) : Rep (List α) := ⟨fun F v xs => ∃ p vs, v = .ref p ∧ F p = some (.lst vs) ∧ All e F vs xs, fun h ⟨p, vs, a, b, c⟩ => ⟨p, vs, a, h _ _ b, c.mono h⟩⟩
def pTL {α : Type} (e : Rep α) : Rep (List α) := ⟨fun F v xs => ∃ p vs, v = .ref p ∧ F p = some (.tup vs) ∧ All e F vs xs, fun h ⟨p, vs, a, b, c⟩ => ⟨p, vs, a, h _ _ b, c.mono h⟩⟩
def pT2 {α β : Type} (e : Rep α) (f : Rep β) : Rep (α × β) := ⟨fun F v x => ∃ p u w, v = .ref p ∧ F p = some (.tup [u, w]) ∧ e.r F u x.1 ∧ f.r F w x.2, fun h ⟨p, u, w, a, b, c, d⟩ => ⟨p, u, w, a, h _ _ b, e.mono h c, f.mono h d⟩⟩
def pT3 {α β γ : Type} (e : Rep α) (f : Rep β) (g : Rep γ) : Rep (α × β × γ) := ⟨fun F v x => ∃ p u w y, v = .ref p ∧ F p = some (.tup [u, w, y]) ∧ e.r F u x.1 ∧ f.r F w x.2.1 ∧ g.r F y x.2.2, fun h ⟨p, u, w, y, a, b, c, d, k⟩ => ⟨p, u, w, y, a, h _ _ b, e.mono h c, f.mono h d, g.mono h k⟩⟩
def pO {α : Type} (e : Rep α) : Rep (Option α) := ⟨fun F v x => match x with | none => v = .non | some y => e.r F v y, fun {_ _ _ x} h q => by cases x with | none => exact q | some y => exact e.mono h q⟩
/-- the script: read only -/
def pScr (K : PySem.W.Frag) : Rep (List Int) := ⟨fun F v xs => ∃ a, v = .ref a ∧ SqL K F a (xs.map V.int), fun h ⟨a, e, q⟩ => ⟨a, e, by
  rcases q with (q | ⟨o, q⟩) | q
  · exact .inl (.inl (h _ _ q))
  · exact .inl (.inr ⟨o, h _ _ q⟩)
  · exact .inr q⟩⟩
/-- one's own list -/
structure XL {α : Type} (e : Rep α) (H0 F H : Hp) (p : Addr) (xs : List α) : Prop where
  x : ∃ vs, Xc H0 F H p (.lst vs) ∧ All e F vs xs
section
variable {α : Type} {e : Rep α} {F0 H0 F H F' H' : Hp} {p q : Addr} {o : HO} {xs : List α} {y : α} {v : V}
theorem XL.step (x : XL e H0 F H p xs) (w : Wf F H F' H') : XL e H0 F' H' p xs := let ⟨vs, a, b⟩ := x.x; ⟨vs, a.step w, b.mono w.g⟩
theorem XL.other {u : HO} (x : XL e H0 F H p xs) (h : p ≠ q) : XL e H0 F (upd H q u) p xs := let ⟨vs, a, b⟩ := x.x; ⟨vs, a.other h, b⟩
theorem XL.ne (x : XL e H0 F H p xs) (h : H q = none) : p ≠ q := let ⟨_, a, _⟩ := x.x; a.ne h
theorem XL.nil (w : Wf F0 H0 F H) (hp : H p = none) : XL e H0 F (upd H p (.lst [])) p [] := ⟨[], Xc.mk' w hp, trivial⟩
theorem XL.frz {u : HO} {β : Type} {e' : Rep β} {ys : List β} (x : XL e H0 F H p xs) (z : Xc H0 F H q u) (h : p ≠ q) : XL e H0 (upd F q u) H p xs := let ⟨vs, a, b⟩ := x.x; ⟨vs, a.frz z h, b.mono (Ex.new z.n)⟩
theorem XL.zero (x : XL e H0 F H p xs) : H0 p = none := let ⟨_, a, _⟩ := x.x; a.z
end
/-! ### typed loops -/
def forW {α S : Type} : List α → S → (α → S → (S → Prop) → (S → Prop) → Prop) → (S → Prop) → Prop
  | [], s, _, k => k s
  | x :: xs, s, b, k => b x s (fun s' => forW xs s' b k) k
def compG {α β : Type} : List α → List β → (α → (Option β → Prop) → Prop) → (List β → Prop) → Prop
  | [], acc, _, k => k acc
  | x :: xs, acc, b, k => b x fun o => compG xs (acc ++ o.toList) b k
def compW {α β : Type} (xs : List α) (b : α → (Option β → Prop) → Prop) (k : List β → Prop) : Prop := compG xs [] b k
def whileW {S : Type} (test : S → (Bool → Prop) → Prop) (body : S → (S → Prop) → (S → Prop) → Prop) (s : S) (k : S → Prop) : Prop :=
  ∃ I : Nat → S → Prop, (∃ m, I m s) ∧ ∀ m s, I m s → test s fun b => if b = true then body s (fun s' => ∃ m', m' < m ∧ I m' s') k else k s

/-! ### steps of readings -/
section
variable {K : PySem.W.Frag} {σ σ1 : L2.St} {H H1 : Hp} {te ta tb tc : TE} {tt tu : TT} {tA tR : TA} {Q : VK} {v w x y z : V} {D : Ends} {t u : TS} {i j : Int} {a b m n : Nat} {p q : Prop}
theorem e_val (h : Val te σ H v) (q : Q v H) : te σ H Q := h Q q
theorem v_eq (h : Val te σ H v) (e : v = w) : Val te σ H w := e ▸ h
theorem vi_of (h : Val te σ H (.int i)) (e : i = j) : Val te σ H (.int j) := e ▸ h
theorem vb_of {b c : Bool} (h : Val te σ H (.bl b)) (e : b = c) : Val te σ H (.bl c) := e ▸ h
theorem v2 {r : R2} (ha : Val ta σ H x) (hb : Val tb σ H y) (hr : ∀ Q : VK, Q z H → r x y H Q) : Val (tOp r ta tb) σ H z := fun Q k => ha _ (hb _ (hr Q k))
theorem v1 {r : V → Hp → VK → Prop} (ha : Val ta σ H x) (hr : ∀ Q : VK, Q z H → r x H Q) : Val (tUn r ta) σ H z := fun Q k => ha _ (hr Q k)
theorem vi0 {g : Int → Int → V} (ha : Val ta σ H (.int i)) (hb : Val tb σ H (.int j)) : Val (tOp (rI0 g) ta tb) σ H (g i j) := fun _ k => ha _ (hb _ ⟨i, j, rfl, rfl, k⟩)
theorem viC {C : Int → Int → Prop} {g : Int → Int → V} (ha : Val ta σ H (.int i)) (hb : Val tb σ H (.int j)) (hc : C i j) : Val (tOp (rI C g) ta tb) σ H (g i j) := fun _ k => ha _ (hb _ ⟨i, j, rfl, rfl, hc, k⟩)
/-! whole numbers from 0 on -/
theorem vn_add (ha : Val ta σ H (.int (a : Int))) (hb : Val tb σ H (.int (b : Int))) : Val (tOp (rI0 fun i j => .int (i + j)) ta tb) σ H (.int ((a + b : Nat) : Int)) := vi_of (vi0 ha hb) (by omega)
theorem vn_sub (ha : Val ta σ H (.int (a : Int))) (hb : Val tb σ H (.int (b : Int))) (h : b ≤ a) : Val (tOp (rI0 fun i j => .int (i - j)) ta tb) σ H (.int ((a - b : Nat) : Int)) := vi_of (vi0 ha hb) (by omega)
def NMul (a b : Nat) : Prop := a < 2 ^ 64 ∨ b < 2 ^ 64
theorem vn_mul (ha : Val ta σ H (.int (a : Int))) (hb : Val tb σ H (.int (b : Int))) (h : NMul a b) : Val (tOp (rI CMul fun i j => .int (i * j)) ta tb) σ H (.int ((a * b : Nat) : Int)) := vi_of (viC ha hb (by
  rcases h with h | h
  · exact .inl ⟨by omega, by omega⟩
  · exact .inr ⟨by omega, by omega⟩)) (by rw [Int.natCast_mul])
theorem vn_mulW (ha : Val ta σ H (.int (a : Int))) (hb : Val tb σ H (.int (b : Int))) (h : CMulX a b) : Val (tOp (rI CMulX fun i j => .int (i * j)) ta tb) σ H (.int ((a * b : Nat) : Int)) := vi_of (viC ha hb h) (by rw [Int.natCast_mul])
def NDiv (b : Nat) : Prop := 0 < b ∧ b.log2 < 9000
theorem vn_div (ha : Val ta σ H (.int (a : Int))) (hb : Val tb σ H (.int (b : Int))) (h : NDiv b) : Val (tOp (rI CDivW fun i j => .int (i / j)) ta tb) σ H (.int ((a / b : Nat) : Int)) := vi_of (viC ha hb ⟨by have := h.1; omega, h.2⟩) (by rw [Int.natCast_ediv])
theorem vi_div (ha : Val ta σ H (.int i)) (hb : Val tb σ H (.int (b : Int))) (h : NDiv b) : Val (tOp (rI CDivW fun i j => .int (i / j)) ta tb) σ H (.int (i / (b : Int))) := viC ha hb ⟨by have := h.1; omega, h.2⟩
theorem vn_mod (ha : Val ta σ H (.int (a : Int))) (hb : Val tb σ H (.int (b : Int))) (h : 0 < b) : Val (tOp (rI (fun _ j => 0 < j) fun i j => .int (i % j)) ta tb) σ H (.int ((a % b : Nat) : Int)) := vi_of (viC (C := fun _ j => 0 < j) ha hb (by omega)) (by rw [Int.natCast_emod])
/-- i % m, as a whole number from 0 on -/
def modN (i : Int) (m : Nat) : Nat := (i % (m : Int)).toNat
theorem modN_cast {i : Int} {m : Nat} (h : 0 < m) : ((modN i m : Nat) : Int) = i % (m : Int) := Int.toNat_of_nonneg (Int.emod_nonneg _ (by omega))
theorem modN_lt {i : Int} {m : Nat} (h : 0 < m) : modN i m < m := by
  have := modN_cast (i := i) h
  have := Int.emod_lt_of_pos i (show (0 : Int) < m by omega)
  omega
theorem vm_mod (ha : Val ta σ H (.int i)) (hb : Val tb σ H (.int (b : Int))) (h : 0 < b) : Val (tOp (rI (fun _ j => 0 < j) fun i j => .int (i % j)) ta tb) σ H (.int ((modN i b : Nat) : Int)) := vi_of (viC (C := fun _ j => 0 < j) ha hb (by omega)) (modN_cast h).symm
theorem bitAnd_N (a b : Nat) : Builtin.bitAnd (a : Int) (b : Int) = ((a &&& b : Nat) : Int) := by
  unfold Builtin.bitAnd
  rw [decide_eq_true (Int.natCast_nonneg a), decide_eq_true (Int.natCast_nonneg b)]
  rfl
theorem bitXor_N (a b : Nat) : Builtin.bitXor (a : Int) (b : Int) = ((a ^^^ b : Nat) : Int) := by rw [Bits.bitXor_pp (Int.natCast_nonneg a) (Int.natCast_nonneg b)]; rfl
theorem bitOr_N (a b : Nat) : Builtin.bitOr (a : Int) (b : Int) = ((a ||| b : Nat) : Int) := by rw [Bits.bitOr_pp (Int.natCast_nonneg a) (Int.natCast_nonneg b)]; rfl
theorem vn_and (ha : Val ta σ H (.int (a : Int))) (hb : Val tb σ H (.int (b : Int))) : Val (tOp (rI0 fun i j => .int (Builtin.bitAnd i j)) ta tb) σ H (.int ((a &&& b : Nat) : Int)) := vi_of (vi0 ha hb) (bitAnd_N a b)
theorem vn_or (ha : Val ta σ H (.int (a : Int))) (hb : Val tb σ H (.int (b : Int))) : Val (tOp (rI0 fun i j => .int (Builtin.bitOr i j)) ta tb) σ H (.int ((a ||| b : Nat) : Int)) := vi_of (vi0 ha hb) (bitOr_N a b)
theorem vn_xor (ha : Val ta σ H (.int (a : Int))) (hb : Val tb σ H (.int (b : Int))) : Val (tOp (rI0 fun i j => .int (Builtin.bitXor i j)) ta tb) σ H (.int ((a ^^^ b : Nat) : Int)) := vi_of (vi0 ha hb) (bitXor_N a b)
/-- i & 1 -/
theorem vm_odd (ha : Val ta σ H (.int i)) (hb : Val tb σ H (.int 1)) : Val (tOp (rI0 fun i j => .int (Builtin.bitAnd i j)) ta tb) σ H (.int ((modN i 2 : Nat) : Int)) := vi_of (vi0 ha hb) (by rw [PyProof.Rows.bitAnd_m1, modN_cast (by decide)]; rfl)
def NShl (a k : Nat) : Prop := a.log2 + k < 100000000
theorem NShl.ok {a k : Nat} (h : NShl a k) : CShl (a : Int) (k : Int) := by
  have e : (2 : Int) ^ 27 = 134217728 := by decide
  refine ⟨Int.natCast_nonneg _, ?_⟩
  rw [e]
  have b : Builtin.Int.intBits (a : Int) ≤ a.log2 + 1 := by
    unfold Builtin.Int.intBits
    split
    · omega
    · exact Nat.le_refl _
  unfold NShl at h
  omega
theorem vn_shl (ha : Val ta σ H (.int (a : Int))) (hb : Val tb σ H (.int (b : Int))) (h : NShl a b) : Val (tOp (rI CShl fun i j => .int (i * 2 ^ j.toNat)) ta tb) σ H (.int ((a <<< b : Nat) : Int)) := vi_of (viC ha hb h.ok) (by
  rw [Int.toNat_natCast, Nat.shiftLeft_eq, Int.natCast_mul, Int.natCast_pow]; rfl)
theorem vn_one (ha : Val ta σ H (.int 1)) (hb : Val tb σ H (.int (b : Int))) (h : b < 100000000) : Val (tOp (rI CShl fun i j => .int (i * 2 ^ j.toNat)) ta tb) σ H (.int ((2 ^ b : Nat) : Int)) := vi_of (vn_shl (a := 1) ha hb (by
  unfold NShl
  have : Nat.log2 1 = 0 := by decide
  omega)) (by rw [Nat.shiftLeft_eq, Nat.one_mul])
theorem vi_shl (ha : Val ta σ H (.int i)) (hb : Val tb σ H (.int (b : Int))) (h : CShl i (b : Int)) : Val (tOp (rI CShl fun i j => .int (i * 2 ^ j.toNat)) ta tb) σ H (.int (i * 2 ^ b)) := vi_of (viC ha hb h) (by rw [Int.toNat_natCast])
theorem vi_shr (ha : Val ta σ H (.int i)) (hb : Val tb σ H (.int (b : Int))) : Val (tOp (rI (fun _ j => 0 ≤ j) fun i j => .int (i / 2 ^ j.toNat)) ta tb) σ H (.int (i / 2 ^ b)) := vi_of (viC (C := fun _ j => 0 ≤ j) ha hb (Int.natCast_nonneg _)) (by rw [Int.toNat_natCast])
theorem vn_shr (ha : Val ta σ H (.int (a : Int))) (hb : Val tb σ H (.int (b : Int))) : Val (tOp (rI (fun _ j => 0 ≤ j) fun i j => .int (i / 2 ^ j.toNat)) ta tb) σ H (.int ((a >>> b : Nat) : Int)) := vi_of (vi_shr ha hb) (by
  rw [Nat.shiftRight_eq_div_pow, Int.natCast_ediv, Int.natCast_pow]; rfl)
theorem v_neg (ha : Val ta σ H (.int i)) : Val (tUn (rU fun i => .int (-i)) ta) σ H (.int (-i)) := v1 ha fun _ k => ⟨i, rfl, k⟩
theorem vn_pow {c : Nat} (ha : Val ta σ H (.int (a : Int))) (hb : Val tb σ H (.int (b : Int))) (h : b ≤ 1000000 ∧ a < 2 ^ 64) (e : a ^ b = c) : Val (tOp (rI CPow fun i j => .int (i ^ j.toNat)) ta tb) σ H (.int (c : Int)) := vi_of (viC ha hb ⟨Int.natCast_nonneg _, by omega, by omega⟩) (by
  rw [Int.toNat_natCast, ← e, Int.natCast_pow])
theorem vn_bits (ha : Val ta σ H (.int (a : Int))) : Val (tBits ta) σ H (.int ((Builtin.Int.intBits (a : Int) : Nat) : Int)) := fun _ k => ha _ ⟨_, rfl, k⟩
/-! comparisons, as truths -/
theorem c_lt (ha : Val ta σ H (.int i)) (hb : Val tb σ H (.int j)) : Val (tOp (rI0 fun i j => .bl (decide (i < j))) ta tb) σ H (.bl (decide (i < j))) := vi0 ha hb
theorem c_le (ha : Val ta σ H (.int i)) (hb : Val tb σ H (.int j)) : Val (tOp (rI0 fun i j => .bl (decide (i ≤ j))) ta tb) σ H (.bl (decide (i ≤ j))) := vi0 ha hb
theorem c_gt (ha : Val ta σ H (.int i)) (hb : Val tb σ H (.int j)) : Val (tOp (rI0 fun i j => .bl (decide (j < i))) ta tb) σ H (.bl (decide (j < i))) := vi0 ha hb
theorem c_ge (ha : Val ta σ H (.int i)) (hb : Val tb σ H (.int j)) : Val (tOp (rI0 fun i j => .bl (decide (j ≤ i))) ta tb) σ H (.bl (decide (j ≤ i))) := vi0 ha hb
theorem dec_iff {p q : Prop} [Decidable p] [Decidable q] (h : p ↔ q) : decide p = decide q := by
  by_cases k : p
  · rw [decide_eq_true k, decide_eq_true (h.mp k)]
  · rw [decide_eq_false k, decide_eq_false (fun z => k (h.mpr z))]
theorem vb_dec [Decidable p] [Decidable q] (h : Val te σ H (.bl (decide p))) (e : p ↔ q) : Val te σ H (.bl (decide q)) := vb_of h (dec_iff e)
theorem c_eqI (ha : Val ta σ H (.int i)) (hb : Val tb σ H (.int j)) : Val (tOp rEq ta tb) σ H (.bl (decide (i = j))) := v2 ha hb fun Q k => ⟨rfl, by
  rw [dec_iff (show V.int i = V.int j ↔ i = j from ⟨fun h => V.int.inj h, fun h => by rw [h]⟩)]; exact k⟩
theorem c_neI (ha : Val ta σ H (.int i)) (hb : Val tb σ H (.int j)) : Val (tOp rNe ta tb) σ H (.bl (decide (i ≠ j))) := v2 ha hb fun Q k => ⟨rfl, by
  rw [← decide_not, dec_iff (show ¬ V.int i = V.int j ↔ i ≠ j from ⟨fun h e => h (by rw [e]), fun h e => h (V.int.inj e)⟩)]; exact k⟩
theorem c_eqS {s r : Str} (ha : Val ta σ H (.str s)) (hb : Val tb σ H (.str r)) : Val (tOp rEq ta tb) σ H (.bl (decide (s = r))) := v2 ha hb fun Q k => ⟨rfl, by
  rw [dec_iff (show V.str s = V.str r ↔ s = r from ⟨fun h => V.str.inj h, fun h => by rw [h]⟩)]; exact k⟩
theorem c_neS {s r : Str} (ha : Val ta σ H (.str s)) (hb : Val tb σ H (.str r)) : Val (tOp rNe ta tb) σ H (.bl (decide (s ≠ r))) := v2 ha hb fun Q k => ⟨rfl, by
  rw [← decide_not, dec_iff (show ¬ V.str s = V.str r ↔ s ≠ r from ⟨fun h e => h (by rw [e]), fun h e => h (V.str.inj e)⟩)]; exact k⟩
theorem c_eqB {s r : Bool} (ha : Val ta σ H (.bl s)) (hb : Val tb σ H (.bl r)) : Val (tOp rEq ta tb) σ H (.bl (decide (s = r))) := v2 ha hb fun Q k => ⟨rfl, by
  rw [dec_iff (show V.bl s = V.bl r ↔ s = r from ⟨fun h => V.bl.inj h, fun h => by rw [h]⟩)]; exact k⟩
theorem c_neB {s r : Bool} (ha : Val ta σ H (.bl s)) (hb : Val tb σ H (.bl r)) : Val (tOp rNe ta tb) σ H (.bl (decide (s ≠ r))) := v2 ha hb fun Q k => ⟨rfl, by
  rw [← decide_not, dec_iff (show ¬ V.bl s = V.bl r ↔ s ≠ r from ⟨fun h e => h (by rw [e]), fun h e => h (V.bl.inj e)⟩)]; exact k⟩
/-- numbers from 0 on: the comparison without casts -/
theorem n_lt : ((a : Int) < (b : Int)) ↔ a < b := by omega
theorem n_le : ((a : Int) ≤ (b : Int)) ↔ a ≤ b := by omega
theorem n_eq : ((a : Int) = (b : Int)) ↔ a = b := by omega
theorem n_ne : ((a : Int) ≠ (b : Int)) ↔ a ≠ b := by omega
/-- a < b < c -/
theorem v_chain {r r' : R2} {b1 b2 : Bool} (ha : Val ta σ H x) (hb : Val tb σ H y) (hc : Val tc σ H z) (h1 : ∀ Q : VK, Q (.bl b1) H → r x y H Q) (h2 : ∀ Q : VK, Q (.bl b2) H → r' y z H Q) : Val (tChain r r' ta tb tc) σ H (.bl (b1 && b2)) := fun Q k => ha _ (hb _ (h1 _ ⟨b1, rfl, by
  cases b1 with
  | true => rw [if_pos rfl]; exact hc _ (h2 _ (by simpa using k))
  | false => rw [if_neg (by simp)]; simpa using k⟩))
/-! truths as tests -/
theorem t_of (h : Val te σ H (.bl b')) : Ans (tTest te) σ H b' := fun _ k => h _ ⟨_, rfl, k⟩
theorem t_ofB (h : Val te σ H (.bl b')) : Ans (tB te) σ H b' := fun _ k => h _ ⟨_, rfl, k⟩
theorem t_dec {b c : Bool} (h : Ans tt σ H b) (e : b = c) : Ans tt σ H c := e ▸ h
theorem t_iff [Decidable p] [Decidable q] (h : Ans tt σ H (decide p)) (e : p ↔ q) : Ans tt σ H (decide q) := t_dec h (dec_iff e)
theorem t_not [Decidable p] (h : Ans tt σ H (decide p)) : Ans (tNot tt) σ H (decide (¬ p)) := fun Q k => h _ (by rw [← decide_not]; exact k)
theorem t_and [Decidable p] [Decidable q] (h : Ans tt σ H (decide p)) (h2 : p → Ans tu σ H (decide q)) : Ans (tAnd tt tu) σ H (decide (p ∧ q)) := fun Q k => h _ (by
  by_cases hp : p
  · rw [decide_eq_true hp, if_pos rfl]
    exact h2 hp Q (by rw [dec_iff (show q ↔ p ∧ q from ⟨fun z => ⟨hp, z⟩, fun z => z.2⟩)]; exact k)
  · rw [decide_eq_false hp, if_neg (by simp)]
    rw [decide_eq_false (fun z => hp z.1)] at k
    exact k)
theorem t_or [Decidable p] [Decidable q] (h : Ans tt σ H (decide p)) (h2 : ¬ p → Ans tu σ H (decide q)) : Ans (tOr tt tu) σ H (decide (p ∨ q)) := fun Q k => h _ (by
  by_cases hp : p
  · rw [decide_eq_true hp, if_pos rfl]
    rw [decide_eq_true (Or.inl hp)] at k
    exact k
  · rw [decide_eq_false hp, if_neg (by simp)]
    exact h2 hp Q (by rw [dec_iff (show q ↔ p ∨ q from ⟨fun z => .inr z, fun z => z.resolve_left hp⟩)]; exact k))
/-! the same as values -/
theorem vt_not [Decidable p] (h : Val te σ H (.bl (decide p))) : Val (tNotV te) σ H (.bl (decide (¬ p))) := fun Q k => h _ ⟨_, rfl, by rw [← decide_not]; exact k⟩
theorem vt_and [Decidable p] [Decidable q] (h : Val ta σ H (.bl (decide p))) (h2 : p → Val tb σ H (.bl (decide q))) : Val (tAndV ta tb) σ H (.bl (decide (p ∧ q))) := fun Q k => h _ ⟨_, rfl, by
  by_cases hp : p
  · rw [decide_eq_true hp, if_pos rfl]
    exact h2 hp Q (by rw [dec_iff (show q ↔ p ∧ q from ⟨fun z => ⟨hp, z⟩, fun z => z.2⟩)]; exact k)
  · rw [decide_eq_false hp, if_neg (by simp)]
    rw [decide_eq_false (fun z => hp z.1)] at k
    exact k⟩
theorem vt_or [Decidable p] [Decidable q] (h : Val ta σ H (.bl (decide p))) (h2 : ¬ p → Val tb σ H (.bl (decide q))) : Val (tOrV ta tb) σ H (.bl (decide (p ∨ q))) := fun Q k => h _ ⟨_, rfl, by
  by_cases hp : p
  · rw [decide_eq_true hp, if_pos rfl]
    rw [decide_eq_true (Or.inl hp)] at k
    exact k
  · rw [decide_eq_false hp, if_neg (by simp)]
    exact h2 hp Q (by rw [dec_iff (show q ↔ p ∨ q from ⟨fun z => .inr z, fun z => z.resolve_left hp⟩)]; exact k)⟩
theorem v_if [Decidable p] (h : Ans tt σ H (decide p)) (h1 : p → Val ta σ H x) (h2 : ¬ p → Val tb σ H x) : Val (tIf tt ta tb) σ H x := fun Q k => h _ (by
  by_cases hp : p
  · rw [decide_eq_true hp, if_pos rfl]; exact h1 hp Q k
  · rw [decide_eq_false hp, if_neg (by simp)]; exact h2 hp Q k)
/-! calls -/
theorem e_call {sp : Sp} {E : XK} (h : tA σ H fun vs H1 => sp vs H1 Q E) : tCall sp [] E tA σ H Q := by
  show tA σ H fun vs H1 => sp (vs ++ []) H1 Q E
  simpa only [List.append_nil] using h
theorem a_nil {R : List V → Hp → Prop} (h : R [] H) : tNil σ H R := h
theorem a_cons {R : List V → Hp → Prop} (h : te σ H fun x H1 => tR σ H1 fun xs H2 => R (x :: xs) H2) : tCons te tR σ H R := h
theorem a_val {R : List V → Hp → Prop} (h : Val te σ H v) (k : tR σ H fun xs H2 => R (v :: xs) H2) : tCons te tR σ H R := h _ k
theorem v_cb1 {r : List V → Hp → VK → Prop} (ha : Val ta σ H x) (hr : ∀ Q : VK, Q z H → r [x] H Q) : Val (tCB r (tCons ta tNil)) σ H z := fun Q k => ha _ (hr Q k)
theorem v_cb2 {r : List V → Hp → VK → Prop} (ha : Val ta σ H x) (hb : Val tb σ H y) (hr : ∀ Q : VK, Q z H → r [x, y] H Q) : Val (tCB r (tCons ta (tCons tb tNil))) σ H z := fun Q k => ha _ (hb _ (hr Q k))
/-! statements -/
theorem q_seq (h : t { D with nx := u D } σ H) : tSeq t u D σ H := h
theorem q_sq (h : ∀ N : L2.St → Hp → Prop, (∀ σ' H', u D σ' H' → N σ' H') → t { D with nx := N } σ H) : tSeq t u D σ H := h _ fun _ _ z => z
theorem a_asg {i : Nat} (h : Val te σ H v) (q : D.nx (σ.set i (some v)) H) : tAsg te (gName i) D σ H := h _ q
theorem a_asgE {i : Nat} (h : te σ H fun v H1 => D.nx (σ.set i (some v)) H1) : tAsg te (gName i) D σ H := h
theorem a_ret (h : Val te σ H v) (q : D.rt v H) : tRet te D σ H := h _ q
theorem a_retE (h : te σ H D.rt) : tRet te D σ H := h
theorem a_dropE (h : te σ H fun _ H1 => D.nx σ H1) : tDrop te D σ H := h
theorem a_aug {i : Nat} {ti : TIp} (hx : σ[i]? = some (some x)) (h : Val te σ H y) (hr : ∀ Q : VK, Q z H → ti x y H Q) (q : D.nx (σ.set i (some z)) H) : tAug i te ti D σ H := ⟨x, hx, h _ (hr _ q)⟩
theorem a_if [Decidable p] (h : Ans tt σ H (decide p)) (h1 : p → t D σ H) (h2 : ¬ p → u D σ H) : tIfS tt t u D σ H := h _ (by
  by_cases hp : p
  · rw [decide_eq_true hp, if_pos rfl]; exact h1 hp
  · rw [decide_eq_false hp, if_neg (by simp)]; exact h2 hp)
theorem a_ifE (h : tt σ H fun b H1 => if b = true then t D σ H1 else u D σ H1) : tIfS tt t u D σ H := h
theorem ifP [Decidable p] {A B : Prop} (h : if p then A else B) (hp : p) : A := by rw [if_pos hp] at h; exact h
theorem ifN [Decidable p] {A B : Prop} (h : if p then A else B) (hp : ¬ p) : B := by rw [if_neg hp] at h; exact h
end
end Wk

namespace Wk
open PySem L2
/-! ### data that is compared -/
class Dat {α : Type} (e : Rep α) (lv : outParam Nat) where
  d : α → PyData
  dp : ∀ {K : PySem.W.Frag} {F : Hp} {v : V} {x : α}, e.r F v x → Dp K F v (d x)
  lay : ∀ x, (d x).canLay0 = true
  dep : ∀ x, (d x).depth ≤ lv
  inj : ∀ x y, PyData.eqv (d x) (d y) = true ↔ x = y
instance : Dat pI 0 := ⟨.int, fun h => by cases (show _ = V.int _ from h); exact .int _, fun _ => rfl, fun _ => Nat.le_refl _, fun x y => by
  show ((x == y) = true) ↔ _
  exact beq_iff_eq⟩
instance : Dat pN 0 := ⟨fun n => .int (n : Int), fun h => by cases (show _ = V.int _ from h); exact .int _, fun _ => rfl, fun _ => Nat.le_refl _, fun x y => by
  show (((x : Int) == (y : Int)) = true) ↔ _
  rw [beq_iff_eq]; omega⟩
instance : Dat pB 0 := ⟨.bool, fun h => by cases (show _ = V.bl _ from h); exact .bl _, fun _ => rfl, fun _ => Nat.le_refl _, fun x y => by
  show ((x == y) = true) ↔ _
  exact beq_iff_eq⟩
theorem lay_all {α : Type} {d : α → PyData} (h : ∀ x, (d x).canLay0 = true) : ∀ xs : List α, PyData.canLayAll0 (xs.map d) = true
  | [] => rfl
  | x :: xs => by show (PyData.canLay0 (d x) && PyData.canLayAll0 (xs.map d)) = true; rw [h x, lay_all h xs]; rfl
theorem dep_all {α : Type} {d : α → PyData} {n : Nat} (h : ∀ x, (d x).depth ≤ n) : ∀ xs : List α, PyData.depthAll (xs.map d) ≤ n
  | [] => Nat.zero_le _
  | x :: xs => by
    show PyData.depthAll (d x :: xs.map d) ≤ n
    have a := h x
    have b := dep_all h xs
    simp only [PyData.depthAll]
    omega
theorem eqv_all {α : Type} {d : α → PyData} (h : ∀ x y, PyData.eqv (d x) (d y) = true ↔ x = y) : ∀ xs ys : List α, PyData.eqvAll (xs.map d) (ys.map d) = true ↔ xs = ys
  | [], [] => ⟨fun _ => rfl, fun _ => rfl⟩
  | x :: xs, [] => ⟨fun q => (by cases q), fun q => (by cases q)⟩
  | [], y :: ys => ⟨fun q => (by cases q), fun q => (by cases q)⟩
  | x :: xs, y :: ys => by
    show (PyData.eqv (d x) (d y) && PyData.eqvAll (xs.map d) (ys.map d)) = true ↔ _
    rw [Bool.and_eq_true, h x y, eqv_all h xs ys, List.cons.injEq]
theorem dp_all {α : Type} {e : Rep α} {lv : Nat} [Dat e lv] {K : PySem.W.Frag} {F : Hp} : ∀ {vs : List V} {xs : List α}, All e F vs xs → DpAll K F vs (xs.map (Dat.d e))
  | [], [], _ => .nil
  | _ :: _, _ :: _, ⟨a, b⟩ => .cons (Dat.dp a) (dp_all b)
  | [], _ :: _, q => q.elim
  | _ :: _, [], q => q.elim
instance {α : Type} {e : Rep α} {n : Nat} [Dat e n] : Dat (pL e) (n + 1) := ⟨fun xs => .list (xs.map (Dat.d e)), fun {K F v xs} h => by
    obtain ⟨p, vs, rfl, hp, a⟩ := h
    exact .lst (SqL.of hp) (dp_all a), fun xs => lay_all (Dat.lay (e := e)) xs, fun xs => by
    have := dep_all (Dat.dep (e := e)) xs
    simp only [PyData.depth]
    omega, fun xs ys => by
    show PyData.eqvAll (xs.map (Dat.d e)) (ys.map (Dat.d e)) = true ↔ _
    exact eqv_all (Dat.inj (e := e)) xs ys⟩
instance {α : Type} {e : Rep α} {n : Nat} [Dat e n] : Dat (pTL e) (n + 1) := ⟨fun xs => .tuple (xs.map (Dat.d e)), fun {K F v xs} h => by
    obtain ⟨p, vs, rfl, hp, a⟩ := h
    exact .tup (SqT.of hp) (dp_all a), fun xs => lay_all (Dat.lay (e := e)) xs, fun xs => by
    have := dep_all (Dat.dep (e := e)) xs
    simp only [PyData.depth]
    omega, fun xs ys => by
    show PyData.eqvAll (xs.map (Dat.d e)) (ys.map (Dat.d e)) = true ↔ _
    exact eqv_all (Dat.inj (e := e)) xs ys⟩
instance {α β : Type} {e : Rep α} {f : Rep β} {n m : Nat} [Dat e n] [Dat f m] : Dat (pT2 e f) (max n m + 1) := ⟨fun x => .tuple [Dat.d e x.1, Dat.d f x.2], fun {K F v x} h => by
    obtain ⟨p, u, w, rfl, hp, a, b⟩ := h
    exact .tup (SqT.of hp) (.cons (Dat.dp a) (.cons (Dat.dp b) .nil)), fun x => by
    show (PyData.canLay0 (Dat.d e x.1) && (PyData.canLay0 (Dat.d f x.2) && PyData.canLayAll0 [])) = true
    rw [Dat.lay, Dat.lay]; rfl, fun x => by
    have a := Dat.dep (e := e) x.1
    have b := Dat.dep (e := f) x.2
    simp only [PyData.depth, PyData.depthAll]
    omega, fun x y => by
    show (PyData.eqv (Dat.d e x.1) (Dat.d e y.1) && (PyData.eqv (Dat.d f x.2) (Dat.d f y.2) && PyData.eqvAll [] [])) = true ↔ _
    have z : PyData.eqvAll [] [] = true := rfl
    rw [z, Bool.and_true, Bool.and_eq_true, Dat.inj, Dat.inj, Prod.ext_iff]⟩
theorem Dat.shp {α : Type} {e : Rep α} {n : Nat} [Dat e n] (h : n ≤ 64) (x : α) : SeqAt.shaped (Dat.d e x) = true := by
  unfold SeqAt.shaped
  rw [Dat.lay, decide_eq_true (Nat.le_trans (Dat.dep x) h)]; rfl
section
variable {α β : Type} {e : Rep α} {f : Rep β} {K : PySem.W.Frag} {σ : L2.St} {F0 H0 F F' H H' : Hp} {te tl ta tb : TE} {tt : TT} {tA : TA} {Q : VK} {v w u : V} {xs ys : List α} {x y : α} {D : Ends} {tu : TS} {p q : Addr} {n : Nat} {i : Int}
theorem c_eqD [DecidableEq α] [Dat e n] (ha : Val ta σ H v) (hb : Val tb σ H w) (f : Ex F H) (r : e.r F v x) (g : Ex F' H) (s : e.r F' w y) (h : n ≤ 64 := by decide) : Val (tOp (rEqD K) ta tb) σ H (.bl (decide (x = y))) :=
  v2 ha hb fun Q k => ⟨_, _, Dat.dp (e.mono f r), Dat.dp (e.mono g s), Dat.shp h x, Dat.shp h y, by
    have z : PyData.eqv (Dat.d e x) (Dat.d e y) = decide (x = y) := Bool.eq_iff_iff.mpr (by rw [Dat.inj, decide_eq_true_iff])
    rw [z]; exact k⟩
theorem c_neD [DecidableEq α] [Dat e n] (ha : Val ta σ H v) (hb : Val tb σ H w) (f : Ex F H) (r : e.r F v x) (g : Ex F' H) (s : e.r F' w y) (h : n ≤ 64 := by decide) : Val (tOp (rNeD K) ta tb) σ H (.bl (decide (x ≠ y))) :=
  v2 ha hb fun Q k => ⟨_, _, Dat.dp (e.mono f r), Dat.dp (e.mono g s), Dat.shp h x, Dat.shp h y, by
    have z : PyData.eqv (Dat.d e x) (Dat.d e y) = decide (x = y) := Bool.eq_iff_iff.mpr (by rw [Dat.inj, decide_eq_true_iff])
    rw [z, ← decide_not]; exact k⟩
/-! ### lists that are read -/
theorem XL.rd (z : XL e H0 F H p xs) : ∃ vs, H p = some (.lst vs) ∧ All e F vs xs := let ⟨vs, a, b⟩ := z.x; ⟨vs, a.h, b⟩
theorem L_rd (r : (pL e).r F v xs) (f : Ex F H) : ∃ p vs, v = .ref p ∧ H p = some (.lst vs) ∧ All e F vs xs := let ⟨p, vs, a, b, c⟩ := r; ⟨p, vs, a, f _ _ b, c⟩
theorem TL_rd (r : (pTL e).r F v xs) (f : Ex F H) : ∃ p vs, v = .ref p ∧ H p = some (.tup vs) ∧ All e F vs xs := let ⟨p, vs, a, b, c⟩ := r; ⟨p, vs, a, f _ _ b, c⟩
theorem ix_L (r : (pL e).r F v xs) (f : Ex F H) {i : Nat} (hx : xs[i]? = some x) : ∃ w, e.r F w x ∧ ∀ ⦃σ ta tb⦄, Val ta σ H v → Val tb σ H (.int (i : Int)) → Val (tOp (rIxL K) ta tb) σ H w := by
  obtain ⟨p, vs, rfl, hp, a⟩ := L_rd r f
  obtain ⟨w, h1, h2⟩ := a.get hx
  exact ⟨w, h2, fun _ _ _ ha hb => v2 ha hb fun Q k => ⟨p, vs, _, w, rfl, rfl, SqL.of hp, atI_nat h1, k⟩⟩
theorem ix_X (r : XL e H0 F H p xs) {i : Nat} (hx : xs[i]? = some x) : ∃ w, e.r F w x ∧ ∀ ⦃σ ta tb⦄, Val ta σ H (.ref p) → Val tb σ H (.int (i : Int)) → Val (tOp (rIxL K) ta tb) σ H w := by
  obtain ⟨vs, hp, a⟩ := r.rd
  obtain ⟨w, h1, h2⟩ := a.get hx
  exact ⟨w, h2, fun _ _ _ ha hb => v2 ha hb fun Q k => ⟨p, vs, _, w, rfl, rfl, SqL.of hp, atI_nat h1, k⟩⟩
theorem ix_TL (r : (pTL e).r F v xs) (f : Ex F H) {i : Nat} (hx : xs[i]? = some x) : ∃ w, e.r F w x ∧ ∀ ⦃σ ta tb⦄, Val ta σ H v → Val tb σ H (.int (i : Int)) → Val (tOp (rIxT K) ta tb) σ H w := by
  obtain ⟨p, vs, rfl, hp, a⟩ := TL_rd r f
  obtain ⟨w, h1, h2⟩ := a.get hx
  exact ⟨w, h2, fun _ _ _ ha hb => v2 ha hb fun Q k => ⟨p, vs, _, w, rfl, rfl, SqT.of hp, atI_nat h1, k⟩⟩
theorem ix_S (f : Ex F H) {ys : List Int} {i : Nat} {x : Int} (r : (pScr K).r F v ys) (hx : ys[i]? = some x) : ∀ ⦃σ ta tb⦄, Val ta σ H v → Val tb σ H (.int (i : Int)) → Val (tOp (rIxL K) ta tb) σ H (.int x) := by
  obtain ⟨p, rfl, s⟩ := (pScr K).mono f r
  exact fun _ _ _ ha hb => v2 ha hb fun Q k => ⟨p, _, _, .int x, rfl, rfl, s, atI_nat (by rw [List.getElem?_map, hx]; rfl), k⟩
theorem ix_2a {e : Rep α} {f : Rep β} {x : α × β} (r : (pT2 e f).r F v x) (h : Ex F H) : ∃ w, e.r F w x.1 ∧ ∀ ⦃σ ta tb⦄, Val ta σ H v → Val tb σ H (.int 0) → Val (tOp (rIxT K) ta tb) σ H w := by
  obtain ⟨p, u, w, rfl, hp, a, b⟩ := r
  exact ⟨u, a, fun _ _ _ ha hb => v2 ha hb fun Q k => ⟨p, _, _, u, rfl, rfl, SqT.of (h _ _ hp), rfl, k⟩⟩
theorem ix_2b {e : Rep α} {f : Rep β} {x : α × β} (r : (pT2 e f).r F v x) (h : Ex F H) : ∃ w, f.r F w x.2 ∧ ∀ ⦃σ ta tb⦄, Val ta σ H v → Val tb σ H (.int 1) → Val (tOp (rIxT K) ta tb) σ H w := by
  obtain ⟨p, u, w, rfl, hp, a, b⟩ := r
  exact ⟨w, b, fun _ _ _ ha hb => v2 ha hb fun Q k => ⟨p, _, _, w, rfl, rfl, SqT.of (h _ _ hp), rfl, k⟩⟩
/-! len -/
def rLen (K : PySem.W.Frag) : List V → Hp → VK → Prop := fun xs H Q => ∃ p ys, xs = [.ref p] ∧ (SqL K H p ys ∨ SqT K H p ys) ∧ Q (.int ys.length) H
theorem len_L (r : (pL e).r F v xs) (f : Ex F H) (ha : Val ta σ H v) : Val (tCB (rLen K) (tCons ta tNil)) σ H (.int ((xs.length : Nat) : Int)) := by
  obtain ⟨p, vs, rfl, hp, a⟩ := L_rd r f
  exact v_cb1 ha fun Q k => ⟨p, vs, rfl, .inl (SqL.of hp), by rw [a.len]; exact k⟩
theorem len_TL (r : (pTL e).r F v xs) (f : Ex F H) (ha : Val ta σ H v) : Val (tCB (rLen K) (tCons ta tNil)) σ H (.int ((xs.length : Nat) : Int)) := by
  obtain ⟨p, vs, rfl, hp, a⟩ := TL_rd r f
  exact v_cb1 ha fun Q k => ⟨p, vs, rfl, .inr (SqT.of hp), by rw [a.len]; exact k⟩
theorem len_X (r : XL e H0 F H p xs) (ha : Val ta σ H (.ref p)) : Val (tCB (rLen K) (tCons ta tNil)) σ H (.int ((xs.length : Nat) : Int)) := by
  obtain ⟨vs, hp, a⟩ := r.rd
  exact v_cb1 ha fun Q k => ⟨p, vs, rfl, .inl (SqL.of hp), by rw [a.len]; exact k⟩
theorem len_S {ys : List Int} (r : (pScr K).r F v ys) (f : Ex F H) (ha : Val ta σ H v) : Val (tCB (rLen K) (tCons ta tNil)) σ H (.int ((ys.length : Nat) : Int)) := by
  obtain ⟨p, rfl, s⟩ := (pScr K).mono f r
  exact v_cb1 ha fun Q k => ⟨p, _, rfl, .inl s, by rw [List.length_map]; exact k⟩
theorem len_T2 {e : Rep α} {f : Rep β} {x : α × β} (r : (pT2 e f).r F v x) (h : Ex F H) (ha : Val ta σ H v) : Val (tCB (rLen K) (tCons ta tNil)) σ H (.int ((2 : Nat) : Int)) := by
  obtain ⟨p, u, w, rfl, hp, a, b⟩ := r
  exact v_cb1 ha fun Q k => ⟨p, _, rfl, .inr (SqT.of (h _ _ hp)), k⟩
/-! ### new things -/
def kLst (Q : VK) (xs : List V) (H : Hp) : Prop := xs.length ≤ sizeLine ∧ ∀ p, H p = none → Q (.ref p) (upd H p (.lst xs))
def kTup (Q : VK) (xs : List V) (H : Hp) : Prop := xs.length ≤ sizeLine ∧ ∀ p, H p = none → Q (.ref p) (upd H p (.tup xs))
theorem small_len {n : Nat} (h : n < 1000000) : n < sizeLine := by rw [sizeLine_eq]; omega
theorem n_lstX {vs : List V} (a : All e F vs xs) (hl : xs.length < 1000000) (w : Wf F0 H0 F H) (k : ∀ p H', H p = none → Wf F H F H' → XL e H0 F H' p xs → Q (.ref p) H') :
    kLst Q vs H := ⟨by rw [a.len]; exact Nat.le_of_lt (small_len hl), fun p hp => k p _ hp (Wf.newX w.f hp) ⟨vs, Xc.mk' w hp, a⟩⟩
theorem n_lst {vs : List V} (a : All e F vs xs) (hl : xs.length < 1000000) (w : Wf F0 H0 F H) (k : ∀ p F' H', Wf F H F' H' → (pL e).r F' (.ref p) xs → Q (.ref p) H') :
    kLst Q vs H := ⟨by rw [a.len]; exact Nat.le_of_lt (small_len hl), fun p hp => k p _ _ (Wf.new w.f hp) ⟨p, vs, rfl, upd_same, a.mono (Ex.new (w.f.non hp))⟩⟩
theorem n_tup2 {e : Rep α} {f : Rep β} {x : α} {y : β} (a : e.r F v x) (b : f.r F w y) (h : Wf F0 H0 F H) (k : ∀ p F' H', Wf F H F' H' → (pT2 e f).r F' (.ref p) (x, y) → Q (.ref p) H') :
    kTup Q [v, w] H := ⟨Nat.le_of_lt (small_len (n := 2) (by decide)), fun p hp => k p _ _ (Wf.new h.f hp) ⟨p, v, w, rfl, upd_same, e.mono (Ex.new (h.f.non hp)) a, f.mono (Ex.new (h.f.non hp)) b⟩⟩
/-- one's own list is changed no more -/
theorem XL.frzE (x : XL e H0 F H p xs) (w : Wf F0 H0 F H) : ∃ F', Wf F0 H0 F' H ∧ Ex F F' ∧ (pL e).r F' (.ref p) xs ∧ (∀ q o, Xc H0 F H q o → q ≠ p → Xc H0 F' H q o) := by
  obtain ⟨vs, a, b⟩ := x.x
  exact ⟨_, w.freeze a, Ex.new a.n, ⟨p, vs, rfl, upd_same, b.mono (Ex.new a.n)⟩, fun q o z h => z.frz a h⟩
/-- for a while one's own list is read by others -/
theorem XL.lend (x : XL e H0 F H p xs) (w : Wf F0 H0 F H) : ∃ F', Ex F' H ∧ Ex F F' ∧ (pL e).r F' (.ref p) xs := let ⟨F', a, b, c, _⟩ := x.frzE w; ⟨F', a.f, b, c⟩
/-! append, and the like -/
theorem a_app (x : XL e H0 F H p xs) (w : Wf F0 H0 F H) (hl : xs.length < 1000000) (r : e.r F v y) (k : ∀ H', Wf F0 H0 F H' → XL e H0 F H' p (xs ++ [y]) → (∀ q o, H q = some o → q ≠ p → H' q = some o) → Q .non H') : rAppend (.ref p) [v] H Q := by
  obtain ⟨vs, a, b⟩ := x.x
  exact ⟨p, vs, v, rfl, rfl, a.h, by rw [b.len]; exact small_len hl, k _ (w.set a) ⟨_, a.set, b.snoc r⟩ fun q o h hq => by rw [upd_ne hq]; exact h⟩
/-- another's place is as it was -/
theorem Xc.kept {o : HO} (x : Xc H0 F H q o) (h : ∀ q o, H q = some o → q ≠ p → H' q = some o) (hq : q ≠ p) : Xc H0 F H' q o := ⟨x.z, x.n, h _ _ x.h hq⟩
theorem XL.kept (x : XL e H0 F H q xs) (h : ∀ q o, H q = some o → q ≠ p → H' q = some o) (hq : q ≠ p) : XL e H0 F H' q xs := let ⟨vs, a, b⟩ := x.x; ⟨vs, a.kept h hq, b⟩
/-! ### loops -/
variable {S : Type} {R : Type} {g : TG} {tb : TS} {body : β → S → (S → Prop) → (S → Prop) → Prop} {s0 : S} {k : S → Prop} {vs : List V} {zs : List β} {b : Rep β}
/-- over a list that stays -/
theorem w_forL (Inv : S → L2.St → Hp → Hp → Prop) (r : (pL b).r F v zs) (hW : forW zs s0 body k) (h0 : Inv s0 σ F H)
    (ex : ∀ s σ' F' H', Inv s σ' F' H' → Ex F F' ∧ Ex F' H') (f : Ex F H)
    (turn : ∀ (N Bk : L2.St → Hp → Prop) x u s σ' F' H' (nx bk : S → Prop), Inv s σ' F' H' → x ∈ zs → b.r F' u x → body x s nx bk → (∀ s' σ2 F2 H2, Inv s' σ2 F2 H2 → nx s' → N σ2 H2) → (∀ s' σ2 F2 H2, Inv s' σ2 F2 H2 → bk s' → Bk σ2 H2) →
      g u σ' H' fun σ2 H2 => tb { D with nx := N, ct := N, bk := Bk } σ2 H2)
    (done : ∀ s σ' F' H', Inv s σ' F' H' → k s → D.nx σ' H') :
    ∃ a, v = .ref a ∧ (∃ xs, SqL K H a xs) ∧ (fun J H1 => ∃ W : Nat → Nat → L2.St → Hp → Prop, (∃ m, W 0 m σ H1) ∧ ∀ i m σ H, W i m σ H →
      (J.stop i H ∧ D.nx σ H) ∨ (J.go i H ∧ ∃ N : L2.St → Hp → Prop, (∀ σ' H', N σ' H' → ∃ m', m' < m ∧ W (i + 1) m' σ' H') ∧ ∀ x H', J.yld i H x H' → g x σ H' fun σ2 H2 => tb { D with nx := N, ct := N, bk := D.nx } σ2 H2)) (Itl K a) H := by
  obtain ⟨p, vs, rfl, hp, a⟩ := r
  refine ⟨p, rfl, ⟨_, SqL.of (f _ _ hp)⟩, for_list (xs := vs) (fun i σ' H' => ∃ s F', Inv s σ' F' H' ∧ forW (zs.drop i) s body k) ⟨s0, F, h0, hW⟩ (fun i σ' H' _ ⟨s, F', hI, _⟩ => SqL.of ((ex _ _ _ _ hI).2 _ _ ((ex _ _ _ _ hI).1 _ _ hp))) ?_ ?_⟩
  · rintro i u σ' H' hu ⟨s, F', hI, hw⟩
    obtain ⟨x, hx, rx⟩ := a.got hu
    have e : zs.drop i = x :: zs.drop (i + 1) := by
      obtain ⟨h1, h2⟩ := List.getElem?_eq_some_iff.mp hx
      rw [← h2]; exact List.drop_eq_getElem_cons h1
    rw [e] at hw
    exact turn _ _ x u s σ' F' H' _ _ hI (List.mem_of_getElem? hx) (b.mono (ex _ _ _ _ hI).1 rx) hw (fun s' σ2 F2 H2 q n => ⟨s', F2, q, n⟩) (fun s' σ2 F2 H2 q n => done s' σ2 F2 H2 q n)
  · rintro σ' H' ⟨s, F', hI, hw⟩
    rw [List.drop_of_length_le (by rw [a.len]; exact Nat.le_refl _)] at hw
    exact done _ _ _ _ hI hw
/-- over range(n) -/
theorem w_forR {n : Nat} {body : Nat → S → (S → Prop) → (S → Prop) → Prop} (Inv : S → L2.St → Hp → Hp → Prop) (hn : n < 1000000) (hW : forW (List.range n) s0 body k) (h0 : Inv s0 σ F H)
    (turn : ∀ (N Bk : L2.St → Hp → Prop) (x : Nat) s σ' F' H' (nx bk : S → Prop), Inv s σ' F' H' → x < n → body x s nx bk → (∀ s' σ2 F2 H2, Inv s' σ2 F2 H2 → nx s' → N σ2 H2) → (∀ s' σ2 F2 H2, Inv s' σ2 F2 H2 → bk s' → Bk σ2 H2) →
      g (.int (x : Int)) σ' H' fun σ2 H2 => tb { D with nx := N, ct := N, bk := Bk } σ2 H2)
    (done : ∀ s σ' F' H', Inv s σ' F' H' → k s → D.nx σ' H') :
    ∃ j : Int, [V.int (n : Int)] = [.int j] ∧ -(2 ^ 62) ≤ j ∧ j < 2 ^ 62 ∧ (fun J H1 => ∃ W : Nat → Nat → L2.St → Hp → Prop, (∃ m, W 0 m σ H1) ∧ ∀ i m σ H, W i m σ H →
      (J.stop i H ∧ D.nx σ H) ∨ (J.go i H ∧ ∃ N : L2.St → Hp → Prop, (∀ σ' H', N σ' H' → ∃ m', m' < m ∧ W (i + 1) m' σ' H') ∧ ∀ x H', J.yld i H x H' → g x σ H' fun σ2 H2 => tb { D with nx := N, ct := N, bk := D.nx } σ2 H2)) (Itr 0 j.toNat) H := by
  refine ⟨(n : Int), rfl, by omega, by omega, for_range (lo := 0) (n := n) (fun i σ' H' => ∃ s F', Inv s σ' F' H' ∧ forW ((List.range n).drop i) s body k) ⟨s0, F, h0, hW⟩ ?_ ?_⟩
  · rintro i σ' H' hi ⟨s, F', hI, hw⟩
    have e : (List.range n).drop i = i :: (List.range n).drop (i + 1) := by
      have h1 : i < (List.range n).length := by rw [List.length_range]; exact hi
      rw [List.drop_eq_getElem_cons h1, List.getElem_range]
    rw [e] at hw
    have z : (0 : Int) + (i : Int) = (i : Int) := Int.zero_add _
    rw [z]
    exact turn _ _ i s σ' F' H' _ _ hI hi hw (fun s' σ2 F2 H2 q n => ⟨s', F2, q, n⟩) (fun s' σ2 F2 H2 q n => done s' σ2 F2 H2 q n)
  · rintro σ' H' ⟨s, F', hI, hw⟩
    rw [List.drop_of_length_le (by rw [List.length_range]; exact Nat.le_refl _)] at hw
    exact done _ _ _ _ hI hw
/-- while -/
theorem w_while {test : S → (Bool → Prop) → Prop} {body : S → (S → Prop) → (S → Prop) → Prop} (Inv : S → L2.St → Hp → Hp → Prop) (hW : whileW test body s0 k) (h0 : Inv s0 σ F H)
    (cond : ∀ s σ' F' H' (T : Bool → Prop) (Qc : Bool → Hp → Prop), Inv s σ' F' H' → test s T → (∀ b F2 H2, Inv s σ' F2 H2 → T b → Qc b H2) → tt σ' H' Qc)
    (turn : ∀ (N Bk : L2.St → Hp → Prop) s σ' F' H' (nx bk : S → Prop), Inv s σ' F' H' → body s nx bk → (∀ s' σ2 F2 H2, Inv s' σ2 F2 H2 → nx s' → N σ2 H2) → (∀ s' σ2 F2 H2, Inv s' σ2 F2 H2 → bk s' → Bk σ2 H2) →
      tb { D with nx := N, ct := N, bk := Bk } σ' H')
    (done : ∀ s σ' F' H', Inv s σ' F' H' → k s → D.nx σ' H') : tWhile tt tb D σ H := by
  obtain ⟨I, ⟨m0, hm⟩, hs⟩ := hW
  refine ⟨fun m σ' H' => ∃ s F', Inv s σ' F' H' ∧ I m s, ⟨m0, s0, F, h0, hm⟩, ?_⟩
  rintro m σ' H' ⟨s, F', hI, im⟩
  refine cond s σ' F' H' _ _ hI (hs m s im) fun b F2 H2 hI2 hb => ?_
  cases b with
  | true =>
    rw [if_pos rfl] at hb ⊢
    exact ⟨_, fun _ _ q => q, turn (fun σ2 H2 => ∃ m', m' < m ∧ ∃ s' F', Inv s' σ2 F' H2 ∧ I m' s') _ s σ' F2 H2 _ _ hI2 hb (fun s' σ2 F3 H3 q ⟨m', l, i⟩ => ⟨m', l, s', F3, q, i⟩) (fun s' σ2 F3 H3 q n => done s' σ2 F3 H3 q n)⟩
  | false =>
    rw [if_neg (by simp)] at hb ⊢
    exact done s σ' F2 H2 hI2 hb
/-- ways that meet again -/
def jn {S : Type} (f : (S → Prop) → Prop) (k : S → Prop) : Prop := f k
theorem q_jn {f : (S → Prop) → Prop} {t u : TS} (hW : jn f k) (Inv : S → L2.St → Hp → Hp → Prop)
    (h1 : ∀ N : L2.St → Hp → Prop, (∀ s σ' F' H', Inv s σ' F' H' → k s → N σ' H') → f k → t { D with nx := N } σ H) (h2 : ∀ s σ' F' H', Inv s σ' F' H' → k s → u D σ' H') : tSeq t u D σ H :=
  h1 (u D) (fun s σ' F' H' q n => h2 s σ' F' H' q n) hW
theorem e_jn {f : (S → Prop) → Prop} {Qt : Bool → Hp → Prop} (hW : jn f k) (Inv : S → Bool → Hp → Hp → Prop)
    (h1 : ∀ N : Bool → Hp → Prop, (∀ s b F' H', Inv s b F' H' → k s → N b H') → f k → tt σ H N) (h2 : ∀ s b F' H', Inv s b F' H' → k s → Qt b H') : tt σ H Qt :=
  h1 Qt (fun s σ' F' H' q n => h2 s σ' F' H' q n) hW
/-! ### comprehensions -/
/-- what a comprehension asks of its source's value -/
def kCpL (K : PySem.W.Frag) (g : TG) (tc : TT) (te : TE) (vs : List Nat) (σ : L2.St) (Q : VK) (v : V) (H : Hp) : Prop := ∃ a, v = .ref a ∧ (∃ xs, SqL K H a xs) ∧ (fun J H1 => ∀ D, H1 D = none → ∃ W : Nat → Nat → Hp → Prop, (∃ m, W 0 m (upd H1 D (.lst []))) ∧ ∀ i m H, W i m H →
      (J.stop i H ∧ Q (.ref D) H) ∨ (J.go i H ∧ ∃ Nx : Hp → Prop, (∀ H', Nx H' → ∃ m', m' < m ∧ W (i + 1) m' H') ∧ ∀ x H', J.yld i H x H' → g x (wipe σ vs) H' fun σ2 H2 => wipe σ2 vs = wipe σ vs ∧ tc σ2 H2 fun b H3 =>
        if b = true then te σ2 H3 fun y H4 => ∃ acc, H4 D = some (.lst acc) ∧ acc.length < sizeLine ∧ Nx (upd H4 D (.lst (acc ++ [y]))) else Nx H3)) (Itl K a) H
def kCpR (g : TG) (tc : TT) (te : TE) (vs : List Nat) (σ : L2.St) (Q : VK) (v : V) (H : Hp) : Prop := ∃ j : Int, [v] = [.int j] ∧ -(2 ^ 62) ≤ j ∧ j < 2 ^ 62 ∧ (fun J H1 => ∀ D, H1 D = none → ∃ W : Nat → Nat → Hp → Prop, (∃ m, W 0 m (upd H1 D (.lst []))) ∧ ∀ i m H, W i m H →
      (J.stop i H ∧ Q (.ref D) H) ∨ (J.go i H ∧ ∃ Nx : Hp → Prop, (∀ H', Nx H' → ∃ m', m' < m ∧ W (i + 1) m' H') ∧ ∀ x H', J.yld i H x H' → g x (wipe σ vs) H' fun σ2 H2 => wipe σ2 vs = wipe σ vs ∧ tc σ2 H2 fun b H3 =>
        if b = true then te σ2 H3 fun y H4 => ∃ acc, H4 D = some (.lst acc) ∧ acc.length < sizeLine ∧ Nx (upd H4 D (.lst (acc ++ [y]))) else Nx H3)) (Itr 0 j.toNat) H
theorem w_compC {ws : List V} {tc : TT} {vs : List Nat} {bd : β → (Option α → Prop) → Prop} {kk : List α → Prop} (hp : H p = some (.lst ws)) (a : All b F ws zs) (w : Wf F0 H0 F H) (hn : zs.length < 1000000) (hW : compW zs bd kk)
    (turn : ∀ (Qy : V → Hp → Prop) (Qn : Hp → Prop) x u F1 H1 (R : Option α → Prop), Wf F H F1 H1 → x ∈ zs → b.r F1 u x → bd x R → (∀ y z F2 H2, Wf F1 H1 F2 H2 → e.r F2 y z → R (some z) → Qy y H2) → (∀ F2 H2, Wf F1 H1 F2 H2 → R none → Qn H2) →
      g u (wipe σ vs) H1 fun σ2 H2 => wipe σ2 vs = wipe σ vs ∧ tc σ2 H2 fun b H3 => if b = true then te σ2 H3 Qy else Qn H3)
    (done : ∀ p ys F' H', H p = none → Wf F H F' H' → XL e H0 F' H' p ys → kk ys → Q (.ref p) H') :
    kCpL K g tc te vs σ Q (V.ref p) H := by
  unfold kCpL
  refine ⟨p, rfl, ⟨_, SqL.of hp⟩, fun D hD => lc_list (xs := ws) (fun i H' => ∃ F' ac ys, Wf F H F' H' ∧ Xc H F' H' D (.lst ac) ∧ All e F' ac ys ∧ ys.length ≤ i ∧ compG (zs.drop i) ys bd kk)
    ⟨F, [], [], Wf.newX w.f hD, Xc.mk' (Wf.id w.f) hD, trivial, Nat.le_refl _, hW⟩ (fun i H' _ ⟨F', ac, ys, q, _⟩ => SqL.of (q.h _ _ hp)) ?_ ?_⟩
  · rintro i u H' hu ⟨F', ac, ys, q, xc, al, hl, hw⟩
    obtain ⟨x, hx, rx⟩ := a.got hu
    obtain ⟨h1, h2⟩ := List.getElem?_eq_some_iff.mp hx
    have e' : zs.drop i = x :: zs.drop (i + 1) := by rw [← h2]; exact List.drop_eq_getElem_cons h1
    rw [e'] at hw
    refine turn _ _ x u F' H' _ q (List.mem_of_getElem? hx) (b.mono q.g rx) hw (fun y z F2 H2 s ry hR => ?_) (fun F2 H2 s hR => ?_)
    · have xc2 := xc.step s
      exact ⟨ac, xc2.h, by rw [al.len]; exact small_len (by omega), F2, ac ++ [y], ys ++ [z], (q.tr s).set xc2, xc2.set, (al.mono s.g).snoc ry, by rw [List.length_append]; exact Nat.succ_le_succ hl, hR⟩
    · exact ⟨F2, ac, ys, q.tr s, xc.step s, al.mono s.g, Nat.le_succ_of_le hl, by simpa using hR⟩
  · rintro H' ⟨F', ac, ys, q, xc, al, hl, hw⟩
    rw [List.drop_of_length_le (by rw [a.len]; exact Nat.le_refl _)] at hw
    exact done D ys F' H' hD q ⟨ac, ⟨w.h.non hD, xc.n, xc.h⟩, al⟩ hw
theorem w_compL {tc : TT} {vs : List Nat} {bd : β → (Option α → Prop) → Prop} {kk : List α → Prop} (r : (pL b).r F v zs) (w : Wf F0 H0 F H) (hn : zs.length < 1000000) (hW : compW zs bd kk)
    (turn : ∀ (Qy : V → Hp → Prop) (Qn : Hp → Prop) x u F1 H1 (R : Option α → Prop), Wf F H F1 H1 → x ∈ zs → b.r F1 u x → bd x R → (∀ y z F2 H2, Wf F1 H1 F2 H2 → e.r F2 y z → R (some z) → Qy y H2) → (∀ F2 H2, Wf F1 H1 F2 H2 → R none → Qn H2) →
      g u (wipe σ vs) H1 fun σ2 H2 => wipe σ2 vs = wipe σ vs ∧ tc σ2 H2 fun b H3 => if b = true then te σ2 H3 Qy else Qn H3)
    (done : ∀ p ys F' H', H p = none → Wf F H F' H' → XL e H0 F' H' p ys → kk ys → Q (.ref p) H') :
    kCpL K g tc te vs σ Q v H := by
  obtain ⟨p, ws, rfl, hp, a⟩ := r
  exact w_compC (w.f _ _ hp) a w hn hW turn done
theorem w_compX {tc : TT} {vs : List Nat} {bd : β → (Option α → Prop) → Prop} {kk : List α → Prop} (r : XL b H0 F H p zs) (w : Wf F0 H0 F H) (hn : zs.length < 1000000) (hW : compW zs bd kk)
    (turn : ∀ (Qy : V → Hp → Prop) (Qn : Hp → Prop) x u F1 H1 (R : Option α → Prop), Wf F H F1 H1 → x ∈ zs → b.r F1 u x → bd x R → (∀ y z F2 H2, Wf F1 H1 F2 H2 → e.r F2 y z → R (some z) → Qy y H2) → (∀ F2 H2, Wf F1 H1 F2 H2 → R none → Qn H2) →
      g u (wipe σ vs) H1 fun σ2 H2 => wipe σ2 vs = wipe σ vs ∧ tc σ2 H2 fun b H3 => if b = true then te σ2 H3 Qy else Qn H3)
    (done : ∀ p ys F' H', H p = none → Wf F H F' H' → XL e H0 F' H' p ys → kk ys → Q (.ref p) H') :
    kCpL K g tc te vs σ Q (V.ref p) H := by
  obtain ⟨ws, hp, a⟩ := r.rd
  exact w_compC hp a w hn hW turn done
theorem w_compR {tc : TT} {vs : List Nat} {n : Nat} {bd : Nat → (Option α → Prop) → Prop} {kk : List α → Prop} (w : Wf F0 H0 F H) (hn : n < 1000000) (hW : compW (List.range n) bd kk)
    (turn : ∀ (Qy : V → Hp → Prop) (Qn : Hp → Prop) (x : Nat) F1 H1 (R : Option α → Prop), Wf F H F1 H1 → x < n → bd x R → (∀ y z F2 H2, Wf F1 H1 F2 H2 → e.r F2 y z → R (some z) → Qy y H2) → (∀ F2 H2, Wf F1 H1 F2 H2 → R none → Qn H2) →
      g (.int (x : Int)) (wipe σ vs) H1 fun σ2 H2 => wipe σ2 vs = wipe σ vs ∧ tc σ2 H2 fun b H3 => if b = true then te σ2 H3 Qy else Qn H3)
    (done : ∀ p ys F' H', H p = none → Wf F H F' H' → XL e H0 F' H' p ys → kk ys → Q (.ref p) H') :
    kCpR g tc te vs σ Q (.int (n : Int)) H := by
  unfold kCpR
  refine ⟨(n : Int), rfl, by omega, by omega, fun D hD => lc_range (lo := 0) (n := n) (fun i H' => ∃ F' ac ys, Wf F H F' H' ∧ Xc H F' H' D (.lst ac) ∧ All e F' ac ys ∧ ys.length ≤ i ∧ compG ((List.range n).drop i) ys bd kk)
    ⟨F, [], [], Wf.newX w.f hD, Xc.mk' (Wf.id w.f) hD, trivial, Nat.le_refl _, hW⟩ ?_ ?_⟩
  · rintro i H' hi ⟨F', ac, ys, q, xc, al, hl, hw⟩
    have e' : (List.range n).drop i = i :: (List.range n).drop (i + 1) := by
      have h1 : i < (List.range n).length := by rw [List.length_range]; exact hi
      rw [List.drop_eq_getElem_cons h1, List.getElem_range]
    rw [e'] at hw
    have z : (0 : Int) + (i : Int) = (i : Int) := Int.zero_add _
    rw [z]
    refine turn _ _ i F' H' _ q hi hw (fun y z F2 H2 s ry hR => ?_) (fun F2 H2 s hR => ?_)
    · have xc2 := xc.step s
      exact ⟨ac, xc2.h, by rw [al.len]; exact small_len (by omega), F2, ac ++ [y], ys ++ [z], (q.tr s).set xc2, xc2.set, (al.mono s.g).snoc ry, by rw [List.length_append]; exact Nat.succ_le_succ hl, hR⟩
    · exact ⟨F2, ac, ys, q.tr s, xc.step s, al.mono s.g, Nat.le_succ_of_le hl, by simpa using hR⟩
  · rintro H' ⟨F', ac, ys, q, xc, al, hl, hw⟩
    rw [List.drop_of_length_le (by rw [List.length_range]; exact Nat.le_refl _)] at hw
    exact done D ys F' H' hD q ⟨ac, ⟨w.h.non hD, xc.n, xc.h⟩, al⟩ hw
end
end Wk

namespace Wk
open PySem L2
section
variable {X : Cx} {σ : L2.St} {H : Hp} {te tl ta tb : TE} {tt tc : TT} {tA : TA} {Q : VK} {v w x y z : V} {D : Ends} {tu : TS} {g : TG} {K : PySem.W.Frag} {p q : Prop}
theorem f_L (h : Val tl σ H v) (k : ∃ a, v = .ref a ∧ (∃ xs, SqL K H a xs) ∧ (fun J H1 => ∃ W : Nat → Nat → L2.St → Hp → Prop, (∃ m, W 0 m σ H1) ∧ ∀ i m σ H, W i m σ H →
      (J.stop i H ∧ D.nx σ H) ∨ (J.go i H ∧ ∃ N : L2.St → Hp → Prop, (∀ σ' H', N σ' H' → ∃ m', m' < m ∧ W (i + 1) m' σ' H') ∧ ∀ x H', J.yld i H x H' → g x σ H' fun σ2 H2 => tu { D with nx := N, ct := N, bk := D.nx } σ2 H2)) (Itl K a) H) : tFor (iList K tl) g tu D σ H := h _ k
theorem f_LE (h : tl σ H fun v H => ∃ a, v = .ref a ∧ (∃ xs, SqL K H a xs) ∧ (fun J H1 => ∃ W : Nat → Nat → L2.St → Hp → Prop, (∃ m, W 0 m σ H1) ∧ ∀ i m σ H, W i m σ H →
      (J.stop i H ∧ D.nx σ H) ∨ (J.go i H ∧ ∃ N : L2.St → Hp → Prop, (∀ σ' H', N σ' H' → ∃ m', m' < m ∧ W (i + 1) m' σ' H') ∧ ∀ x H', J.yld i H x H' → g x σ H' fun σ2 H2 => tu { D with nx := N, ct := N, bk := D.nx } σ2 H2)) (Itl K a) H) : tFor (iList K tl) g tu D σ H := h
theorem f_R (h : Val te σ H v) (k : ∃ j : Int, [v] = [.int j] ∧ -(2 ^ 62) ≤ j ∧ j < 2 ^ 62 ∧ (fun J H1 => ∃ W : Nat → Nat → L2.St → Hp → Prop, (∃ m, W 0 m σ H1) ∧ ∀ i m σ H, W i m σ H →
      (J.stop i H ∧ D.nx σ H) ∨ (J.go i H ∧ ∃ N : L2.St → Hp → Prop, (∀ σ' H', N σ' H' → ∃ m', m' < m ∧ W (i + 1) m' σ' H') ∧ ∀ x H', J.yld i H x H' → g x σ H' fun σ2 H2 => tu { D with nx := N, ct := N, bk := D.nx } σ2 H2)) (Itr 0 j.toNat) H) : tFor (iRng1 (tCons te tNil)) g tu D σ H := h _ k
theorem f_RE (h : te σ H fun v H => ∃ j : Int, [v] = [.int j] ∧ -(2 ^ 62) ≤ j ∧ j < 2 ^ 62 ∧ (fun J H1 => ∃ W : Nat → Nat → L2.St → Hp → Prop, (∃ m, W 0 m σ H1) ∧ ∀ i m σ H, W i m σ H →
      (J.stop i H ∧ D.nx σ H) ∨ (J.go i H ∧ ∃ N : L2.St → Hp → Prop, (∀ σ' H', N σ' H' → ∃ m', m' < m ∧ W (i + 1) m' σ' H') ∧ ∀ x H', J.yld i H x H' → g x σ H' fun σ2 H2 => tu { D with nx := N, ct := N, bk := D.nx } σ2 H2)) (Itr 0 j.toNat) H) : tFor (iRng1 (tCons te tNil)) g tu D σ H := h
theorem c_LE {vs : List Nat} (h : tl σ H (kCpL K g tc te vs σ Q)) : tLc (iList K tl) g tc te vs σ H Q := h
theorem c_RE {vs : List Nat} (h : ta σ H (kCpR g tc te vs σ Q)) : tLc (iRng1 (tCons ta tNil)) g tc te vs σ H Q := h
theorem c_yes {A B : Hp → Prop} (h : A H) : tYes σ H fun b H3 => if b = true then A H3 else B H3 := by show if true = true then A H else B H; rw [if_pos rfl]; exact h
theorem c_if [Decidable p] {A B : Hp → Prop} (h : Ans tt σ H (decide p)) (h1 : p → A H) (h2 : ¬ p → B H) : tt σ H fun b H3 => if b = true then A H3 else B H3 := h _ (by
  by_cases hp : p
  · rw [decide_eq_true hp, if_pos rfl]; exact h1 hp
  · rw [decide_eq_false hp, if_neg (by simp)]; exact h2 hp)
theorem b_if {p : Prop} [Decidable p] {A B : Prop} (h1 : p → A) (h2 : ¬ p → B) : if decide p = true then A else B := by
  by_cases hp : p
  · rw [decide_eq_true hp, if_pos rfl]; exact h1 hp
  · rw [decide_eq_false hp, if_neg (by simp)]; exact h2 hp
theorem bb_if {b : Bool} {A B : Prop} (h1 : b = true → A) (h2 : ¬ b = true → B) : if b = true then A else B := by
  by_cases hp : b = true
  · rw [if_pos hp]; exact h1 hp
  · rw [if_neg hp]; exact h2 hp
theorem e_op {r : R2} (h : ta σ H fun x H1 => tb σ H1 fun y H2 => r x y H2 Q) : tOp r ta tb σ H Q := h
theorem rv2 {r : R2} (h : Val (tOp r (tC x) (tC y)) [] H z) (q : Q z H) : r x y H Q := h Q q
theorem rv2T {r : R2} {b : Bool} {Qt : Bool → Hp → Prop} (h : Val (tOp r (tC x) (tC y)) [] H (.bl b)) (q : Qt b H) : r x y H (fun x H' => ∃ k, x = .bl k ∧ Qt k H') := h _ ⟨b, rfl, q⟩
theorem rcb1 {r : List V → Hp → VK → Prop} (h : Val (tCB r (tCons (tC x) tNil)) [] H z) (q : Q z H) : r [x] H Q := h Q q
theorem rcb2 {r : List V → Hp → VK → Prop} (h : Val (tCB r (tCons (tC x) (tCons (tC y) tNil))) [] H z) (q : Q z H) : r [x, y] H Q := h Q q
theorem e_cb {r : List V → Hp → VK → Prop} (h : tA σ H fun vs H1 => r vs H1 Q) : tCB r tA σ H Q := h
theorem e_tB {Qt : Bool → Hp → Prop} (h : te σ H fun x H1 => ∃ c, x = .bl c ∧ Qt c H1) : tB te σ H Qt := h
theorem e_tT {Qt : Bool → Hp → Prop} (h : te σ H fun x H1 => ∃ c, x = .bl c ∧ Qt c H1) : tTest te σ H Qt := h
theorem e_bl {Qt : Bool → Hp → Prop} {b : Bool} (h : Qt b H) : ∃ c, V.bl b = .bl c ∧ Qt c H := ⟨b, rfl, h⟩
theorem e_tNot {Qt : Bool → Hp → Prop} (h : tt σ H fun c H1 => Qt (!c) H1) : tNot tt σ H Qt := h
theorem e_ans {Qt : Bool → Hp → Prop} {b : Bool} (h : Ans tt σ H b) (q : Qt b H) : tt σ H Qt := h Qt q
theorem e_tup (h : tA σ H (kTup Q)) : tTup tA σ H Q := h
theorem e_lst (h : tA σ H (kLst Q)) : tLst tA σ H Q := h
theorem a_asgG (h : te σ H fun v H1 => g v σ H1 D.nx) : tAsg te g D σ H := h
theorem a_augE {i : Nat} {ti : TIp} (hx : σ[i]? = some (some x)) (h : te σ H fun y H1 => ti x y H1 fun z H2 => D.nx (σ.set i (some z)) H2) : tAug i te ti D σ H := ⟨x, hx, h⟩
theorem a_augV {i : Nat} {ti : TIp} (hx : σ[i]? = some (some x)) (h : Val te σ H y) (hv : Val (tOp ti (tC x) (tC y)) [] H z) (q : D.nx (σ.set i (some z)) H) : tAug i te ti D σ H := ⟨x, hx, h _ (hv _ q)⟩
theorem XL.base {α : Type} {e : Rep α} {F0 H0 F F' H' : Hp} {p : Addr} {xs : List α} (x : XL e H F' H' p xs) (w : Wf F0 H0 F H) : XL e H0 F' H' p xs := let ⟨vs, a, b⟩ := x.x; ⟨vs, ⟨w.h.non a.z, a.n, a.h⟩, b⟩
end
/-- a def that may be called -/
structure Fn (P : Program) (w : World) (K : PySem.W.Frag) (mg : Str → Option Value) (base : Heap) (CX : CXT) (k : Nat) (x : Str) (ps : List Str) (sp : Sp) : Prop where
  ex : ∃ f fd, FnOk P w K mg base CX k f fd ps sp ∧ mg x = some (.ref f) ∧ PySem.W.keepIn K (.ref f) = true ∧ Binds K fd ps []
theorem pe_fn {X : Cx} {k : Nat} {x : Str} {ps : List Str} {sp : Sp} {e : Expr} {es : List Expr} {p pos : Pos} {t : TA} (C : Fn X.prog X.w X.K X.mg X.base CX0 k x ps sp) (hr : Room k X.A) (hg : Gl X x) (ha : PA X (e :: es) t) (hdb : (x == ("__debug__" : Str)) = false := by decide)
    (he : starEach (e :: es) X.env = (false, eval e X.env) :: starEach es X.env := by rfl) (hpl : (backTo pos (starEach es X.env)).any (·.1) = false := by rfl) : PE X (.Call (.Name x p) (e :: es) [] pos) (tCall sp [] E0 t) := by
  obtain ⟨f, fd, F, hm, hk, hb⟩ := C.ex
  exact pe_call F hr hg hm hk hb .nil pass0 ha hdb he hpl
theorem pe_fn0 {X : Cx} {k : Nat} {x : Str} {ps : List Str} {sp : Sp} {p pos : Pos} (C : Fn X.prog X.w X.K X.mg X.base CX0 k x ps sp) (hr : Room k X.A) (hg : Gl X x) (hdb : (x == ("__debug__" : Str)) = false := by decide) : PE X (.Call (.Name x p) [] [] pos) (tCall sp [] E0 tNil) := by
  obtain ⟨f, fd, F, hm, hk, hb⟩ := C.ex
  exact pe_call0 F hr hg hm hk hb .nil pass0 hdb
end Wk

namespace Wk
open PySem L2
theorem dec_and {p q : Prop} [Decidable p] [Decidable q] : (decide p && decide q) = decide (p ∧ q) := by
  by_cases hp : p
  · by_cases hq : q
    · rw [decide_eq_true hp, decide_eq_true hq, decide_eq_true (And.intro hp hq)]; rfl
    · rw [decide_eq_false hq, decide_eq_false (fun z : p ∧ q => hq z.2), Bool.and_false]
  · rw [decide_eq_false hp, decide_eq_false (fun z : p ∧ q => hp z.1), Bool.false_and]
theorem dec_tt {b : Bool} : b = decide (b = true) := by cases b <;> rfl
theorem dec_T : true = decide True := rfl
theorem dec_F : false = decide False := rfl
section
variable {α β : Type} {e : Rep α} {f : Rep β} {K : PySem.W.Frag} {σ : L2.St} {F0 H0 F F' H H' : Hp} {te ta tb : TE} {Q : VK} {v w u : V} {xs : List α} {p : Addr} {i : Int} {n : Nat} {x : V}
/-- bit_length -/
def bits (n : Nat) : Nat := if n = 0 then 0 else n.log2 + 1
theorem bits_int (n : Nat) : Builtin.Int.intBits (n : Int) = bits n := by
  unfold Builtin.Int.intBits bits
  by_cases h : n = 0
  · subst h; rfl
  · rw [if_neg (show ¬ (((n : Nat) : Int) == 0) = true by simpa using h), if_neg h]; rfl
theorem vn_bitl (ha : Val ta σ H (.int (n : Int))) : Val (tBits ta) σ H (.int ((bits n : Nat) : Int)) := fun _ k => ha _ ⟨_, rfl, by rw [bits_int]; exact k⟩
theorem v_isi {b : Bool} {cn tn : String} (ha : Val ta σ H x) (ty : TyX K H x (.type tn)) (h : kitB tn cn = some b) : Val (tCB (rIsi K) (tCons ta (tCons (tC (.ty cn)) tNil))) σ H (.bl b) := fun Q k => ha _ ⟨x, .ty cn, _, _, b, rfl, .ty cn, ty, kit_ty h, k⟩
theorem ty_L (r : (pL e).r F v xs) (f : Ex F H) : TyX K H v (.type "list") := by obtain ⟨p, vs, rfl, hp, _⟩ := r; exact .base (.lst (f _ _ hp))
theorem ty_TL (r : (pTL e).r F v xs) (f : Ex F H) : TyX K H v (.type "tuple") := by obtain ⟨p, vs, rfl, hp, _⟩ := r; exact .base (.tup (f _ _ hp))
theorem ty_T2 {z : α × β} (r : (pT2 e f).r F v z) (h : Ex F H) : TyX K H v (.type "tuple") := by obtain ⟨p, _, _, rfl, hp, _⟩ := r; exact .base (.tup (h _ _ hp))
theorem ty_X (r : XL e H0 F H p xs) : TyX K H (.ref p) (.type "list") := by obtain ⟨vs, hp, _⟩ := r.rd; exact .base (.lst hp)
def rInt1 : List V → Hp → VK → Prop := fun xs H Q => (∃ i, xs = [.int i] ∧ Q (.int i) H) ∨ ∃ k, xs = [.bl k] ∧ Q (.int (if k then 1 else 0)) H
theorem v_intI (ha : Val ta σ H (.int i)) : Val (tCB rInt1 (tCons ta tNil)) σ H (.int i) := fun _ k => ha _ (.inl ⟨i, rfl, k⟩)
theorem v_intB {b : Bool} (ha : Val ta σ H (.bl b)) : Val (tCB rInt1 (tCons ta tNil)) σ H (.int ((b.toNat : Nat) : Int)) := fun _ k => ha _ (.inr ⟨b, rfl, by cases b <;> exact k⟩)
end
end Wk

namespace Wk
open PySem L2
/-! ### readings by short names -/
abbrev kAdd : R2 := L2.rI0 fun i j => .int (i + j)
abbrev kSub : R2 := L2.rI0 fun i j => .int (i - j)
abbrev kMul : R2 := L2.rI CMul fun i j => .int (i * j)
abbrev kMulX : R2 := L2.rI CMulX fun i j => .int (i * j)
abbrev kDiv : R2 := L2.rI CDivW fun i j => .int (i / j)
abbrev kMod : R2 := L2.rI (fun _ j => 0 < j) fun i j => .int (i % j)
abbrev kPow : R2 := L2.rI CPow fun i j => .int (i ^ j.toNat)
abbrev kShl : R2 := L2.rI CShl fun i j => .int (i * 2 ^ j.toNat)
abbrev kShr : R2 := L2.rI (fun _ j => 0 ≤ j) fun i j => .int (i / 2 ^ j.toNat)
abbrev kAnd : R2 := L2.rI0 fun i j => .int (Builtin.bitAnd i j)
abbrev kOr : R2 := L2.rI0 fun i j => .int (Builtin.bitOr i j)
abbrev kXor : R2 := L2.rI0 fun i j => .int (Builtin.bitXor i j)
abbrev kLt : R2 := L2.rI0 fun i j => .bl (decide (i < j))
abbrev kLe : R2 := L2.rI0 fun i j => .bl (decide (i ≤ j))
abbrev kGt : R2 := L2.rI0 fun i j => .bl (decide (j < i))
abbrev kGe : R2 := L2.rI0 fun i j => .bl (decide (j ≤ i))
abbrev kNeg : V → Hp → VK → Prop := L2.rU fun i => .int (-i)
def rLenS : List V → Hp → VK → Prop := fun xs H Q => ∃ z, xs = [.str z] ∧ z.length ≤ sizeLine ∧ Q (.int z.length) H
def rListOf (K : PySem.W.Frag) : List V → Hp → VK → Prop := fun xs H Q => ∃ p ys, xs = [.ref p] ∧ (SqL K H p ys ∨ SqT K H p ys) ∧ ∀ l, H l = none → Q (.ref l) (upd H l (.lst ys))
section
variable {α β : Type} {e : Rep α} {f : Rep β} {K : PySem.W.Frag} {σ : L2.St} {F0 H0 F F' H H' : Hp} {te ta tb : TE} {Q : VK} {v w u : V} {xs ys : List α} {p q : Addr} {i : Int} {n a b : Nat} {x : V} {tl th : TO}
theorem len_Str {s : Str} (h : s.length < 1000000) (ha : Val ta σ H (.str s)) : Val (tCB rLenS (tCons ta tNil)) σ H (.int ((s.length : Nat) : Int)) := fun _ k => ha _ ⟨s, rfl, Nat.le_of_lt (small_len h), k⟩
theorem XL.frzO (x : XL e H0 F H q xs) (h : ∀ q o, Xc H0 F H q o → q ≠ p → Xc H0 F' H q o) (hq : q ≠ p) (g : Ex F F') : XL e H0 F' H q xs := let ⟨vs, a, b⟩ := x.x; ⟨vs, h _ _ a hq, b.mono g⟩
/-- list(xs): a new one -/
theorem n_listX (r : (pL e).r F v xs) (w : Wf F0 H0 F H) (k : ∀ p H', H p = none → Wf F H F H' → XL e H0 F H' p xs → Q (.ref p) H') : rListOf K [v] H Q := by
  obtain ⟨p, vs, rfl, hp, a⟩ := r
  exact ⟨p, vs, rfl, .inl (SqL.of (w.f _ _ hp)), fun l hl => k l _ hl (Wf.newX w.f hl) ⟨vs, Xc.mk' w hl, a⟩⟩
theorem n_listXX (r : XL e H0 F H q xs) (w : Wf F0 H0 F H) (k : ∀ p H', H p = none → Wf F H F H' → XL e H0 F H' p xs → Q (.ref p) H') : rListOf K [.ref q] H Q := by
  obtain ⟨vs, hp, a⟩ := r.rd
  exact ⟨q, vs, rfl, .inl (SqL.of hp), fun l hl => k l _ hl (Wf.newX w.f hl) ⟨vs, Xc.mk' w hl, a⟩⟩
theorem n_listXT (r : (pTL e).r F v xs) (w : Wf F0 H0 F H) (k : ∀ p H', H p = none → Wf F H F H' → XL e H0 F H' p xs → Q (.ref p) H') : rListOf K [v] H Q := by
  obtain ⟨p, vs, rfl, hp, a⟩ := r
  exact ⟨p, vs, rfl, .inr (SqT.of (w.f _ _ hp)), fun l hl => k l _ hl (Wf.newX w.f hl) ⟨vs, Xc.mk' w hl, a⟩⟩
/-- xs + ys -/
theorem n_cat (r : (pL e).r F v xs) (s : (pL e).r F u ys) (w : Wf F0 H0 F H) (hl : xs.length + ys.length < 1000000) (k : ∀ p H', H p = none → Wf F H F H' → XL e H0 F H' p (xs ++ ys) → Q (.ref p) H') : rCat v u H Q := by
  obtain ⟨p, vs, rfl, hp, a⟩ := r
  obtain ⟨q, us, rfl, hq, b⟩ := s
  exact ⟨p, q, vs, us, rfl, rfl, w.f _ _ hp, w.f _ _ hq, by rw [a.len, b.len]; exact Nat.le_of_lt (small_len hl), fun l hl => k l _ hl (Wf.newX w.f hl) ⟨_, Xc.mk' w hl, a.app b⟩⟩
theorem All.rep (a : All e F vs' xs) : ∀ n, All e F (List.replicate n vs').flatten (List.replicate n xs).flatten
  | 0 => trivial
  | n + 1 => by rw [List.replicate_succ, List.replicate_succ, List.flatten_cons, List.flatten_cons]; exact a.app (All.rep a n)
/-- xs * n -/
theorem n_rep (r : (pL e).r F v xs) (w : Wf F0 H0 F H) (hl : xs.length * n < 1000000) (hn : n < 1000000) (k : ∀ p H', H p = none → Wf F H F H' → XL e H0 F H' p (List.replicate n xs).flatten → Q (.ref p) H') : rRep v (.int (n : Int)) H Q := by
  obtain ⟨p, vs, rfl, hp, a⟩ := r
  exact ⟨p, _, vs, rfl, rfl, w.f _ _ hp, by omega, by omega, by rw [a.len]; exact Nat.le_of_lt (small_len hl), fun l hl => k l _ hl (Wf.newX w.f hl) ⟨_, Xc.mk' w hl, All.rep a n⟩⟩
/-! slices -/
def cutT (xs : List α) (lo hi : Option Nat) : List α := match lo, hi with
  | none, none => xs
  | none, some b => xs.take b
  | some a, none => xs.drop a
  | some a, some b => (xs.drop a).take (b - a)
theorem cutV_T {ws : List V} (lo hi : Option Nat) : cutV ws (lo.map Int.ofNat) (hi.map Int.ofNat) = cutT ws lo hi := by
  have tk : ∀ (n : Nat) (l : List V), l.take (min n l.length) = l.take n := fun n l => by
    by_cases h : n ≤ l.length
    · rw [Nat.min_eq_left h]
    · rw [Nat.min_eq_right (by omega), List.take_of_length_le (Nat.le_refl _), List.take_of_length_le (by omega)]
  unfold cutV cutT
  cases lo with
  | none =>
    cases hi with
    | none => simp only [Option.map_none, HT.sIx_none, List.drop_zero, Nat.sub_zero, List.take_length]
    | some b =>
      simp only [Option.map_none, Option.map_some, HT.sIx_none, List.drop_zero, Nat.sub_zero]
      rw [show HT.sIx ws.length ws.length (some (Int.ofNat b)) = min b ws.length from HT.sIx_nat _ _ _]
      exact tk b ws
  | some a =>
    have dr : ws.drop (min a ws.length) = ws.drop a := by
      by_cases h : a ≤ ws.length
      · rw [Nat.min_eq_left h]
      · rw [Nat.min_eq_right (by omega), List.drop_of_length_le (Nat.le_refl _), List.drop_of_length_le (by omega)]
    cases hi with
    | none =>
      simp only [Option.map_none, Option.map_some, HT.sIx_none]
      rw [show HT.sIx ws.length 0 (some (Int.ofNat a)) = min a ws.length from HT.sIx_nat _ _ _, dr]
      exact List.take_of_length_le (by rw [List.length_drop]; omega)
    | some b =>
      simp only [Option.map_some]
      rw [show HT.sIx ws.length 0 (some (Int.ofNat a)) = min a ws.length from HT.sIx_nat _ _ _, show HT.sIx ws.length ws.length (some (Int.ofNat b)) = min b ws.length from HT.sIx_nat _ _ _, dr]
      by_cases h : b ≤ ws.length
      · rw [Nat.min_eq_left h]
        by_cases h' : a ≤ ws.length
        · rw [Nat.min_eq_left h']
        · rw [List.drop_of_length_le (by omega), List.take_nil, List.take_nil]
      · rw [Nat.min_eq_right (by omega)]
        rw [List.take_of_length_le (by rw [List.length_drop]; omega), List.take_of_length_le (by rw [List.length_drop]; omega)]
theorem All.cut {ws : List V} (a : All e F ws xs) (lo hi : Option Nat) : All e F (cutT ws lo hi) (cutT xs lo hi) := by
  cases lo <;> cases hi
  · exact a
  · exact a.take _
  · exact a.drop _
  · exact (a.drop _).take _
/-- the two ends of a slice -/
def Part (tl : TO) (σ : L2.St) (H : Hp) (o : Option Nat) : Prop := ∀ Q : Option Int → Hp → Prop, Q (o.map Int.ofNat) H → tl σ H Q
theorem po_n : Part tNoPart σ H none := fun _ k => k
theorem po_s (h : Val te σ H (.int (n : Int))) : Part (tPart te) σ H (some n) := fun _ k => h _ ⟨_, rfl, k⟩
theorem n_cutX {lo hi : Option Nat} (r : (pL e).r F v xs) (hv : Val te σ H v) (h1 : Part tl σ H lo) (h2 : Part th σ H hi) (w : Wf F0 H0 F H) (k : ∀ p H', H p = none → Wf F H F H' → XL e H0 F H' p (cutT xs lo hi) → Q (.ref p) H') : tSl (rSlL K) te tl th σ H Q := by
  obtain ⟨p, vs, rfl, hp, a⟩ := r
  exact hv _ (h1 _ (h2 _ ⟨p, vs, rfl, SqL.of (w.f _ _ hp), fun l hl => by
    rw [cutV_T]
    exact k l _ hl (Wf.newX w.f hl) ⟨_, Xc.mk' w hl, a.cut lo hi⟩⟩))
theorem n_cutS {lo hi : Option Nat} {zs : List Int} (r : (pScr K).r F v zs) (hv : Val te σ H v) (h1 : Part tl σ H lo) (h2 : Part th σ H hi) (w : Wf F0 H0 F H) (k : ∀ p H', H p = none → Wf F H F H' → XL pI H0 F H' p (cutT zs lo hi) → Q (.ref p) H') : tSl (rSlL K) te tl th σ H Q := by
  obtain ⟨p, rfl, s⟩ := (pScr K).mono w.f r
  exact hv _ (h1 _ (h2 _ ⟨p, _, rfl, s, fun l hl => by
    rw [cutV_T]
    exact k l _ hl (Wf.newX w.f hl) ⟨_, Xc.mk' w hl, (All.ofInts (xs := zs)).cut lo hi⟩⟩))
end
end Wk

namespace Wk
open PySem L2
section
variable {α β γ : Type} {e : Rep α} {f : Rep β} {g : Rep γ} {K : PySem.W.Frag} {σ : L2.St} {F0 H0 F F' H H' : Hp} {te ta tb to : TE} {tt : TT} {tA : TA} {Q : VK} {v w u : V} {xs ys : List α} {p q : Addr} {i : Nat} {D : Ends} {pr : Prop} {ti : TIp} {x y : V}
theorem if_t {A B : Prop} (h : A) : if true = true then A else B := by rw [if_pos rfl]; exact h
theorem if_f {A B : Prop} (h : B) : if false = true then A else B := by rw [if_neg (by simp)]; exact h
theorem b_ifn {p : Prop} [Decidable p] {A B : Prop} (h1 : p → B) (h2 : ¬ p → A) : if (!decide p) = true then A else B := by
  by_cases hp : p
  · rw [decide_eq_true hp, if_neg (by simp)]; exact h1 hp
  · rw [decide_eq_false hp, if_pos (by rfl)]; exact h2 hp
theorem bb_ifn {b : Bool} {A B : Prop} (h1 : b = true → B) (h2 : ¬ b = true → A) : if (!b) = true then A else B := by
  cases b with
  | true => rw [if_neg (by simp)]; exact h1 rfl
  | false => rw [if_pos (by rfl)]; exact h2 (by simp)
theorem nx_v {P : V → Prop} (h : v = w) (q : P v) : P w := h ▸ q
theorem nx_set {P : L2.St → Hp → Prop} {σ : L2.St} {i : Nat} {H : Hp} (h : v = w) (q : P (σ.set i (some v)) H) : P (σ.set i (some w)) H := h ▸ q
theorem g_name {R : L2.St → Hp → Prop} (h : R (σ.set i (some v)) H) : gName i v σ H R := h
theorem set_same {σ : L2.St} {i : Nat} {v : V} (h : σ[i]? = some (some v)) : σ.set i (some v) = σ := by
  refine List.ext_getElem? fun j => ?_
  rw [List.getElem?_set]
  split
  · rename_i h1
    subst h1
    split
    · exact h.symm
    · rename_i h2
      rw [List.getElem?_eq_none (by omega)] at h; cases h
  · rfl
theorem a_ifAsg [Decidable pr] (h : Ans tt σ H (decide pr)) (h1 : pr → Val te σ H v) (h2 : ¬ pr → σ[i]? = some (some v)) (q : D.nx (σ.set i (some v)) H) : tIfS tt (tAsg te (gName i)) tNext D σ H := h _ (b_if (fun hp => h1 hp _ q) fun hp => by
  have e := set_same (h2 hp)
  rw [e] at q
  exact q)
theorem a_ifAug [Decidable pr] (h : Ans tt σ H (decide pr)) (hx : σ[i]? = some (some x)) (hy : Val te σ H y) (h1 : pr → Val (tOp ti (tC x) (tC y)) [] H v) (h2 : ¬ pr → σ[i]? = some (some v)) (q : D.nx (σ.set i (some v)) H) : tIfS tt (tAug i te ti) tNext D σ H := h _ (b_if (fun hp => ⟨x, hx, hy _ (h1 hp _ q)⟩) fun hp => by
  have e := set_same (h2 hp)
  rw [e] at q
  exact q)
theorem n_tup3 {x : α} {y : β} {z : γ} (a : e.r F v x) (b : f.r F w y) (c : g.r F u z) (h : Wf F0 H0 F H) (k : ∀ p F' H', Wf F H F' H' → (pT3 e f g).r F' (.ref p) (x, y, z) → Q (.ref p) H') :
    kTup Q [v, w, u] H := ⟨Nat.le_of_lt (small_len (n := 3) (by decide)), fun p hp => k p _ _ (Wf.new h.f hp) ⟨p, v, w, u, rfl, upd_same, e.mono (Ex.new (h.f.non hp)) a, f.mono (Ex.new (h.f.non hp)) b, g.mono (Ex.new (h.f.non hp)) c⟩⟩
theorem n_tupL {vs : List V} (a : All e F vs xs) (hl : xs.length < 1000000) (w : Wf F0 H0 F H) (k : ∀ p F' H', Wf F H F' H' → (pTL e).r F' (.ref p) xs → Q (.ref p) H') :
    kTup Q vs H := ⟨by rw [a.len]; exact Nat.le_of_lt (small_len hl), fun p hp => k p _ _ (Wf.new w.f hp) ⟨p, vs, rfl, upd_same, a.mono (Ex.new (w.f.non hp))⟩⟩
theorem m_list {r : V → List V → Hp → VK → Prop} (z : XL e H0 F H p xs) (ho : Val to σ H (.ref p)) (k : tA σ H fun vs H2 => r (.ref p) vs H2 Q) : tBM K "list" r to tA σ H Q := ho _ ⟨let ⟨_, a, _⟩ := z.x; Or.inl ⟨rfl, _, Or.inl (Or.inl a.h)⟩, k⟩
theorem a_clr (x : XL e H0 F H p xs) (w : Wf F0 H0 F H) (k : ∀ H', Wf F0 H0 F H' → XL e H0 F H' p [] → (∀ q o, H q = some o → q ≠ p → H' q = some o) → Q .non H') : rClear (.ref p) [] H Q := by
  obtain ⟨vs, a, b⟩ := x.x
  exact ⟨p, vs, rfl, rfl, a.h, k _ (w.set a) ⟨_, a.set, trivial⟩ fun q o h hq => by rw [upd_ne hq]; exact h⟩
theorem a_ext (x : XL e H0 F H p xs) (r : (pL e).r F v ys) (w : Wf F0 H0 F H) (hl : xs.length + ys.length < 1000000) (k : ∀ H', Wf F0 H0 F H' → XL e H0 F H' p (xs ++ ys) → (∀ q o, H q = some o → q ≠ p → H' q = some o) → Q .non H') : rExtend (.ref p) [v] H Q := by
  obtain ⟨vs, a, b⟩ := x.x
  obtain ⟨q, us, rfl, hq, c⟩ := r
  exact ⟨p, q, vs, us, rfl, rfl, a.h, w.f _ _ hq, by rw [b.len, c.len]; exact Nat.le_of_lt (small_len hl), k _ (w.set a) ⟨_, a.set, b.app c⟩ fun q o h hq => by rw [upd_ne hq]; exact h⟩
end
end Wk

namespace Wk
open PySem L2
/-! ### dicts: their pairs in order, keys numbers or texts -/
class KeyT (κ : Type) where
  k : κ → Key
  inj : ∀ {a b : κ}, k a = k b → a = b
instance : KeyT Nat := ⟨fun n => .inl (n : Int), fun h => by have := Sum.inl.inj h; omega⟩
instance : KeyT Int := ⟨fun n => .inl n, fun h => Sum.inl.inj h⟩
instance : KeyT Str := ⟨fun n => .inr n, fun h => Sum.inr.inj h⟩
section
variable {κ α : Type} [DecidableEq κ] [KeyT κ]
def valT (m : List (κ × α)) (j : κ) : Option α := (m.find? fun q => decide (q.1 = j)).map (·.2)
def hasT (m : List (κ × α)) (j : κ) : Bool := (valT m j).isSome
def putT (m : List (κ × α)) (j : κ) (x : α) : List (κ × α) := if hasT m j = true then m.map (fun q => if q.1 = j then (q.1, x) else q) else m ++ [(j, x)]
def DA (e : Rep α) (F : Hp) : List (Key × V) → List (κ × α) → Prop
  | [], [] => True
  | p :: r, q :: s => p.1 = KeyT.k q.1 ∧ e.r F p.2 q.2 ∧ DA e F r s
  | _, _ => False
variable {e : Rep α} {F F' : Hp}
omit [DecidableEq κ] in
theorem DA.mono (h : Ex F F') : ∀ {kvs : List (Key × V)} {m : List (κ × α)}, DA e F kvs m → DA e F' kvs m
  | [], [], _ => trivial
  | _ :: _, _ :: _, ⟨a, b, c⟩ => ⟨a, e.mono h b, DA.mono h c⟩
  | [], _ :: _, q => q.elim
  | _ :: _, [], q => q.elim
theorem DA.len : ∀ {kvs : List (Key × V)} {m : List (κ × α)}, DA e F kvs m → kvs.length = m.length
  | [], [], _ => rfl
  | _ :: _, _ :: _, ⟨_, _, c⟩ => by rw [List.length_cons, List.length_cons, DA.len c]
  | [], _ :: _, q => q.elim
  | _ :: _, [], q => q.elim
theorem valT_cons {q : κ × α} {m : List (κ × α)} {j : κ} : valT (q :: m) j = if q.1 = j then some q.2 else valT m j := by
  unfold valT
  rw [List.find?_cons]
  by_cases h : q.1 = j
  · rw [if_pos h, decide_eq_true h]; rfl
  · rw [if_neg h, decide_eq_false h]
theorem DA.get : ∀ {kvs : List (Key × V)} {m : List (κ × α)} (j : κ), DA e F kvs m → (∀ x, valT m j = some x → ∃ v, valV kvs (KeyT.k j) = some v ∧ e.r F v x) ∧ (valT m j = none → valV kvs (KeyT.k j) = none)
  | [], [], _, _ => ⟨fun x h => (by cases h), fun _ => rfl⟩
  | p :: r, q :: s, j, ⟨a, b, c⟩ => by
    obtain ⟨ih1, ih2⟩ := DA.get j c
    rw [valT_cons]
    by_cases h : q.1 = j
    · rw [if_pos h]
      have e1 : p.1 = KeyT.k j := by rw [a, h]
      exact ⟨fun x hx => ⟨p.2, valV_pos e1, by cases hx; exact b⟩, fun z => by cases z⟩
    · rw [if_neg h]
      have e1 : ¬ p.1 = KeyT.k j := fun z => h (KeyT.inj (a.symm.trans z))
      rw [valV_neg e1]
      exact ⟨ih1, ih2⟩
  | [], _ :: _, _, q => q.elim
  | _ :: _, [], _, q => q.elim
theorem DA.has {kvs : List (Key × V)} {m : List (κ × α)} (j : κ) (d : DA e F kvs m) : (valV kvs (KeyT.k j)).isSome = hasT m j := by
  obtain ⟨h1, h2⟩ := d.get j
  unfold hasT
  cases q : valT m j with
  | none => rw [h2 q]; rfl
  | some x => obtain ⟨v, h, _⟩ := h1 x q; rw [h]; rfl
theorem DA.app : ∀ {kvs : List (Key × V)} {m : List (κ × α)} {kvs' : List (Key × V)} {m' : List (κ × α)}, DA e F kvs m → DA e F kvs' m' → DA e F (kvs ++ kvs') (m ++ m')
  | [], [], _, _, _, h => h
  | _ :: _, _ :: _, _, _, ⟨a, b, c⟩, h => ⟨a, b, DA.app c h⟩
  | [], _ :: _, _, _, q, _ => q.elim
  | _ :: _, [], _, _, q, _ => q.elim
theorem DA.upd {v : V} {x : α} {j : κ} (r : e.r F v x) : ∀ {kvs : List (Key × V)} {m : List (κ × α)}, DA e F kvs m → DA e F (kvs.map fun kv => if kv.1 = KeyT.k j then (kv.1, v) else kv) (m.map fun q => if q.1 = j then (q.1, x) else q)
  | [], [], _ => trivial
  | p :: _, q :: _, ⟨a, b, c⟩ => by
    rw [List.map_cons, List.map_cons]
    refine ⟨?_, ?_, DA.upd r c⟩
    · by_cases h : q.1 = j
      · rw [if_pos h, if_pos (by rw [a, h])]; exact a
      · rw [if_neg h, if_neg (fun z => h (KeyT.inj (a.symm.trans z)))]; exact a
    · by_cases h : q.1 = j
      · rw [if_pos h, if_pos (by rw [a, h])]; exact r
      · rw [if_neg h, if_neg (fun z => h (KeyT.inj (a.symm.trans z)))]; exact b
  | [], _ :: _, q => q.elim
  | _ :: _, [], q => q.elim
theorem DA.put {v : V} {x : α} {j : κ} {kvs : List (Key × V)} {m : List (κ × α)} (d : DA e F kvs m) (r : e.r F v x) : DA e F (putK kvs (KeyT.k j) v) (putT m j x) := by
  unfold putK putT
  rw [valV_any, d.has j]
  by_cases h : hasT m j = true
  · rw [if_pos h, if_pos h]; exact d.upd r
  · rw [if_neg h, if_neg h]; exact d.app ⟨rfl, r, trivial⟩
end
def pD {κ α : Type} [KeyT κ] (e : Rep α) : Rep (List (κ × α)) := ⟨fun F v m => ∃ p kvs, v = .ref p ∧ F p = some (.dK kvs) ∧ DA e F kvs m, fun h ⟨p, kvs, a, b, c⟩ => ⟨p, kvs, a, h _ _ b, c.mono h⟩⟩
structure XD {κ α : Type} [KeyT κ] (e : Rep α) (H0 F H : Hp) (p : Addr) (m : List (κ × α)) : Prop where
  x : ∃ kvs, Xc H0 F H p (.dK kvs) ∧ DA e F kvs m
section
variable {κ α : Type} [DecidableEq κ] [KeyT κ] {e : Rep α} {K : PySem.W.Frag} {σ : L2.St} {F0 H0 F F' H H' : Hp} {te td ty tx tv : TE} {Q : VK} {v w y z : V} {m : List (κ × α)} {p q : Addr} {j : κ} {x : α} {D : Ends}
theorem XD.step (x : XD e H0 F H p m) (w : Wf F H F' H') : XD e H0 F' H' p m := let ⟨vs, a, b⟩ := x.x; ⟨vs, a.step w, b.mono w.g⟩
theorem XD.ne (x : XD e H0 F H p m) (h : H q = none) : p ≠ q := let ⟨_, a, _⟩ := x.x; a.ne h
theorem XD.zero (x : XD e H0 F H p m) : H0 p = none := let ⟨_, a, _⟩ := x.x; a.z
theorem XD.base (x : XD e H F' H' p m) (w : Wf F0 H0 F H) : XD e H0 F' H' p m := let ⟨vs, a, b⟩ := x.x; ⟨vs, ⟨w.h.non a.z, a.n, a.h⟩, b⟩
theorem XD.kept (x : XD e H0 F H q m) (h : ∀ q o, H q = some o → q ≠ p → H' q = some o) (hq : q ≠ p) : XD e H0 F H' q m := let ⟨vs, a, b⟩ := x.x; ⟨vs, a.kept h hq, b⟩
theorem XD.frzO (x : XD e H0 F H q m) (h : ∀ q o, Xc H0 F H q o → q ≠ p → Xc H0 F' H q o) (hq : q ≠ p) (g : Ex F F') : XD e H0 F' H q m := let ⟨vs, a, b⟩ := x.x; ⟨vs, h _ _ a hq, b.mono g⟩
theorem XD.frzE (x : XD e H0 F H p m) (w : Wf F0 H0 F H) : ∃ F', Wf F0 H0 F' H ∧ Ex F F' ∧ (pD e).r F' (.ref p) m ∧ (∀ q o, Xc H0 F H q o → q ≠ p → Xc H0 F' H q o) := by
  obtain ⟨vs, a, b⟩ := x.x
  exact ⟨_, w.freeze a, Ex.new a.n, ⟨p, vs, rfl, upd_same, b.mono (Ex.new a.n)⟩, fun q o z h => z.frz a h⟩
theorem XD.lend (x : XD e H0 F H p m) (w : Wf F0 H0 F H) : ∃ F', Ex F' H ∧ Ex F F' ∧ (pD e).r F' (.ref p) m := let ⟨F', a, b, c, _⟩ := x.frzE w; ⟨F', a.f, b, c⟩
theorem XD.rd (x : XD e H0 F H p m) : ∃ kvs, H p = some (.dK kvs) ∧ DA e F kvs m := let ⟨vs, a, b⟩ := x.x; ⟨vs, a.h, b⟩
theorem D_rd (r : (pD e).r F v m) (f : Ex F H) : ∃ p kvs, v = .ref p ∧ H p = some (.dK kvs) ∧ DA e F kvs m := let ⟨p, vs, a, b, c⟩ := r; ⟨p, vs, a, f _ _ b, c⟩
/-- {} -/
theorem n_dict (w : Wf F0 H0 F H) (k : ∀ p H', H p = none → Wf F H F H' → XD e H0 F H' p ([] : List (κ × α)) → Q (.ref p) H') : tDNewK σ H Q := fun p hp => k p _ hp (Wf.newX w.f hp) ⟨[], Xc.mk' w hp, trivial⟩
/-! reading -/
theorem in_D (r : (pD e).r F v m) (f : Ex F H) (hy : Val ty σ H (kV (KeyT.k j))) (hd : Val td σ H v) : Val (tDIn ty td) σ H (.bl (hasT m j)) := by
  obtain ⟨p, kvs, rfl, hp, a⟩ := D_rd r f
  exact fun Q k => hy _ (hd _ ⟨p, _, rfl, DGet.k hp, by rw [a.has j]; exact k⟩)
theorem in_XD (r : XD e H0 F H p m) (hy : Val ty σ H (kV (KeyT.k j))) (hd : Val td σ H (.ref p)) : Val (tDIn ty td) σ H (.bl (hasT m j)) := by
  obtain ⟨kvs, hp, a⟩ := r.rd
  exact fun Q k => hy _ (hd _ ⟨p, _, rfl, DGet.k hp, by rw [a.has j]; exact k⟩)
theorem nin_D (r : (pD e).r F v m) (f : Ex F H) (hy : Val ty σ H (kV (KeyT.k j))) (hd : Val td σ H v) : Val (tDNotIn ty td) σ H (.bl (!hasT m j)) := by
  obtain ⟨p, kvs, rfl, hp, a⟩ := D_rd r f
  exact fun Q k => hy _ (hd _ ⟨p, _, rfl, DGet.k hp, by rw [a.has j]; exact k⟩)
theorem nin_XD (r : XD e H0 F H p m) (hy : Val ty σ H (kV (KeyT.k j))) (hd : Val td σ H (.ref p)) : Val (tDNotIn ty td) σ H (.bl (!hasT m j)) := by
  obtain ⟨kvs, hp, a⟩ := r.rd
  exact fun Q k => hy _ (hd _ ⟨p, _, rfl, DGet.k hp, by rw [a.has j]; exact k⟩)
theorem ix_D (r : (pD e).r F v m) (f : Ex F H) (hx : valT m j = some x) : ∃ w, e.r F w x ∧ ∀ ⦃σ td ty⦄, Val td σ H v → Val ty σ H (kV (KeyT.k j)) → Val (tDGet td ty) σ H w := by
  obtain ⟨p, kvs, rfl, hp, a⟩ := D_rd r f
  obtain ⟨w, h1, h2⟩ := (a.get j).1 x hx
  exact ⟨w, h2, fun _ _ _ hd hy Q k => hd _ (hy _ ⟨p, w, rfl, by rw [← h1]; exact DGet.k hp, k⟩)⟩
theorem ix_XD (r : XD e H0 F H p m) (hx : valT m j = some x) : ∃ w, e.r F w x ∧ ∀ ⦃σ td ty⦄, Val td σ H (.ref p) → Val ty σ H (kV (KeyT.k j)) → Val (tDGet td ty) σ H w := by
  obtain ⟨kvs, hp, a⟩ := r.rd
  obtain ⟨w, h1, h2⟩ := (a.get j).1 x hx
  exact ⟨w, h2, fun _ _ _ hd hy Q k => hd _ (hy _ ⟨p, w, rfl, by rw [← h1]; exact DGet.k hp, k⟩)⟩
/-- d.get(k, x) -/
theorem get_XD (r : XD e H0 F H p m) (hz : e.r F z x) : ∃ w, e.r F w ((valT m j).getD x) ∧ ∀ ⦃σ td ty tx⦄, Val td σ H (.ref p) → Val ty σ H (kV (KeyT.k j)) → Val tx σ H z → Val (tDGet2 td ty tx) σ H w := by
  obtain ⟨kvs, hp, a⟩ := r.rd
  obtain ⟨h1, h2⟩ := a.get j
  have isd : IsD H p := .inl ⟨kvs, .inl hp⟩
  cases q : valT m j with
  | none => exact ⟨z, hz, fun _ _ _ _ hd hy hx Q k => hd _ ⟨p, rfl, isd, hy _ (hx _ ⟨none, by rw [← h2 q]; exact DGet.k hp, k⟩)⟩⟩
  | some x' =>
    obtain ⟨w, h3, h4⟩ := h1 x' q
    exact ⟨w, h4, fun _ _ _ _ hd hy hx Q k => hd _ ⟨p, rfl, isd, hy _ (hx _ ⟨some w, by rw [← h3]; exact DGet.k hp, k⟩)⟩⟩
theorem get_D (r : (pD e).r F v m) (f : Ex F H) (hz : e.r F z x) : ∃ w, e.r F w ((valT m j).getD x) ∧ ∀ ⦃σ td ty tx⦄, Val td σ H v → Val ty σ H (kV (KeyT.k j)) → Val tx σ H z → Val (tDGet2 td ty tx) σ H w := by
  obtain ⟨p, kvs, rfl, hp, a⟩ := D_rd r f
  obtain ⟨h1, h2⟩ := a.get j
  have isd : IsD H p := .inl ⟨kvs, .inl hp⟩
  cases q : valT m j with
  | none => exact ⟨z, hz, fun _ _ _ _ hd hy hx Q k => hd _ ⟨p, rfl, isd, hy _ (hx _ ⟨none, by rw [← h2 q]; exact DGet.k hp, k⟩)⟩⟩
  | some x' =>
    obtain ⟨w, h3, h4⟩ := h1 x' q
    exact ⟨w, h4, fun _ _ _ _ hd hy hx Q k => hd _ ⟨p, rfl, isd, hy _ (hx _ ⟨some w, by rw [← h3]; exact DGet.k hp, k⟩)⟩⟩
/-- d[k] = v, v evaluated -/
theorem d_put (r : XD e H0 F H p m) (w : Wf F0 H0 F H) (hl : m.length < 1000000) (rv : e.r F v x) (hd : Val td σ H (.ref p)) (hy : Val ty σ H (kV (KeyT.k j))) (k : ∀ H', Wf F0 H0 F H' → XD e H0 F H' p (putT m j x) → (∀ q o, H q = some o → q ≠ p → H' q = some o) → D.nx σ H') :
    (fun v H1 => td σ H1 fun x H2 => ty σ H2 fun y H3 => ∃ a H4, x = .ref a ∧ DPut H3 a y v H4 ∧ D.nx σ H4) v H := by
  obtain ⟨kvs, a, b⟩ := r.x
  exact hd _ (hy _ ⟨p, _, rfl, DPut.k a.h (by rw [b.len]; exact small_len hl), k _ (w.set a) ⟨_, a.set, b.put rv⟩ fun q o h hq => by rw [upd_ne hq]; exact h⟩)
theorem e_dput (h : tv σ H fun v H1 => td σ H1 fun x H2 => ty σ H2 fun y H3 => ∃ a H4, x = .ref a ∧ DPut H3 a y v H4 ∧ D.nx σ H4) : sDPut td ty tv D σ H := h
end
/-! ### ways of a test or a truth that meet -/
section
variable {S : Type} {σ : L2.St} {H : Hp} {te ta tb : TE} {tt tu : TT} {Q : VK} {k : Bool → Prop}
theorem e_jnT {f : (Bool → Prop) → Prop} {Qt : Bool → Hp → Prop} (hW : jn f k) (Inv : Bool → Hp → Hp → Prop)
    (h1 : ∀ N : Bool → Hp → Prop, (∀ b F' H', Inv b F' H' → k b → N b H') → f k → tt σ H N) (h2 : ∀ b F' H', Inv b F' H' → k b → Qt b H') : tt σ H Qt :=
  h1 Qt (fun b F' H' q n => h2 b F' H' q n) hW
theorem e_jnV {f : (Bool → Prop) → Prop} (hW : jn f k) (Inv : Bool → Hp → Hp → Prop)
    (h1 : ∀ N : VK, (∀ b F' H', Inv b F' H' → k b → N (.bl b) H') → f k → te σ H N) (h2 : ∀ b F' H', Inv b F' H' → k b → Q (.bl b) H') : te σ H Q :=
  h1 Q (fun b F' H' q n => h2 b F' H' q n) hW
theorem e_tAnd {Qt : Bool → Hp → Prop} (h : tt σ H fun c H1 => if c = true then tu σ H1 Qt else Qt false H1) : tAnd tt tu σ H Qt := h
theorem e_tOr {Qt : Bool → Hp → Prop} (h : tt σ H fun c H1 => if c = true then Qt true H1 else tu σ H1 Qt) : tOr tt tu σ H Qt := h
theorem e_AndV (h : ta σ H fun x H1 => ∃ c, x = .bl c ∧ if c = true then tb σ H1 Q else Q (.bl false) H1) : tAndV ta tb σ H Q := h
theorem e_OrV (h : ta σ H fun x H1 => ∃ c, x = .bl c ∧ if c = true then Q (.bl true) H1 else tb σ H1 Q) : tOrV ta tb σ H Q := h
theorem e_NotV (h : ta σ H fun x H1 => ∃ c, x = .bl c ∧ Q (.bl (!c)) H1) : tNotV ta σ H Q := h
theorem bl_if {b : Bool} {A B : Prop} (h : if b = true then A else B) : ∃ c, V.bl b = .bl c ∧ if c = true then A else B := ⟨b, rfl, h⟩
theorem bl_v {b : Bool} {A : Bool → Prop} (h : A b) : ∃ c, V.bl b = .bl c ∧ A c := ⟨b, rfl, h⟩
end
end Wk

namespace Wk
theorem dec_nt {b : Bool} : (!b) = decide (¬ (b = true)) := by cases b <;> rfl
end Wk

namespace Wk.LR
open PySem PyProof.Rows L2
section
variable {prog : Program} {w : World} {A : Around} {E : Value → Shared → Prop} {s : Shared}
theorem extend_rev {R : Result → Shared → Prop} {it l : Addr} {items : Array Value} (hh : A.handled = none) (hit : s.heap.IsRevIter it l ((items.size : Int) - 1)) (hl : s.heap.IsList l items) (hne : l ≠ it) (hn : items.size ≤ sizeLine) (S : Addr) (res : Value) {c₀ : Nat} (hS : s.heap.get? S = some { cls := .type "list", data := .seq #[] c₀ })
    (hSl : S ≠ l)
    (hR : ∀ h' tk acc' c', (∀ b o, b ≠ S → b ≠ it → s.heap.get? b = some o → h'.get? b = some o) → h'.get? S = some { cls := .type "list", dict := none, data := .seq acc' c', slots := #[] } →
      ItemsOf (fun i v => items[items.size - 1 - i]? = some v) acc' items.size → R (.ok (.ret res)) { s with heap := h', toks := tk }) :
    wpAny (model prog w) A.in1 (Builtin.List.listExtendWith (.ref S) (.ref it) res)
      (fun fin s' => match fin with | .done f => R (.ok f) s' | .again c' => c'.quiet = true ∧ codeAny (model prog w) A c' R s') (fun e s' => R (.error e) s') s := by
  have hT : s.TypeIs (.ref it) "list_reverseiterator" := Heap.IsRevIter.typeIs hit
  have hSi : S ≠ it := fun e => by
    obtain ⟨o, ho, hc⟩ := hT
    rw [← e, hS] at ho; cases ho
    simp at hc
  have W := (Walks.listRev (prog := prog) (w := w) (A := A.in1) hh it l hne items).toS
  have hSf : S ∉ [it, l] := fun hm => by
    rcases List.mem_cons.mp hm with e | hm
    · exact hSi e
    · exact hSl (List.mem_singleton.mp hm)
  have h1 : Builtin.List.listSameRef (.ref S) (.ref it) = false := by simp [Builtin.List.listSameRef, hSi]
  unfold Builtin.List.listExtendWith
  refine wpAny_bind (wpAny_typeOf hT ?_)
  rw [if_neg (by rw [h1]; decide)]
  refine wpAny_bind (wpAny_pyIter_revIter hit ?_)
  refine wpAny_bind (wpAny_holding ?_)
  unfold Builtin.List.listLengthHint
  refine wpAny_bind (wpAny_specialOf hT RT.nolen_lri ?_)
  show wpAny _ A.in1 (specialOf (Value.ref it) (Str.ofString "__length_hint__") >>= _) _ _ _
  refine wpAny_bind (wpAny_specialOf hT RT.hint_lri ?_)
  generalize hid : ("list_reverseiterator.__length_hint__" : String) = id0
  wp_delta
  rw [show splitId id0 = some ("list_reverseiterator", "__length_hint__") from by subst hid; decide +kernel]
  subst hid
  refine wpAny_bind (wpAny_isInstance (b := true) hT (by rw [isSubtype_type]; kernel_rfl) ?_)
  refine wpAny_pure ?_
  rw [if_neg (by decide)]
  have e0 : ((items.size : Nat) : Int) - 1 - ((0 : Nat) : Int) = (items.size : Int) - 1 := by omega
  refine wpAny_pure ⟨plainId_quiet F.plain_extend_loop _, codeAny_extend_loopS W hn _ hSf _ items.size 0 _ _ _ rfl (Nat.zero_le _) ⟨Nat.zero_le _, by rw [e0]; exact hit, hl⟩ hS (ItemsOf.nil _) fun s' acc' c' hm hS' hacc => ?_⟩
  rw [Moved.eq_with hm]
  refine hR s'.heap s'.toks acc' c' (fun b o hb hb2 e => hm.heap b o (fun hmem => ?_) e) hS' hacc
  rcases List.mem_cons.mp hmem with e' | hmem
  · exact hb e'
  · exact hb2 (List.mem_singleton.mp hmem)
theorem call_list_rev {Q : Value → Shared → Prop} {it l : Addr} {items : Array Value} (hh : A.handled = none) (hit : s.heap.IsRevIter it l ((items.size : Int) - 1)) (hl : s.heap.IsList l items) (hne : l ≠ it) (hn : items.size ≤ sizeLine)
    (hQ : ∀ h' tk acc' c', (∀ b o, b ≠ it → s.heap.get? b = some o → h'.get? b = some o) →
      h'.get? s.heap.objs.size = some { cls := .type "list", dict := none, data := .seq acc' c', slots := #[] } → ItemsOf (fun i v => items[items.size - 1 - i]? = some v) acc' items.size → Q (.ref s.heap.objs.size) { s with heap := h', toks := tk }) :
    wpAny (model prog w) A (call (.type "list") [.ref it]) Q E s := by
  refine callType_codes (Q₁ := fun obj s₁ => obj = .ref s.heap.objs.size ∧ s₁ = { s with heap := s.heap.push { cls := .type "list", data := .seq #[] } }) F.called_list (F.typeCall_list_1 _) F.entry_list_init
    (code_list_new _ ⟨rfl, rfl⟩) fun obj s₁ h₁ => ?_
  obtain ⟨rfl, rfl⟩ := h₁
  have hS : (s.heap.push { cls := .type "list", data := .seq #[] }).get? s.heap.objs.size = some { cls := .type "list", data := .seq #[] } := Heap.get?_push_size _ rfl
  have hlt : l < s.heap.objs.size := let ⟨o, e, _⟩ := hl; Heap.lt_size e
  have hSl : s.heap.objs.size ≠ l := fun e => by rw [← e] at hlt; exact Nat.lt_irrefl _ hlt
  refine ⟨⟨_, hS, rfl⟩, F.args_list_init_2 _ _, ?_⟩
  show wpAny _ _ (do let old ← Builtin.List.listItems (.ref s.heap.objs.size); Builtin.List.listUpdate (.ref s.heap.objs.size) (fun _ => #[]); letGo old.toList.reverse; Builtin.List.listExtendWith (.ref s.heap.objs.size) (.ref it) .none) _ _ _
  refine wpAny_bind ?_
  unfold Builtin.List.listItems
  refine wpAny_bind (wpAny_seqItems hS rfl (wpAny_pure ?_))
  show wpAny _ _ (updateSeq s.heap.objs.size (fun _ => #[]) >>= fun _ => letGo (#[] : Array Value).toList.reverse >>= fun _ => Builtin.List.listExtendWith (.ref s.heap.objs.size) (.ref it) .none) _ _ _
  refine wpAny_bind (wpAny_updateSeq hS rfl ?_)
  obtain ⟨c₂, hS₂⟩ : ∃ c, ((s.heap.push { cls := .type "list", data := .seq #[] }).update s.heap.objs.size (Obj.mapSeq (fun _ => (#[] : Array Value)))).get? s.heap.objs.size = some { cls := .type "list", data := .seq #[] c } := ⟨_, Heap.get?_update_self (Obj.mapSeq (fun _ => (#[] : Array Value))) hS rfl⟩
  have oth : ∀ b o, b ≠ s.heap.objs.size → s.heap.get? b = some o → ((s.heap.push { cls := .type "list", data := .seq #[] }).update s.heap.objs.size (Obj.mapSeq (fun _ => (#[] : Array Value)))).get? b = some o :=
    fun b o hb e => (Heap.get?_update_other _ _ (Ne.symm hb)).trans (Heap.get?_push_of_some _ e)
  have oth2 : ∀ b o, s.heap.get? b = some o → ((s.heap.push { cls := .type "list", data := .seq #[] }).update s.heap.objs.size (Obj.mapSeq (fun _ => (#[] : Array Value)))).get? b = some o := fun b o e => oth b o (Nat.ne_of_lt (Heap.lt_size e)) e
  refine wpAny_bind (wpAny_letGo ?_)
  refine extend_rev (A := A.in1) (prog := prog) (w := w) (R := wants (fun r s₂ => r = Value.none ∧ Q (Value.ref s.heap.objs.size) s₂) E) (s := { s with heap := (s.heap.push { cls := .type "list", data := .seq #[] }).update s.heap.objs.size (Obj.mapSeq (fun _ => (#[] : Array Value))) }) (c₀ := c₂) hh (hit.at fun o e => oth2 _ _ e) (hl.at fun o e => oth2 _ _ e) hne hn _ .none hS₂ hSl fun h' tk acc' c' hk hS' hacc => ?_
  exact ⟨rfl, hQ h' tk acc' c' (fun b o hb e => hk b o (Nat.ne_of_lt (Heap.lt_size e)) hb (oth2 b o e)) hS' hacc⟩
end
end Wk.LR
namespace Wk
open PySem L2 PyProof.Rows
def rLstRev (K : PySem.W.Frag) (Q : VK) (v : V) (H1 : Hp) : Prop := ∃ (a : Addr) (xs : List V), v = .ref a ∧ SqL K H1 a xs ∧ ∀ q, H1 q = none → Q (.ref q) (upd H1 q (.lst xs.reverse))
def tLstRev (K : PySem.W.Frag) (te : TE) : TE := fun σ H Q => te σ H (rLstRev K Q)
theorem All.rev {α : Type} {e : Rep α} {F : Hp} : ∀ {vs : List V} {xs : List α}, All e F vs xs → All e F vs.reverse xs.reverse
  | [], [], _ => trivial
  | _ :: _, _ :: _, ⟨a, b⟩ => by rw [List.reverse_cons, List.reverse_cons]; exact (All.rev b).snoc a
  | [], _ :: _, q => q.elim
  | _ :: _, [], q => q.elim
theorem e_lrev {K : PySem.W.Frag} {te : TE} {σ : L2.St} {H : Hp} {Q : VK} (h : te σ H (rLstRev K Q)) : tLstRev K te σ H Q := h
theorem n_lrevX {α : Type} {e : Rep α} {K : PySem.W.Frag} {F0 H0 F H : Hp} {v : V} {xs : List α} {Q : VK} (r : (pL e).r F v xs) (w : Wf F0 H0 F H) (k : ∀ p H', H p = none → Wf F H F H' → XL e H0 F H' p xs.reverse → Q (.ref p) H') : rLstRev K Q v H := by
  obtain ⟨p, vs, rfl, hp, a⟩ := r
  exact ⟨p, vs, rfl, SqL.of (w.f _ _ hp), fun l hl => k l _ hl (Wf.newX w.f hl) ⟨vs.reverse, Xc.mk' w hl, a.rev⟩⟩
theorem n_lrevXX {α : Type} {e : Rep α} {K : PySem.W.Frag} {F0 H0 F H : Hp} {q : Addr} {xs : List α} {Q : VK} (r : XL e H0 F H q xs) (w : Wf F0 H0 F H) (k : ∀ p H', H p = none → Wf F H F H' → XL e H0 F H' p xs.reverse → Q (.ref p) H') : rLstRev K Q (.ref q) H := by
  obtain ⟨vs, hp, a⟩ := r.rd
  exact ⟨q, vs, rfl, SqL.of hp, fun l hl => k l _ hl (Wf.newX w.f hl) ⟨vs.reverse, Xc.mk' w hl, a.rev⟩⟩
section
variable {X : Cx}
theorem pe_lstRev {e : Expr} {te : TE} {p p2 pos pos2 : Pos} (hc : X.calm = true) (hg : Gl X "list") (hm : X.mg "list" = none) (hg2 : Gl X "reversed") (hm2 : X.mg "reversed" = none) (he : PE X e te)
    (hs : starEach [e] X.env = (false, eval e X.env) :: starEach [] X.env := by rfl)
    (hs2 : starEach [.Call (.Name "reversed" p2) [e] [] pos2] X.env = (false, eval (.Call (.Name "reversed" p2) [e] [] pos2) X.env) :: starEach [] X.env := by rfl) :
    PE X (.Call (.Name "list" p) [.Call (.Name "reversed" p2) [e] [] pos2] [] pos) (tLstRev X.K te) := by
  refine ⟨fun pins s σ H Q I h => ?_⟩
  refine Call_ (ld_blt I hg hm PyProof.Rows.boot_list (PyProof.Rows.callWith_type1 (args_cons (Call_ (ld_blt I hg2 hm2 PyProof.Rows.boot_reversed (PyProof.Rows.callWith_type1 (args_cons (thn (he.run pins s σ H _ I h) fun u s1 ⟨v, H1, I1, r1, q1⟩ => args_nil ?_) hs) hs rfl))) hs2) hs2 rfl))
  obtain ⟨a, xs, ev, hq, q⟩ := q1
  subst ev
  obtain rfl : u = Value.ref a := r1
  obtain ⟨its, rv, p', hz⟩ := I1.list hq
  refine call_reversed_list p'.isList (args_nil ?_)
  have k0 : ∀ b o, s1.heap.get? b = some o → (s1.heap.push (revObj a ((its.toArray.size : Int) - 1))).get? b = some o := fun b o e => Heap.get?_push_of_some _ e
  have hl := p'.isList
  obtain ⟨ol, hol, _⟩ := id hl
  have hne : a ≠ s1.heap.objs.size := Nat.ne_of_lt (Heap.lt_size hol)
  have hn : its.toArray.size ≤ sizeLine := by rw [List.size_toArray, ← rv.length]; exact hz
  refine LR.call_list_rev (s := { s1 with heap := s1.heap.push (revObj a ((its.toArray.size : Int) - 1)) }) (I1.ok.hd hc) ⟨_, Heap.get?_push_size _ rfl, rfl, rfl⟩ (hl.push _) hne hn fun h' tk acc c' hk hS hi => ?_
  have hsz : (s1.heap.push (revObj a ((its.toArray.size : Int) - 1))).objs.size = s1.heap.objs.size + 1 := Heap.size_push _ _
  rw [hsz] at hS
  exact ⟨.ref (s1.heap.objs.size + 1), upd H1 (s1.heap.objs.size + 1) (.lst xs.reverse), I1.laid (t' := tk) (fun b u e => hk b u (Nat.ne_of_lt (Heap.lt_size e)) (k0 b u e)) (Nat.le_succ _) (show ObjOk X.prog X.w _ _ _ (.lst xs.reverse) from
    ⟨by rw [List.length_reverse]; exact hz, acc.toList, c', RT.vals_rev rv hi, by rw [Array.toArray_toList]; exact hS⟩), congrArg Value.ref hsz, q _ (I1.hok.fresh (Nat.le_succ _))⟩
end
end Wk
/-! Pl: plain lemmas that no law owns. -/
namespace Wk
section
variable {α β S : Type}
theorem forW_ind {xs : List α} {s : S} {body : α → S → (S → Prop) → (S → Prop) → Prop} {k : S → Prop} (P : List α → S → Prop) (h0 : P [] s)
    (hb : ∀ pre x post s nx bk, xs = pre ++ x :: post → P pre s → (∀ s', P (pre ++ [x]) s' → nx s') → (∀ s', k s' → bk s') → body x s nx bk)
    (hk : ∀ s, P xs s → k s) : forW xs s body k := by
  suffices h : ∀ (post pre : List α) (s : S), xs = pre ++ post → P pre s → forW post s body k from h xs [] s rfl h0
  intro post
  induction post with
  | nil => intro pre s e p; rw [List.append_nil] at e; subst e; exact hk s p
  | cons x post ih => intro pre s e p; exact hb pre x post s _ _ e p (fun s' p' => ih (pre ++ [x]) s' (by rw [e, List.append_assoc]; rfl) p') (fun _ h => h)
theorem forW_foldI {xs : List α} {s : S} {body : α → S → (S → Prop) → (S → Prop) → Prop} {k : S → Prop} (f : S → α → S) (I : S → Prop) (h0 : I s)
    (hb : ∀ x ∈ xs, ∀ s nx bk, I s → (I (f s x) → nx (f s x)) → body x s nx bk) (hi : ∀ x ∈ xs, ∀ s, I s → I (f s x))
    (hk : I (xs.foldl f s) → k (xs.foldl f s)) : forW xs s body k := by
  induction xs generalizing s with
  | nil => exact hk h0
  | cons x xs ih =>
    refine hb x (List.mem_cons_self ..) s _ _ h0 fun h1 => ih (s := f s x) h1 (fun y hy => hb y (List.mem_cons_of_mem _ hy)) (fun y hy => hi y (List.mem_cons_of_mem _ hy)) hk
theorem forW_fold {xs : List α} {s : S} {body : α → S → (S → Prop) → (S → Prop) → Prop} {k : S → Prop} (f : S → α → S)
    (hb : ∀ x ∈ xs, ∀ s nx bk, nx (f s x) → body x s nx bk) (hk : k (xs.foldl f s)) : forW xs s body k :=
  forW_foldI f (fun _ => True) trivial (fun x hx s nx bk _ h => hb x hx s nx bk (h trivial)) (fun _ _ _ _ => trivial) fun _ => hk
theorem forW_unit {xs : List α} {body : α → Unit → (Unit → Prop) → (Unit → Prop) → Prop} {k : Unit → Prop}
    (hb : ∀ x ∈ xs, ∀ nx bk, nx () → body x () nx bk) (hk : k ()) : forW xs () body k :=
  forW_fold (fun s _ => s) (fun x hx _ nx bk h => hb x hx nx bk h) hk
theorem compG_fm {xs : List α} {acc : List β} {b : α → (Option β → Prop) → Prop} {k : List β → Prop} (f : α → Option β) (hb : ∀ x ∈ xs, ∀ kk, kk (f x) → b x kk) (hk : k (acc ++ xs.filterMap f)) : compG xs acc b k := by
  induction xs generalizing acc with
  | nil => simpa [compG] using hk
  | cons x xs ih =>
    refine hb x (List.mem_cons_self ..) _ (ih (fun y hy => hb y (List.mem_cons_of_mem _ hy)) ?_)
    rw [List.filterMap_cons] at hk
    cases h : f x with
    | none => rw [h] at hk; simpa using hk
    | some y => rw [h] at hk; simpa using hk
theorem compW_fm {xs : List α} {b : α → (Option β → Prop) → Prop} {k : List β → Prop} (f : α → Option β) (hb : ∀ x ∈ xs, ∀ kk, kk (f x) → b x kk) (hk : k (xs.filterMap f)) : compW xs b k :=
  compG_fm f hb (by simpa using hk)
theorem compW_map {xs : List α} {b : α → (Option β → Prop) → Prop} {k : List β → Prop} (f : α → β) (hb : ∀ x ∈ xs, ∀ kk, kk (some (f x)) → b x kk) (hk : k (xs.map f)) : compW xs b k :=
  compW_fm (fun x => some (f x)) hb (by rw [show (fun x => some (f x)) = some ∘ f from rfl, List.filterMap_eq_map]; exact hk)
theorem compW_filter {xs : List α} {b : α → (Option α → Prop) → Prop} {k : List α → Prop} (p : α → Bool) (hb : ∀ x ∈ xs, ∀ kk, (p x = true → kk (some x)) → (p x = false → kk none) → b x kk) (hk : k (xs.filter p)) : compW xs b k :=
  compW_fm (fun x => if p x = true then some x else none) (fun x hx kk h => hb x hx kk (fun e => by simpa [e] using h) (fun e => by simpa [e] using h)) (by
    have : (fun x => if p x = true then some x else none) = Option.guard (fun x => p x) := by funext x; by_cases h : p x = true <;> simp [Option.guard, h]
    rw [this, List.filterMap_eq_filter]; exact hk)
theorem whileW_of {test : S → (Bool → Prop) → Prop} {body : S → (S → Prop) → (S → Prop) → Prop} {s : S} {k : S → Prop} (I : S → Prop) (μ : S → Nat) (h0 : I s)
    (hb : ∀ s, I s → test s fun b => if b = true then body s (fun s' => (μ s' < μ s ∧ I s')) k else k s) (hm : ∀ {s p q}, (∀ x, p x → q x) → (test s fun b => if b = true then body s p k else k s) → (test s fun b => if b = true then body s q k else k s)) : whileW test body s k :=
  ⟨fun m s => m = μ s ∧ I s, ⟨_, rfl, h0⟩, fun m s ⟨e, h⟩ => hm (fun s' ⟨a, b⟩ => ⟨μ s', by rw [e]; exact a, rfl, b⟩) (hb s h)⟩
theorem jnI {f : (S → Prop) → Prop} {k : S → Prop} (h : f k) : jn f k := h
/-- a while loop without a measure that must be told -/
theorem whileW_ind {test : S → (Bool → Prop) → Prop} {body : S → (S → Prop) → (S → Prop) → Prop} {s : S} {k : S → Prop} (I : S → Prop) (μ : S → Nat) (h0 : I s)
    (hb : ∀ s (nx : S → Prop), I s → (∀ s', I s' → μ s' < μ s → nx s') → test s fun b => if b = true then body s nx k else k s) : whileW test body s k :=
  ⟨fun m s => m = μ s ∧ I s, ⟨_, rfl, h0⟩, fun m s ⟨e, h⟩ => hb s _ h fun s' h' hl => ⟨μ s', by rw [e]; exact hl, rfl, h'⟩⟩
end
end Wk
/-! Bt: masks as sets of bits. -/
namespace Wk
theorem halfBit (n i : Nat) : (n / 2).testBit i = n.testBit (i + 1) := by rw [Nat.testBit_add_one]
theorem half_xor (a b : Nat) : (a ^^^ b) / 2 = a / 2 ^^^ b / 2 := Nat.eq_of_testBit_eq fun i => by rw [Nat.testBit_xor, halfBit, halfBit, halfBit, Nat.testBit_xor]
theorem half_and (a b : Nat) : (a &&& b) / 2 = a / 2 &&& b / 2 := Nat.eq_of_testBit_eq fun i => by rw [Nat.testBit_and, halfBit, halfBit, halfBit, Nat.testBit_and]
/-- is the number of bits odd? -/
def par (n : Nat) : Bool := if h : n = 0 then false else xor (n.testBit 0) (par (n / 2))
termination_by n
decreasing_by omega
theorem par_zero : par 0 = false := by rw [par]; simp
theorem par_step (n : Nat) : par n = xor (n.testBit 0) (par (n / 2)) := by
  by_cases h : n = 0
  · subst h; simp [par_zero]
  · rw [par, dif_neg h]
theorem par_xor : ∀ a b : Nat, par (a ^^^ b) = xor (par a) (par b) := by
  intro a
  induction a using Nat.strongRecOn with
  | ind a ih =>
    intro b
    by_cases h : a = 0
    · subst h; simp [par_zero]
    · rw [par_step (a ^^^ b), par_step a, par_step b, half_xor, ih (a / 2) (by omega), Nat.testBit_xor]
      cases a.testBit 0 <;> cases b.testBit 0 <;> cases par (a / 2) <;> cases par (b / 2) <;> rfl
theorem par_two_pow (k : Nat) : par (2 ^ k) = true := by
  induction k with
  | zero => rw [par_step]; simp [par_zero]
  | succ k ih =>
    rw [par_step, Nat.testBit_two_pow]
    have e : 2 ^ (k + 1) / 2 = 2 ^ k := by rw [Nat.pow_succ]; omega
    rw [e, ih]; simp
/-- the places of the bits below k -/
def bl (k n : Nat) : List Nat := (List.range k).filter n.testBit
theorem mem_bl {k n j : Nat} : j ∈ bl k n ↔ j < k ∧ n.testBit j = true := by simp [bl, List.mem_filter, List.mem_range]
theorem bl_len (k n : Nat) : (bl k n).length ≤ k := by
  have := List.length_filter_le n.testBit (List.range k)
  rw [List.length_range] at this; exact this
theorem bl_nodup (k n : Nat) : (bl k n).Nodup := (List.nodup_range).filter _
theorem bl_snoc (k n : Nat) : bl (k + 1) n = bl k n ++ if n.testBit k = true then [k] else [] := by
  unfold bl
  rw [List.range_succ, List.filter_append]
  by_cases h : n.testBit k = true
  · rw [if_pos h, List.filter_cons_of_pos h]; rfl
  · rw [if_neg h, List.filter_cons_of_neg h]; rfl
theorem bl_more {p k n : Nat} (h : p ≤ k) (z : n >>> p = 0) : bl k n = bl p n := by
  induction k with
  | zero => have : p = 0 := by omega
            subst this; rfl
  | succ k ih =>
    by_cases e : p = k + 1
    · subst e; rfl
    · rw [bl_snoc, ih (by omega)]
      have : n.testBit k = false := by
        have a : (n >>> p).testBit (k - p) = n.testBit (p + (k - p)) := Nat.testBit_shiftRight ..
        rw [z, Nat.zero_testBit] at a
        rw [show p + (k - p) = k by omega] at a
        exact a.symm
      simp [this]
theorem par_bl {k : Nat} : ∀ {n : Nat}, n < 2 ^ k → par n = decide ((bl k n).length % 2 = 1) := by
  induction k with
  | zero => intro n h; have : n = 0 := by simpa using h
            subst this; simp [par_zero, bl]
  | succ k ih =>
    intro n h
    have e : (bl (k + 1) n).length = (n.testBit 0).toNat + (bl k (n / 2)).length := by
      unfold bl
      rw [List.range_succ_eq_map, List.filter_cons]
      have m : (List.map Nat.succ (List.range k)).filter n.testBit = ((List.range k).filter (n / 2).testBit).map Nat.succ := by
        rw [List.filter_map]
        congr 1
        refine List.filter_congr fun x _ => ?_
        show n.testBit (x + 1) = (n / 2).testBit x
        rw [halfBit]
      rw [m]
      cases n.testBit 0 <;> simp [List.length_map] <;> omega
    rw [par_step, ih (n := n / 2) (by rw [Nat.pow_succ] at h; omega), e]
    cases n.testBit 0
    · simp
    · simp only [Bool.toNat_true]
      by_cases q : (bl k (n / 2)).length % 2 = 1
      · simp [q]; omega
      · simp [q]; omega
/-- the mask of places, each as often as it stands there -/
def mofI (m : Nat) (ps : List Nat) : Nat := ps.foldl (fun m p => m ^^^ 2 ^ p) m
def mof (ps : List Nat) : Nat := mofI 0 ps
theorem mofI_bit (ps : List Nat) (m j : Nat) : (mofI m ps).testBit j = xor (m.testBit j) (decide (ps.count j % 2 = 1)) := by
  induction ps generalizing m with
  | nil => simp [mofI]
  | cons p ps ih =>
    show (mofI (m ^^^ 2 ^ p) ps).testBit j = _
    rw [ih, Nat.testBit_xor, Nat.testBit_two_pow, List.count_cons]
    by_cases h : p = j
    · subst h
      by_cases q : ps.count p % 2 = 1
      · simp [q]; cases m.testBit p <;> simp <;> omega
      · simp [q]; cases m.testBit p <;> simp <;> omega
    · simp [h]
theorem mof_bit (ps : List Nat) (j : Nat) : (mof ps).testBit j = decide (ps.count j % 2 = 1) := by
  unfold mof; rw [mofI_bit, Nat.zero_testBit, Bool.false_xor]
theorem mofI_xor (ps : List Nat) (m : Nat) : mofI m ps = m ^^^ mof ps := Nat.eq_of_testBit_eq fun j => by rw [mofI_bit, Nat.testBit_xor, mof_bit]
theorem mof_append (ps qs : List Nat) : mof (ps ++ qs) = mof ps ^^^ mof qs := Nat.eq_of_testBit_eq fun j => by
  rw [Nat.testBit_xor, mof_bit, mof_bit, mof_bit, List.count_append]
  by_cases a : ps.count j % 2 = 1 <;> by_cases b : qs.count j % 2 = 1 <;> simp [a, b] <;> omega
theorem mof_reverse (ps : List Nat) : mof ps.reverse = mof ps := Nat.eq_of_testBit_eq fun j => by rw [mof_bit, mof_bit, List.count_reverse]
theorem testBit_big {n k j : Nat} (h : n < 2 ^ k) (hj : k ≤ j) : n.testBit j = false := Nat.testBit_lt_two_pow (Nat.lt_of_lt_of_le h (Nat.pow_le_pow_right (by decide) hj))
theorem count_bl {k n j : Nat} : (bl k n).count j = if j < k ∧ n.testBit j = true then 1 else 0 := by
  by_cases h : j < k ∧ n.testBit j = true
  · rw [if_pos h]
    exact Nat.le_antisymm (List.nodup_iff_count.mp (bl_nodup k n) j) (List.count_pos_iff.mpr (mem_bl.mpr h))
  · rw [if_neg h]
    exact List.count_eq_zero.mpr fun z => h (mem_bl.mp z)
theorem mof_bl {k n : Nat} (h : n < 2 ^ k) : mof (bl k n) = n := Nat.eq_of_testBit_eq fun j => by
  rw [mof_bit, count_bl]
  by_cases a : j < k
  · by_cases b : n.testBit j = true <;> simp [a, b]
  · have : n.testBit j = false := testBit_big h (Nat.le_of_not_lt a)
    simp [a, this]
/-! dicts -/
section
variable {κ α : Type} [DecidableEq κ] [KeyT κ]
theorem valT_nil (j : κ) : valT ([] : List (κ × α)) j = none := rfl
theorem valT_app {m : List (κ × α)} {j i : κ} {x : α} (h : hasT m j = false) : valT (m ++ [(j, x)]) i = if j = i then some x else valT m i := by
  induction m with
  | nil => show valT [(j, x)] i = _; rw [valT_cons]
  | cons q m ih =>
    have h' : q.1 ≠ j ∧ hasT m j = false := by
      unfold hasT at h ⊢
      rw [valT_cons] at h
      by_cases e : q.1 = j
      · rw [if_pos e] at h; cases h
      · rw [if_neg e] at h; exact ⟨e, h⟩
    rw [List.cons_append, valT_cons, valT_cons, ih h'.2]
    by_cases e : q.1 = i
    · rw [if_pos e, if_pos e, if_neg]
      intro z; exact h'.1 (e.trans z.symm)
    · rw [if_neg e, if_neg e]
theorem valT_map {m : List (κ × α)} {j i : κ} {x : α} : valT (m.map fun q => if q.1 = j then (q.1, x) else q) i = if j = i ∧ hasT m j = true then some x else valT m i := by
  induction m with
  | nil => show none = _; rw [if_neg (fun z => by cases z.2)]; rfl
  | cons q m ih =>
    rw [List.map_cons, valT_cons, valT_cons, ih]
    have hh : hasT (q :: m) j = if q.1 = j then true else hasT m j := by
      unfold hasT; rw [valT_cons]
      by_cases e : q.1 = j
      · rw [if_pos e, if_pos e]; rfl
      · rw [if_neg e, if_neg e]
    rw [hh]
    by_cases e : q.1 = j
    · rw [if_pos e, if_pos e]
      by_cases f : q.1 = i
      · rw [if_pos f, if_pos ⟨e.symm.trans f, rfl⟩]
      · rw [if_neg f, if_neg (fun z => f (e.trans z.1)), if_neg (fun z => f (e.trans z.1)), if_neg f]
    · rw [if_neg e, if_neg e]
      by_cases f : q.1 = i
      · rw [if_pos f, if_neg (fun z => e (f.trans z.1.symm))]
        rw [if_pos f]
      · rw [if_neg f, if_neg f]
theorem valT_putT {m : List (κ × α)} {j i : κ} {x : α} : valT (putT m j x) i = if j = i then some x else valT m i := by
  unfold putT
  cases h : hasT m j with
  | true =>
    rw [if_pos rfl, valT_map]
    by_cases e : j = i
    · rw [if_pos ⟨e, h⟩, if_pos e]
    · rw [if_neg (fun z => e z.1), if_neg e]
  | false => rw [if_neg (by simp), valT_app h]
theorem hasT_putT {m : List (κ × α)} {j i : κ} {x : α} : hasT (putT m j x) i = (decide (j = i) || hasT m i) := by
  unfold hasT; rw [valT_putT]
  by_cases e : j = i
  · rw [if_pos e, decide_eq_true e]; rfl
  · rw [if_neg e, decide_eq_false e]; rfl
theorem putT_len {m : List (κ × α)} {j : κ} {x : α} : (putT m j x).length ≤ m.length + 1 := by
  unfold putT
  by_cases h : hasT m j = true
  · rw [if_pos h, List.length_map]; omega
  · rw [if_neg h, List.length_append]; exact Nat.le_refl _
end
theorem NDiv_pow {k : Nat} (h : k < 9000) : NDiv (2 ^ k) := ⟨Nat.two_pow_pos k, by rw [Nat.log2_two_pow]; exact h⟩
end Wk
namespace My
open PySem L2 Wk
def topS (i : Nat) : Stmt := PySem.Challenge.pw_sumwires_k02_bits_of_masks.main.body.getD i (.Pass ⟨0, 0, 0, 0⟩)
abbrev s_even : Stmt := topS 1
/-! even -/
def W_even (number1 : Nat) (R : Bool → Prop) : Prop := whileW (fun (many1, number2) T => T (decide (0 < number2))) (fun (many1, number2) nx1 bk1 => ∀ many2 : Nat, many2 = many1 ^^^ (number2 &&& 1) → ∀ number3 : Nat, number3 = number2 >>> 1 → nx1 (many2, number3)) (0, number1) fun (many1, number2) => R (decide (many1 = 0))
def sp_even (K : PySem.W.Frag) : Sp := fun vs H Q _ => ∃ (F : Hp) (number1 : Nat) (R : Bool → Prop), vs = [(.int ((number1 : Nat) : Int))] ∧ Ex F H ∧ W_even number1 R ∧ ∀ z, R z → ∀ F' H', Wf F H F' H' → Q (.bl (z)) H'
abbrev N_even : List Str := ["number", "many"]
theorem sc_even : FnScope N_even ["number"] (defScope s_even) := ⟨rfl, rfl, rfl, by decide +kernel, rfl, by decide +kernel, by decide +kernel⟩
theorem ok_even {P : Program} {w0 : World} {K : PySem.W.Frag} {mg : Str → Option Value} {base : Heap} {f : Addr} {fd : FuncData} (FU : Fun K "even" "even" s_even f fd) (hm : mg "even" = some (.ref f)) (hb : Binds K fd ["number"] []) : Fn P w0 K mg base CX0 1 "even" ["number"] (sp_even K) := by
  refine ⟨f, fd, FU.ok sc_even (fun vs H Q E h => ?_) (fun cdv A outer s H0 vs Q E hr h => ?_), hm, FU.kp, hb⟩
  · obtain ⟨_, _, _, rfl, _⟩ := h; rfl
  · obtain ⟨F0, number1, R, rfl, wf, hW, hQ⟩ := h
    have nd := sc_even.nd
    refine ⟨(tSeq (tAsg (tC (.int 0)) (gName 1)) (tSeq (tWhile (tTest (tOp kGt (tVar 0) (tC (.int 0)))) (tSeq (tAug 1 (tOp kAnd (tVar 0) (tC (.int 1))) kXor) (tAug 0 (tC (.int 1)) kShr))) (tRet (tOp L2.rEq (tVar 1) (tC (.int 0)))))), (pss_cons (ps_set (i := 1) nd rfl (Or.inl rfl) pe_int) (pss_cons (ps_while PassesOwn.never (pt_cmpR op_gt (pv 0) pe_int (nomark _)) (pss_cons (ps_aug (i := 1) nd rfl (Or.inl rfl) (pe_op op_and (pv 0) pe_int) iop_xor) (pss_one (ps_aug (i := 0) nd rfl (Or.inl rfl) pe_int iop_shr)))) (pss_one (ps_ret (pe_cmpR op_eq (pv 1) pe_int (nomark _)))))), ?_⟩
    have w := Wf.id wf
    refine q_sq fun N1 hN1 => ?_
    refine a_asg (v := (.int ((0 : Nat) : Int))) val_c ?_
    refine hN1 _ _ ?_
    refine q_sq fun N2 hN2 => ?_
    refine w_while (S := Nat × Nat) (fun s σ' F' H' => match s with | (many1, number2) => Wf F0 H0 F' H' ∧ Ex F0 F' ∧ σ' = [some (.int ((number2 : Nat) : Int)), some (.int ((many1 : Nat) : Int))]) hW ⟨w, Ex.rfl', rfl⟩ ?_ ?_ ?_
    · intro s1 σ' F1 H1 T1 Qc1 hI1 hW hT1
      obtain ⟨many1, number2⟩ := s1
      obtain ⟨w, gx1, rfl⟩ := hI1
      refine e_ans (b := decide (0 < number2)) (t_of (vb_dec (c_gt (val_var rfl) val_c) n_lt)) ?_
      exact hT1 _ _ _ ⟨w, gx1, rfl⟩ hW
    · intro N3 Bk1 s2 σ' F2 H2 nx1 bk1 hI2 hW hN3 hB1
      obtain ⟨many1, number2⟩ := s2
      obtain ⟨w, gx2, rfl⟩ := hI2
      refine q_sq fun N4 hN4 => ?_
      obtain ⟨many2, emany1⟩ : ∃ many2 : Nat, many2 = many1 ^^^ (number2 &&& 1) := ⟨_, rfl⟩
      replace hW := hW many2 emany1
      refine a_augV (x := (.int ((many1 : Nat) : Int))) (y := (.int ((number2 &&& 1 : Nat) : Int))) (z := (.int ((many2 : Nat) : Int))) rfl (vn_and (val_var rfl) val_c) (v_eq (vn_xor val_c val_c) (by rw [emany1])) ?_
      refine hN4 _ _ ?_
      obtain ⟨number3, enumber1⟩ : ∃ number3 : Nat, number3 = number2 >>> 1 := ⟨_, rfl⟩
      replace hW := hW number3 enumber1
      refine a_augV (x := (.int ((number2 : Nat) : Int))) (y := (.int ((1 : Nat) : Int))) (z := (.int ((number3 : Nat) : Int))) rfl val_c (v_eq (vn_shr val_c val_c) (by rw [enumber1])) ?_
      exact hN3 (many2, number3) _ _ _ ⟨w, gx2, rfl⟩ hW
    · intro s3 σ' F3 H3 hI3 hW
      obtain ⟨many1, number2⟩ := s3
      obtain ⟨w, gx3, rfl⟩ := hI3
      refine hN2 _ _ ?_
      refine a_ret (v := (.bl (decide (many1 = 0)))) (vb_dec (c_eqI (val_var rfl) val_c) n_eq) ?_
      exact hQ _ hW _ _ w
abbrev s_bits_of : Stmt := topS 2
/-! bits_of -/
def W_bits_of (mask1 : Nat) (R : (List Nat) → Prop) : Prop := whileW (fun (found1, mask2, place1) T => T (decide (0 < mask2))) (fun (found1, mask2, place1) nx1 bk1 => jn (fun kk => if (mask2 &&& 1) = 1 then ((found1.length < 1000000) ∧ kk (found1 ++ [place1])) else (kk found1)) fun found2 => ∀ mask3 : Nat, mask3 = mask2 >>> 1 → ∀ place2 : Nat, place2 = place1 + 1 → nx1 (found2, mask3, place2)) (([] : List Nat), mask1, 0) fun (found1, mask2, place1) => R found1
def sp_bits_of (K : PySem.W.Frag) : Sp := fun vs H Q _ => ∃ (F : Hp) (mask1 : Nat) (R : (List Nat) → Prop), vs = [(.int ((mask1 : Nat) : Int))] ∧ Ex F H ∧ W_bits_of mask1 R ∧ ∀ z, R z → ∀ p F' H', Wf F H F' H' → XL pN H F' H' p z → Q (.ref p) H'
abbrev N_bits_of : List Str := ["mask", "found", "place"]
theorem sc_bits_of : FnScope N_bits_of ["mask"] (defScope s_bits_of) := ⟨rfl, rfl, rfl, by decide +kernel, rfl, by decide +kernel, by decide +kernel⟩
theorem ok_bits_of {P : Program} {w0 : World} {K : PySem.W.Frag} {mg : Str → Option Value} {base : Heap} {f : Addr} {fd : FuncData} (FU : Fun K "bits_of" "bits_of" s_bits_of f fd) (hm : mg "bits_of" = some (.ref f)) (hb : Binds K fd ["mask"] []) : Fn P w0 K mg base CX0 1 "bits_of" ["mask"] (sp_bits_of K) := by
  refine ⟨f, fd, FU.ok sc_bits_of (fun vs H Q E h => ?_) (fun cdv A outer s H0 vs Q E hr h => ?_), hm, FU.kp, hb⟩
  · obtain ⟨_, _, _, rfl, _⟩ := h; rfl
  · obtain ⟨F0, mask1, R, rfl, wf, hW, hQ⟩ := h
    have nd := sc_bits_of.nd
    refine ⟨(tSeq (tAsg (tLst tNil) (gName 1)) (tSeq (tAsg (tC (.int 0)) (gName 2)) (tSeq (tWhile (tTest (tOp kGt (tVar 0) (tC (.int 0)))) (tSeq (tIfS (tTest (tOp L2.rEq (tOp kAnd (tVar 0) (tC (.int 1))) (tC (.int 1)))) (tDrop (tBM K "list" rAppend (tVar 1) (tCons (tVar 2) tNil))) tNext) (tSeq (tAug 0 (tC (.int 1)) kShr) (tAug 2 (tC (.int 1)) kAdd)))) (tRet (tVar 1))))), (pss_cons (ps_set (i := 1) nd rfl (Or.inl rfl) (pe_lst pa_nil)) (pss_cons (ps_set (i := 2) nd rfl (Or.inl rfl) pe_int) (pss_cons (ps_while PassesOwn.never (pt_cmpR op_gt (pv 0) pe_int (nomark _)) (pss_cons (ps_if (pt_cmpR op_eq (pe_op op_and (pv 0) pe_int) pe_int (nomark _)) (pss_one (ps_expr (pe_bm PySem.F.plainAttrs_list PySem.F.slot_list_append PySem.F.type_list_append mt_append (pv 1) (pa_cons (pv 2) pa_nil)))) pss_nil) (pss_cons (ps_aug (i := 0) nd rfl (Or.inl rfl) pe_int iop_shr) (pss_one (ps_aug (i := 2) nd rfl (Or.inl rfl) pe_int iop_add))))) (pss_one (ps_ret (pv 1)))))), ?_⟩
    have w := Wf.id wf
    refine q_sq fun N1 hN1 => ?_
    refine a_asgE ?_
    refine e_lst ?_
    refine a_nil ?_
    refine n_lstX (e := pN) (xs := []) (vs := []) (show All pN _ [] [] from trivial) (show 0 < 1000000 from by decide) w ?_
    intro p1 H1 hp1 s1 x1
    replace w := w.tr s1
    refine hN1 _ _ ?_
    refine q_sq fun N2 hN2 => ?_
    refine a_asg (v := (.int ((0 : Nat) : Int))) val_c ?_
    refine hN2 _ _ ?_
    refine q_sq fun N3 hN3 => ?_
    refine w_while (S := List Nat × Nat × Nat) (fun s σ' F' H' => match s with | (found1, mask2, place1) => Wf F0 H0 F' H' ∧ Ex F0 F' ∧ σ' = [some (.int ((mask2 : Nat) : Int)), some ((.ref p1)), some (.int ((place1 : Nat) : Int))] ∧ XL pN H0 F' H' p1 found1) hW ⟨w, Ex.rfl', rfl, x1⟩ ?_ ?_ ?_
    · intro s2 σ' F1 H2 T1 Qc1 hI1 hW hT1
      obtain ⟨found1, mask2, place1⟩ := s2
      obtain ⟨w, gx1, rfl, x2⟩ := hI1
      refine e_ans (b := decide (0 < mask2)) (t_of (vb_dec (c_gt (val_var rfl) val_c) n_lt)) ?_
      exact hT1 _ _ _ ⟨w, gx1, rfl, x2⟩ hW
    · intro N4 Bk1 s3 σ' F2 H3 nx1 bk1 hI2 hW hN4 hB1
      obtain ⟨found1, mask2, place1⟩ := s3
      obtain ⟨w, gx2, rfl, x2⟩ := hI2
      refine q_jn (S := List Nat) hW (fun found2 σ' F' H' => Wf F0 H0 F' H' ∧ Ex F2 F' ∧ σ' = [some (.int ((mask2 : Nat) : Int)), some ((.ref p1)), some (.int ((place1 : Nat) : Int))] ∧ XL pN H0 F' H' p1 found2) ?_ ?_
      · intro N5 hN5 hW
        have gx3 : Ex F2 F2 := Ex.rfl'
        refine a_ifE ?_
        refine e_ans (b := decide ((mask2 &&& 1) = 1)) (t_of (vb_dec (c_eqI (vn_and (val_var rfl) val_c) val_c) n_eq)) ?_
        refine b_if (fun hc1 => ?_) (fun hc1 => ?_)
        · have hW := ifP hW hc1
          refine a_dropE ?_
          refine m_list x2 (val_var rfl) ?_
          refine a_val (v := (.int ((place1 : Nat) : Int))) (val_var rfl) ?_
          refine a_nil ?_
          obtain ⟨c1, hW⟩ := hW
          refine a_app x2 w c1 rfl (fun H4 w1 x4 kp1 => ?_)
          replace w := w1
          exact hN5 (found1 ++ [place1]) _ _ _ ⟨w, gx3, rfl, x4⟩ hW
        · have hW := ifN hW hc1
          exact hN5 found1 _ _ _ ⟨w, gx3, rfl, x2⟩ hW
      · intro found2 σ' F3 H5 hI3 hW
        obtain ⟨w, gx4, rfl, x3⟩ := hI3
        have gx2 := Ex.tr gx2 gx4
        refine q_sq fun N6 hN6 => ?_
        obtain ⟨mask3, emask1⟩ : ∃ mask3 : Nat, mask3 = mask2 >>> 1 := ⟨_, rfl⟩
        replace hW := hW mask3 emask1
        refine a_augV (x := (.int ((mask2 : Nat) : Int))) (y := (.int ((1 : Nat) : Int))) (z := (.int ((mask3 : Nat) : Int))) rfl val_c (v_eq (vn_shr val_c val_c) (by rw [emask1])) ?_
        refine hN6 _ _ ?_
        obtain ⟨place2, eplace1⟩ : ∃ place2 : Nat, place2 = place1 + 1 := ⟨_, rfl⟩
        replace hW := hW place2 eplace1
        refine a_augV (x := (.int ((place1 : Nat) : Int))) (y := (.int ((1 : Nat) : Int))) (z := (.int ((place2 : Nat) : Int))) rfl val_c (v_eq (vn_add val_c val_c) (by rw [eplace1])) ?_
        exact hN4 (found2, mask3, place2) _ _ _ ⟨w, gx2, rfl, x3⟩ hW
    · intro s5 σ' F4 H6 hI4 hW
      obtain ⟨found1, mask2, place1⟩ := s5
      obtain ⟨w, gx5, rfl, x2⟩ := hI4
      refine hN3 _ _ ?_
      refine a_ret (v := (.ref p1)) (val_var rfl) ?_
      exact hQ _ hW _ _ _ w x2
abbrev s_mask_of : Stmt := topS 3
/-! mask_of -/
def W_mask_of (places1 : List Nat) (R : Nat → Prop) : Prop := forW places1 0 (fun place1 mask1 nx1 bk1 => (place1 < 100000000) ∧ ∀ mask2 : Nat, mask2 = mask1 ^^^ (2 ^ place1) → nx1 mask2) fun mask1 => R mask1
def sp_mask_of (K : PySem.W.Frag) : Sp := fun vs H Q _ => ∃ (F : Hp) (v1 : V) (places1 : List Nat) (R : Nat → Prop), vs = [v1] ∧ Ex F H ∧ (pL pN).r F v1 places1 ∧ W_mask_of places1 R ∧ ∀ z, R z → ∀ F' H', Wf F H F' H' → Q (.int ((z : Nat) : Int)) H'
abbrev N_mask_of : List Str := ["places", "mask", "place"]
theorem sc_mask_of : FnScope N_mask_of ["places"] (defScope s_mask_of) := ⟨rfl, rfl, rfl, by decide +kernel, rfl, by decide +kernel, by decide +kernel⟩
theorem ok_mask_of {P : Program} {w0 : World} {K : PySem.W.Frag} {mg : Str → Option Value} {base : Heap} {f : Addr} {fd : FuncData} (FU : Fun K "mask_of" "mask_of" s_mask_of f fd) (hm : mg "mask_of" = some (.ref f)) (hb : Binds K fd ["places"] []) : Fn P w0 K mg base CX0 1 "mask_of" ["places"] (sp_mask_of K) := by
  refine ⟨f, fd, FU.ok sc_mask_of (fun vs H Q E h => ?_) (fun cdv A outer s H0 vs Q E hr h => ?_), hm, FU.kp, hb⟩
  · obtain ⟨_, _, _, _, rfl, _⟩ := h; rfl
  · obtain ⟨F0, v1, places1, R, rfl, wf, r1, hW, hQ⟩ := h
    have nd := sc_mask_of.nd
    refine ⟨(tSeq (tAsg (tC (.int 0)) (gName 1)) (tSeq (tFor (iList K (tVar 0)) (gName 2) (tAug 1 (tOp kShl (tC (.int 1)) (tVar 2)) kXor)) (tRet (tVar 1)))), (pss_cons (ps_set (i := 1) nd rfl (Or.inl rfl) pe_int) (pss_cons (ps_for PassesOwn.never rfl (pi_list (pv 0)) (pg_name (i := 2) nd rfl (Or.inl rfl)) (pss_one (ps_aug (i := 1) nd rfl (Or.inl rfl) (pe_op op_shlW pe_int (pv 2)) iop_xor))) (pss_one (ps_ret (pv 1))))), ?_⟩
    have w := Wf.id wf
    refine q_sq fun N1 hN1 => ?_
    refine a_asg (v := (.int ((0 : Nat) : Int))) val_c ?_
    refine hN1 _ _ ?_
    refine q_sq fun N2 hN2 => ?_
    refine f_LE ?_
    refine e_val (v := v1) (val_var rfl) ?_
    refine w_forL (S := Nat) (fun mask1 σ' F' H' => ∃ (o1 : Option V), Wf F0 H0 F' H' ∧ Ex F0 F' ∧ σ' = [some v1, some (.int ((mask1 : Nat) : Int)), o1]) r1 hW ⟨_, w, Ex.rfl', rfl⟩ (fun s σ' F' H' hI => by obtain ⟨_, w', gx', _⟩ := hI; exact ⟨gx', w'.f⟩) w.f ?_ ?_
    · intro N3 Bk1 place1 u1 mask1 σ' F1 H1 nx1 bk1 hI1 hx1 ru1 hW hN3 hB1
      obtain ⟨o1, w, gx1, rfl⟩ := hI1
      have r1 := Rep.mono _ gx1 r1
      obtain rfl : u1 = (.int ((place1 : Nat) : Int)) := ru1
      refine g_name ?_
      obtain ⟨c1, hW⟩ := hW
      obtain ⟨mask2, emask1⟩ : ∃ mask2 : Nat, mask2 = mask1 ^^^ (2 ^ place1) := ⟨_, rfl⟩
      replace hW := hW mask2 emask1
      refine a_augV (x := (.int ((mask1 : Nat) : Int))) (y := (.int ((2 ^ place1 : Nat) : Int))) (z := (.int ((mask2 : Nat) : Int))) rfl (vn_one val_c (val_var rfl) c1) (v_eq (vn_xor val_c val_c) (by rw [emask1])) ?_
      exact hN3 mask2 _ _ _ ⟨_, w, gx1, rfl⟩ hW
    · intro mask1 σ' F2 H2 hI2 hW
      obtain ⟨o1, w, gx2, rfl⟩ := hI2
      have r1 := Rep.mono _ gx2 r1
      refine hN2 _ _ ?_
      refine a_ret (v := (.int ((mask1 : Nat) : Int))) (val_var rfl) ?_
      exact hQ _ hW _ _ w
abbrev s_cell : Stmt := topS 5
/-! _law_cell -/
def W_cell (script1 : List Int) (k1 : Nat) (R : Int → Prop) : Prop := if k1 < script1.length then (∃ x1, script1[k1]? = some x1 ∧ R x1) else (R (((41 * k1) + 3 : Nat) : Int))
def sp_cell (K : PySem.W.Frag) : Sp := fun vs H Q _ => ∃ (F : Hp) (v1 : V) (script1 : List Int) (k1 : Nat) (R : Int → Prop), vs = [v1, (.int ((k1 : Nat) : Int))] ∧ Ex F H ∧ (pScr K).r F v1 script1 ∧ W_cell script1 k1 R ∧ ∀ z, R z → ∀ F' H', Wf F H F' H' → Q (.int (z)) H'
abbrev N_cell : List Str := ["_law_script", "_law_k"]
theorem sc_cell : FnScope N_cell ["_law_script", "_law_k"] (defScope s_cell) := ⟨rfl, rfl, rfl, by decide +kernel, rfl, by decide +kernel, by decide +kernel⟩
theorem ok_cell {P : Program} {w0 : World} {K : PySem.W.Frag} {mg : Str → Option Value} {base : Heap} {f : Addr} {fd : FuncData} (FU : Fun K "_law_cell" "_law_cell" s_cell f fd) (hm : mg "_law_cell" = some (.ref f)) (hb : Binds K fd ["_law_script", "_law_k"] []) (n_len : mg "len" = none) : Fn P w0 K mg base CX0 1 "_law_cell" ["_law_script", "_law_k"] (sp_cell K) := by
  refine ⟨f, fd, FU.ok sc_cell (fun vs H Q E h => ?_) (fun cdv A outer s H0 vs Q E hr h => ?_), hm, FU.kp, hb⟩
  · obtain ⟨_, _, _, _, _, rfl, _⟩ := h; rfl
  · obtain ⟨F0, v1, script1, k1, R, rfl, wf, r1, hW, hQ⟩ := h
    have nd := sc_cell.nd
    refine ⟨(tSeq (tIfS (tTest (tOp kLt (tVar 1) (tCB (rLen K) (tCons (tVar 0) tNil)))) (tRet (tOp (L2.rIxL K) (tVar 0) (tVar 1))) tNext) (tRet (tOp kAdd (tOp kMul (tC (.int 41)) (tVar 1)) (tC (.int 3))))), (pss_cons (ps_if (pt_cmpR op_lt (pv 1) (pe_callB call_len_seq (by rfl) n_len PySem.boot_len (pa_cons (pv 0) pa_nil)) (nomark _)) (pss_one (ps_ret (pe_ix ix_list (pv 0) (pv 1) (fun _ _ => rfl)))) pss_nil) (pss_one (ps_ret (pe_op op_add (pe_op op_mul pe_int (pv 1)) pe_int)))), ?_⟩
    have w := Wf.id wf
    refine q_sq fun N1 hN1 => ?_
    refine a_ifE ?_
    refine e_ans (b := decide (k1 < script1.length)) (t_of (vb_dec (c_lt (val_var rfl) (len_S r1 w.f (val_var rfl))) n_lt)) ?_
    refine b_if (fun hc1 => ?_) (fun hc1 => ?_)
    · have hW := ifP hW hc1
      obtain ⟨x1, hx1_1, hW⟩ := hW
      have ix1 := ix_S (K := K) w.f r1 hx1_1
      refine a_ret (v := (.int (x1))) (ix1 (val_var rfl) (val_var rfl)) ?_
      exact hQ _ hW _ _ w
    · have hW := ifN hW hc1
      refine hN1 _ _ ?_
      refine a_ret (v := (.int ((((41 * k1) + 3 : Nat) : Int)))) (vn_add (vn_mul val_c (val_var rfl) (.inl (by decide))) val_c) ?_
      exact hQ _ hW _ _ w
abbrev s_mix : Stmt := topS 6
/-! _law_mix -/
def W_mix (cell_here1 : Int) (k1 : Nat) (R : Nat → Prop) : Prop := ∀ number1 : Nat, number1 = ((((modN cell_here1 2147483647) * 48271) + (7919 * k1)) + 11) % 2147483647 → (NMul number1 number1) ∧ ∀ number2 : Nat, number2 = (number1 * number1) % 2147483629 → (NMul number2 ((number2 + (48271 * k1)) + 7)) ∧ R ((number2 * ((number2 + (48271 * k1)) + 7)) % 2147483587)
def sp_mix (K : PySem.W.Frag) : Sp := fun vs H Q _ => ∃ (F : Hp) (cell_here1 : Int) (k1 : Nat) (R : Nat → Prop), vs = [(.int (cell_here1)), (.int ((k1 : Nat) : Int))] ∧ Ex F H ∧ W_mix cell_here1 k1 R ∧ ∀ z, R z → ∀ F' H', Wf F H F' H' → Q (.int ((z : Nat) : Int)) H'
abbrev N_mix : List Str := ["_law_cell_here", "_law_k", "_law_number"]
theorem sc_mix : FnScope N_mix ["_law_cell_here", "_law_k"] (defScope s_mix) := ⟨rfl, rfl, rfl, by decide +kernel, rfl, by decide +kernel, by decide +kernel⟩
theorem ok_mix {P : Program} {w0 : World} {K : PySem.W.Frag} {mg : Str → Option Value} {base : Heap} {f : Addr} {fd : FuncData} (FU : Fun K "_law_mix" "_law_mix" s_mix f fd) (hm : mg "_law_mix" = some (.ref f)) (hb : Binds K fd ["_law_cell_here", "_law_k"] []) : Fn P w0 K mg base CX0 1 "_law_mix" ["_law_cell_here", "_law_k"] (sp_mix K) := by
  refine ⟨f, fd, FU.ok sc_mix (fun vs H Q E h => ?_) (fun cdv A outer s H0 vs Q E hr h => ?_), hm, FU.kp, hb⟩
  · obtain ⟨_, _, _, _, rfl, _⟩ := h; rfl
  · obtain ⟨F0, cell_here1, k1, R, rfl, wf, hW, hQ⟩ := h
    have nd := sc_mix.nd
    refine ⟨(tSeq (tAsg (tOp kMod (tOp kAdd (tOp kAdd (tOp kMul (tOp kMod (tVar 0) (tC (.int 2147483647))) (tC (.int 48271))) (tOp kMul (tC (.int 7919)) (tVar 1))) (tC (.int 11))) (tC (.int 2147483647))) (gName 2)) (tSeq (tAsg (tOp kMod (tOp kMul (tVar 2) (tVar 2)) (tC (.int 2147483629))) (gName 2)) (tRet (tOp kMod (tOp kMul (tVar 2) (tOp kAdd (tOp kAdd (tVar 2) (tOp kMul (tC (.int 48271)) (tVar 1))) (tC (.int 7)))) (tC (.int 2147483587)))))), (pss_cons (ps_set (i := 2) nd rfl (Or.inl rfl) (pe_op op_mod (pe_op op_add (pe_op op_add (pe_op op_mul (pe_op op_mod (pv 0) pe_int) pe_int) (pe_op op_mul pe_int (pv 1))) pe_int) pe_int)) (pss_cons (ps_set (i := 2) nd rfl (Or.inl rfl) (pe_op op_mod (pe_op op_mul (pv 2) (pv 2)) pe_int)) (pss_one (ps_ret (pe_op op_mod (pe_op op_mul (pv 2) (pe_op op_add (pe_op op_add (pv 2) (pe_op op_mul pe_int (pv 1))) pe_int)) pe_int))))), ?_⟩
    have w := Wf.id wf
    refine q_sq fun N1 hN1 => ?_
    obtain ⟨number1, enumber1⟩ : ∃ number1 : Nat, number1 = ((((modN cell_here1 2147483647) * 48271) + (7919 * k1)) + 11) % 2147483647 := ⟨_, rfl⟩
    replace hW := hW number1 enumber1
    refine a_asg (v := (.int ((number1 : Nat) : Int))) (v_eq (vn_mod (vn_add (vn_add (vn_mul (vm_mod (val_var rfl) val_c (by decide)) val_c (.inr (by decide))) (vn_mul val_c (val_var rfl) (.inl (by decide)))) val_c) val_c (by decide)) (by rw [enumber1])) ?_
    refine hN1 _ _ ?_
    refine q_sq fun N2 hN2 => ?_
    obtain ⟨c1, hW⟩ := hW
    obtain ⟨number2, enumber2⟩ : ∃ number2 : Nat, number2 = (number1 * number1) % 2147483629 := ⟨_, rfl⟩
    replace hW := hW number2 enumber2
    refine a_asg (v := (.int ((number2 : Nat) : Int))) (v_eq (vn_mod (vn_mul (val_var rfl) (val_var rfl) c1) val_c (by decide)) (by rw [enumber2])) ?_
    refine hN2 _ _ ?_
    obtain ⟨c2, hW⟩ := hW
    refine a_ret (v := (.int (((number2 * ((number2 + (48271 * k1)) + 7)) % 2147483587 : Nat) : Int))) (vn_mod (vn_mul (val_var rfl) (vn_add (vn_add (val_var rfl) (vn_mul val_c (val_var rfl) (.inl (by decide)))) val_c) c2) val_c (by decide)) ?_
    exact hQ _ hW _ _ w
abbrev s_mask : Stmt := topS 7
/-! _law_mask -/
def W_mask (cell_here1 : Int) (other1 : Int) (R : Nat → Prop) : Prop := if (modN other1 2) = 0 then (R (modN cell_here1 (2 ^ 300))) else ((modN cell_here1 7 < 1000000) ∧ forW (List.range (modN cell_here1 7)) 0 (fun k1 mask_here1 nx1 bk1 => W_mix cell_here1 k1 fun z1 => (z1 % 300 < 100000000) ∧ ∀ mask_here2 : Nat, mask_here2 = mask_here1 ||| (2 ^ (z1 % 300)) → nx1 mask_here2) fun mask_here1 => R mask_here1)
def sp_mask (K : PySem.W.Frag) : Sp := fun vs H Q _ => ∃ (F : Hp) (cell_here1 : Int) (other1 : Int) (R : Nat → Prop), vs = [(.int (cell_here1)), (.int (other1))] ∧ Ex F H ∧ W_mask cell_here1 other1 R ∧ ∀ z, R z → ∀ F' H', Wf F H F' H' → Q (.int ((z : Nat) : Int)) H'
abbrev N_mask : List Str := ["_law_cell_here", "_law_other", "_law_mask_here", "_law_k"]
theorem sc_mask : FnScope N_mask ["_law_cell_here", "_law_other"] (defScope s_mask) := ⟨rfl, rfl, rfl, by decide +kernel, rfl, by decide +kernel, by decide +kernel⟩
theorem ok_mask {P : Program} {w0 : World} {K : PySem.W.Frag} {mg : Str → Option Value} {base : Heap} {f : Addr} {fd : FuncData} (FU : Fun K "_law_mask" "_law_mask" s_mask f fd) (hm : mg "_law_mask" = some (.ref f)) (hb : Binds K fd ["_law_cell_here", "_law_other"] []) (c_mix : Fn P w0 K mg base CX0 1 "_law_mix" ["_law_cell_here", "_law_k"] (sp_mix K)) (n_range : mg "range" = none) : Fn P w0 K mg base CX0 2 "_law_mask" ["_law_cell_here", "_law_other"] (sp_mask K) := by
  refine ⟨f, fd, FU.ok sc_mask (fun vs H Q E h => ?_) (fun cdv A outer s H0 vs Q E hr h => ?_), hm, FU.kp, hb⟩
  · obtain ⟨_, _, _, _, rfl, _⟩ := h; rfl
  · obtain ⟨F0, cell_here1, other1, R, rfl, wf, hW, hQ⟩ := h
    have nd := sc_mask.nd
    refine ⟨(tSeq (tIfS (tTest (tOp L2.rEq (tOp kMod (tVar 1) (tC (.int 2))) (tC (.int 0)))) (tRet (tOp kMod (tVar 0) (tOp kShl (tC (.int 1)) (tC (.int 300))))) tNext) (tSeq (tAsg (tC (.int 0)) (gName 2)) (tSeq (tFor (iRng1 (tCons (tOp kMod (tVar 0) (tC (.int 7))) tNil)) (gName 3) (tAsg (tOp kOr (tVar 2) (tOp kShl (tC (.int 1)) (tOp kMod (tCall (sp_mix K) [] E0 (tCons (tVar 0) (tCons (tVar 3) tNil))) (tC (.int 300))))) (gName 2))) (tRet (tVar 2))))), (pss_cons (ps_if (pt_cmpR op_eq (pe_op op_mod (pv 1) pe_int) pe_int (nomark _)) (pss_one (ps_ret (pe_op op_mod (pv 0) (pe_op op_shlW pe_int pe_int)))) pss_nil) (pss_cons (ps_set (i := 2) nd rfl (Or.inl rfl) pe_int) (pss_cons (ps_for PassesOwn.never rfl (pi_range1 rfl n_range (pa_cons (pe_op op_mod (pv 0) pe_int) pa_nil)) (pg_name (i := 3) nd rfl (Or.inl rfl)) (pss_one (ps_set (i := 2) nd rfl (Or.inl rfl) (pe_op op_or (pv 2) (pe_op op_shlW pe_int (pe_op op_mod (pe_fn c_mix (hr.mono (by decide)) rfl (pa_cons (pv 0) (pa_cons (pv 3) pa_nil))) pe_int)))))) (pss_one (ps_ret (pv 2)))))), ?_⟩
    have w := Wf.id wf
    refine q_sq fun N1 hN1 => ?_
    refine a_ifE ?_
    refine e_ans (b := decide ((modN other1 2) = 0)) (t_of (vb_dec (c_eqI (vm_mod (val_var rfl) val_c (by decide)) val_c) n_eq)) ?_
    refine b_if (fun hc1 => ?_) (fun hc1 => ?_)
    · have hW := ifP hW hc1
      refine a_ret (v := (.int ((modN cell_here1 (2 ^ 300) : Nat) : Int))) (vm_mod (val_var rfl) (vn_one val_c val_c (by decide)) (Nat.two_pow_pos _)) ?_
      exact hQ _ hW _ _ w
    · have hW := ifN hW hc1
      refine hN1 _ _ ?_
      refine q_sq fun N2 hN2 => ?_
      refine a_asg (v := (.int ((0 : Nat) : Int))) val_c ?_
      refine hN2 _ _ ?_
      refine q_sq fun N3 hN3 => ?_
      refine f_RE ?_
      refine e_val (v := (.int ((modN cell_here1 7 : Nat) : Int))) (vm_mod (val_var rfl) val_c (by decide)) ?_
      obtain ⟨c1, hW⟩ := hW
      refine w_forR (S := Nat) (fun mask_here1 σ' F' H' => ∃ (o1 : Option V), Wf F0 H0 F' H' ∧ Ex F0 F' ∧ σ' = [some (.int (cell_here1)), some (.int (other1)), some (.int ((mask_here1 : Nat) : Int)), o1]) c1 hW ⟨_, w, Ex.rfl', rfl⟩ ?_ ?_
      · intro N4 Bk1 k1 mask_here1 σ' F1 H1 nx1 bk1 hI1 hx1 hW hN4 hB1
        obtain ⟨o1, w, gx1, rfl⟩ := hI1
        refine g_name ?_
        refine a_asgE ?_
        refine e_op ?_
        refine e_val (v := (.int ((mask_here1 : Nat) : Int))) (val_var rfl) ?_
        refine e_op ?_
        refine e_val (v := (.int ((1 : Nat) : Int))) val_c ?_
        refine e_op ?_
        refine e_call ?_
        refine a_val (v := (.int (cell_here1))) (val_var rfl) ?_
        refine a_val (v := (.int ((k1 : Nat) : Int))) (val_var rfl) ?_
        refine a_nil ?_
        refine ⟨F1, (cell_here1), (k1), _, rfl, w.f, hW, ?_⟩
        intro z1 hW F2 H2 s2
        replace w := w.tr s2
        replace gx1 := Ex.tr gx1 s2.g
        refine e_val (v := (.int ((300 : Nat) : Int))) val_c ?_
        refine rv2 (z := (.int ((z1 % 300 : Nat) : Int))) (vn_mod val_c val_c (by decide)) ?_
        obtain ⟨c2, hW⟩ := hW
        refine rv2 (z := (.int ((2 ^ (z1 % 300) : Nat) : Int))) (vn_one val_c val_c c2) ?_
        refine rv2 (z := (.int ((mask_here1 ||| (2 ^ (z1 % 300)) : Nat) : Int))) (vn_or val_c val_c) ?_
        obtain ⟨mask_here2, emask_here1⟩ : ∃ mask_here2 : Nat, mask_here2 = mask_here1 ||| (2 ^ (z1 % 300)) := ⟨_, rfl⟩
        replace hW := hW mask_here2 emask_here1
        refine nx_set (v := (.int ((mask_here2 : Nat) : Int))) (by rw [emask_here1]) ?_
        exact hN4 mask_here2 _ _ _ ⟨_, w, gx1, rfl⟩ hW
      · intro mask_here1 σ' F3 H3 hI2 hW
        obtain ⟨o1, w, gx2, rfl⟩ := hI2
        refine hN3 _ _ ?_
        refine a_ret (v := (.int ((mask_here1 : Nat) : Int))) (val_var rfl) ?_
        exact hQ _ hW _ _ w
abbrev s_places : Stmt := topS 8
/-! _law_places -/
def W_places (mask_here1 : Nat) (R : (List Nat) → Prop) : Prop := (300 < 1000000) ∧ compW (List.range 300) (fun k1 kk => (k1 < 100000000) ∧ (NDiv (2 ^ k1)) ∧ if ((mask_here1 / (2 ^ k1)) % 2) = 1 then (kk (some k1)) else (kk none)) fun ys1 => R ys1
def sp_places (K : PySem.W.Frag) : Sp := fun vs H Q _ => ∃ (F : Hp) (mask_here1 : Nat) (R : (List Nat) → Prop), vs = [(.int ((mask_here1 : Nat) : Int))] ∧ Ex F H ∧ W_places mask_here1 R ∧ ∀ z, R z → ∀ p F' H', Wf F H F' H' → XL pN H F' H' p z → Q (.ref p) H'
abbrev N_places : List Str := ["_law_mask_here", "_law_k"]
theorem sc_places : FnScope N_places ["_law_mask_here"] (defScope s_places) := ⟨rfl, rfl, rfl, by decide +kernel, rfl, by decide +kernel, by decide +kernel⟩
theorem ok_places {P : Program} {w0 : World} {K : PySem.W.Frag} {mg : Str → Option Value} {base : Heap} {f : Addr} {fd : FuncData} (FU : Fun K "_law_places" "_law_places" s_places f fd) (hm : mg "_law_places" = some (.ref f)) (hb : Binds K fd ["_law_mask_here"] []) (n_range : mg "range" = none) : Fn P w0 K mg base CX0 1 "_law_places" ["_law_mask_here"] (sp_places K) := by
  refine ⟨f, fd, FU.ok sc_places (fun vs H Q E h => ?_) (fun cdv A outer s H0 vs Q E hr h => ?_), hm, FU.kp, hb⟩
  · obtain ⟨_, _, _, rfl, _⟩ := h; rfl
  · obtain ⟨F0, mask_here1, R, rfl, wf, hW, hQ⟩ := h
    have nd := sc_places.nd
    refine ⟨(tRet (tLc (iRng1 (tCons (tC (.int 300)) tNil)) (gName 1) (tTest (tOp L2.rEq (tOp kMod (tOp kDiv (tVar 0) (tOp kShl (tC (.int 1)) (tVar 1))) (tC (.int 2))) (tC (.int 1)))) (tVar 1) [1])), (pss_one (ps_ret (pe_lc (own := [("_law_k", 1)]) (wi := (iRng1 (tCons (tC (.int 300)) tNil))) (g := (gName 1)) (tt := (tTest (tOp L2.rEq (tOp kMod (tOp kDiv (tVar 0) (tOp kShl (tC (.int 1)) (tVar 1))) (tC (.int 2))) (tC (.int 1))))) (te := (tVar 1)) rfl nd (pi_range1 rfl n_range (pa_cons pe_int pa_nil)) (blkOk_by (N := N_places) (sc := defScope s_places) (by decide +kernel)) (fun _ _ _ _ _ => (pg_name (i := 1) nd rfl (Or.inl rfl))) (fun _ _ _ _ _ => (pts_one (pt_cmpR op_eq (pe_op op_mod (pe_op op_fdivW (pv 0) (pe_op op_shlW pe_int (pv 1))) pe_int) pe_int (nomark _)))) (fun _ _ _ _ _ => (pv 1))))), ?_⟩
    have w := Wf.id wf
    refine a_retE ?_
    refine c_RE ?_
    refine e_val (v := (.int ((300 : Nat) : Int))) val_c ?_
    obtain ⟨c1, hW⟩ := hW
    refine w_compR (e := pN) w c1 hW ?_ ?_
    · intro Qy Qn k1 F1 H1 R1 q1 hx1 hW hy1 hn1
      have w := Wf.id q1.f
      refine ⟨rfl, ?_⟩
      obtain ⟨c2, hW⟩ := hW
      obtain ⟨c3, hW⟩ := hW
      refine e_ans (b := decide (((mask_here1 / (2 ^ k1)) % 2) = 1)) (t_of (vb_dec (c_eqI (vn_mod (vn_div (val_var rfl) (vn_one val_c (val_var rfl) c2) c3) val_c (by decide)) val_c) n_eq)) ?_
      refine b_if (fun hc1 => ?_) (fun hc1 => ?_)
      · have hW := ifP hW hc1
        refine e_val (v := (.int ((k1 : Nat) : Int))) (val_var rfl) ?_
        exact hy1 _ _ _ _ w rfl hW
      · have hW := ifN hW hc1
        exact hn1 _ _ w hW
    intro p1 ys1 F2 H2 hp1 s1 x1 hW
    replace w := w.tr s1
    exact hQ _ hW _ _ _ w x1
abbrev s_whole : Stmt := topS 9
/-! _law_whole -/
def W_whole (found1 : Nat) (R : Bool → Prop) : Prop := R (decide ((True) ∧ (¬ (False))))
def sp_whole (K : PySem.W.Frag) : Sp := fun vs H Q _ => ∃ (F : Hp) (found1 : Nat) (R : Bool → Prop), vs = [(.int ((found1 : Nat) : Int))] ∧ Ex F H ∧ W_whole found1 R ∧ ∀ z, R z → ∀ F' H', Wf F H F' H' → Q (.bl (z)) H'
abbrev N_whole : List Str := ["_law_found"]
theorem sc_whole : FnScope N_whole ["_law_found"] (defScope s_whole) := ⟨rfl, rfl, rfl, by decide +kernel, rfl, by decide +kernel, by decide +kernel⟩
theorem ok_whole {P : Program} {w0 : World} {K : PySem.W.Frag} {mg : Str → Option Value} {base : Heap} {f : Addr} {fd : FuncData} (FU : Fun K "_law_whole" "_law_whole" s_whole f fd) (hm : mg "_law_whole" = some (.ref f)) (hb : Binds K fd ["_law_found"] []) (n_bool : mg "bool" = none) (n_int : mg "int" = none) (n_isinstance : mg "isinstance" = none) : Fn P w0 K mg base CX0 1 "_law_whole" ["_law_found"] (sp_whole K) := by
  refine ⟨f, fd, FU.ok sc_whole (fun vs H Q E h => ?_) (fun cdv A outer s H0 vs Q E hr h => ?_), hm, FU.kp, hb⟩
  · obtain ⟨_, _, _, rfl, _⟩ := h; rfl
  · obtain ⟨F0, found1, R, rfl, wf, hW, hQ⟩ := h
    have nd := sc_whole.nd
    refine ⟨(tRet (tAndV (tCB (rIsi K) (tCons (tVar 0) (tCons (tC (.ty "int")) tNil))) (tNotV (tCB (rIsi K) (tCons (tVar 0) (tCons (tC (.ty "bool")) tNil)))))), (pss_one (ps_ret (pe_and (pe_callB call_isi (by rfl) n_isinstance PyProof.Rows.boot_isinstance (pa_cons (pv 0) (pa_cons (pe_bltn (v := .ty "int") (by rfl) n_int PyProof.Rows.boot_int rfl) pa_nil))) (pe_one (pe_not (pe_callB call_isi (by rfl) n_isinstance PyProof.Rows.boot_isinstance (pa_cons (pv 0) (pa_cons (pe_bltn (v := .ty "bool") (by rfl) n_bool PyProof.Rows.boot_bool rfl) pa_nil)))))))), ?_⟩
    have w := Wf.id wf
    refine a_ret (v := (.bl (decide ((True) ∧ (¬ (False)))))) (vt_and (vb_of (v_isi (b := true) (val_var rfl) (.base (.int _)) (by decide +kernel)) dec_T) (fun _ => (vt_not (vb_of (v_isi (b := false) (val_var rfl) (.base (.int _)) (by decide +kernel)) dec_F)))) ?_
    exact hQ _ hW _ _ w
abbrev s_odd_ones : Stmt := topS 10
/-! _law_odd_ones -/
def W_odd_ones (places_here1 : List Nat) (R : (List Nat) → Prop) : Prop := forW places_here1 ([] : List (Nat × Int)) (fun place1 found1 nx1 bk1 => (found1.length < 1000000) ∧ nx1 (putT found1 place1 (((1 : Nat) : Int) - ((valT found1 place1).getD ((0 : Nat) : Int))))) fun found1 => (300 < 1000000) ∧ compW (List.range 300) (fun k1 kk => if ((valT found1 k1).getD ((0 : Nat) : Int)) = ((1 : Nat) : Int) then (kk (some k1)) else (kk none)) fun ys1 => R ys1
def sp_odd_ones (K : PySem.W.Frag) : Sp := fun vs H Q _ => ∃ (F : Hp) (v1 : V) (places_here1 : List Nat) (R : (List Nat) → Prop), vs = [v1] ∧ Ex F H ∧ (pL pN).r F v1 places_here1 ∧ W_odd_ones places_here1 R ∧ ∀ z, R z → ∀ p F' H', Wf F H F' H' → XL pN H F' H' p z → Q (.ref p) H'
abbrev N_odd_ones : List Str := ["_law_places_here", "_law_found", "_law_place", "_law_k"]
theorem sc_odd_ones : FnScope N_odd_ones ["_law_places_here"] (defScope s_odd_ones) := ⟨rfl, rfl, rfl, by decide +kernel, rfl, by decide +kernel, by decide +kernel⟩
theorem ok_odd_ones {P : Program} {w0 : World} {K : PySem.W.Frag} {mg : Str → Option Value} {base : Heap} {f : Addr} {fd : FuncData} (FU : Fun K "_law_odd_ones" "_law_odd_ones" s_odd_ones f fd) (hm : mg "_law_odd_ones" = some (.ref f)) (hb : Binds K fd ["_law_places_here"] []) (n_range : mg "range" = none) : Fn P w0 K mg base CX0 1 "_law_odd_ones" ["_law_places_here"] (sp_odd_ones K) := by
  refine ⟨f, fd, FU.ok sc_odd_ones (fun vs H Q E h => ?_) (fun cdv A outer s H0 vs Q E hr h => ?_), hm, FU.kp, hb⟩
  · obtain ⟨_, _, _, _, rfl, _⟩ := h; rfl
  · obtain ⟨F0, v1, places_here1, R, rfl, wf, r1, hW, hQ⟩ := h
    have nd := sc_odd_ones.nd
    refine ⟨(tSeq (tAsg tDNewK (gName 1)) (tSeq (tFor (iList K (tVar 0)) (gName 2) (sDPut (tVar 1) (tVar 2) (tOp kSub (tC (.int 1)) (tDGet2 (tVar 1) (tVar 2) (tC (.int 0)))))) (tRet (tLc (iRng1 (tCons (tC (.int 300)) tNil)) (gName 3) (tTest (tOp L2.rEq (tDGet2 (tVar 1) (tVar 3) (tC (.int 0))) (tC (.int 1)))) (tVar 3) [3])))), (pss_cons (ps_set (i := 1) nd rfl (Or.inr rfl) pe_dnewK) (pss_cons (ps_for PassesOwn.never rfl (pi_list (pv 0)) (pg_name (i := 2) nd rfl (Or.inl rfl)) (pss_one (ps_dput (hu_of hr) (pv 1) (pv 2) (pe_op op_sub pe_int (pe_dget2 (hu_of hr) (pv 1) (pv 2) pe_int ⟨by rfl, by rfl, by rfl, by rfl⟩)) rfl))) (pss_one (ps_ret (pe_lc (own := [("_law_k", 3)]) (wi := (iRng1 (tCons (tC (.int 300)) tNil))) (g := (gName 3)) (tt := (tTest (tOp L2.rEq (tDGet2 (tVar 1) (tVar 3) (tC (.int 0))) (tC (.int 1))))) (te := (tVar 3)) rfl nd (pi_range1 rfl n_range (pa_cons pe_int pa_nil)) (blkOk_by (N := N_odd_ones) (sc := defScope s_odd_ones) (by decide +kernel)) (fun _ _ _ _ _ => (pg_name (i := 3) nd rfl (Or.inl rfl))) (fun _ _ _ _ _ => (pts_one (pt_cmpR op_eq (pe_dget2 (hu_of hr) (pv 1) (pv 3) pe_int ⟨by rfl, by rfl, by rfl, by rfl⟩) pe_int (nomark _)))) (fun _ _ _ _ _ => (pv 3))))))), ?_⟩
    have w := Wf.id wf
    refine q_sq fun N1 hN1 => ?_
    refine a_asgE ?_
    refine n_dict (κ := Nat) (e := pI) w ?_
    intro p1 H1 hp1 s1 x1
    replace r1 := Rep.mono _ s1.g r1
    replace w := w.tr s1
    refine hN1 _ _ ?_
    refine q_sq fun N2 hN2 => ?_
    refine f_LE ?_
    refine e_val (v := v1) (val_var rfl) ?_
    refine w_forL (S := List (Nat × Int)) (fun found1 σ' F' H' => ∃ (o1 : Option V), Wf F0 H0 F' H' ∧ Ex F0 F' ∧ σ' = [some v1, some ((.ref p1)), o1, none] ∧ XD pI H0 F' H' p1 found1) r1 hW ⟨_, w, Ex.rfl', rfl, x1⟩ (fun s σ' F' H' hI => by obtain ⟨_, w', gx', _⟩ := hI; exact ⟨gx', w'.f⟩) w.f ?_ ?_
    · intro N3 Bk1 place1 u1 found1 σ' F1 H2 nx1 bk1 hI1 hx1 ru1 hW hN3 hB1
      obtain ⟨o1, w, gx1, rfl, x2⟩ := hI1
      have r1 := Rep.mono _ gx1 r1
      obtain rfl : u1 = (.int ((place1 : Nat) : Int)) := ru1
      refine g_name ?_
      refine e_dput ?_
      obtain ⟨_, rfl, ix1⟩ := get_XD (j := place1) (x := ((0 : Nat) : Int)) (z := (.int (((0 : Nat) : Int)))) x2 rfl
      refine e_val (v := (.int (((1 : Nat) : Int) - ((valT found1 place1).getD ((0 : Nat) : Int))))) (vi0 val_c (ix1 (val_var rfl) (val_var rfl) val_c)) ?_
      obtain ⟨c1, hW⟩ := hW
      refine d_put (j := place1) x2 w c1 rfl (val_var rfl) (val_var rfl) (fun H3 w1 x3 kp1 => ?_)
      replace w := w1
      exact hN3 (putT found1 place1 (((1 : Nat) : Int) - ((valT found1 place1).getD ((0 : Nat) : Int)))) _ _ _ ⟨_, w, gx1, rfl, x3⟩ hW
    · intro found1 σ' F2 H4 hI2 hW
      obtain ⟨o1, w, gx2, rfl, x2⟩ := hI2
      have r1 := Rep.mono _ gx2 r1
      refine hN2 _ _ ?_
      refine a_retE ?_
      refine c_RE ?_
      refine e_val (v := (.int ((300 : Nat) : Int))) val_c ?_
      obtain ⟨c2, hW⟩ := hW
      refine w_compR (e := pN) w c2 hW ?_ ?_
      · intro Qy Qn k1 F3 H5 R1 q1 hx2 hW hy1 hn1
        have r1 := Rep.mono _ q1.g r1
        have x2 := x2.step q1
        have w := Wf.id q1.f
        refine ⟨rfl, ?_⟩
        obtain ⟨_, rfl, ix2⟩ := get_XD (j := k1) (x := ((0 : Nat) : Int)) (z := (.int (((0 : Nat) : Int)))) x2 rfl
        refine e_ans (b := decide (((valT found1 k1).getD ((0 : Nat) : Int)) = ((1 : Nat) : Int))) (t_of (c_eqI (ix2 (val_var rfl) (val_var rfl) val_c) val_c)) ?_
        refine b_if (fun hc1 => ?_) (fun hc1 => ?_)
        · have hW := ifP hW hc1
          refine e_val (v := (.int ((k1 : Nat) : Int))) (val_var rfl) ?_
          exact hy1 _ _ _ _ w rfl hW
        · have hW := ifN hW hc1
          exact hn1 _ _ w hW
      intro p2 ys1 F4 H6 hp2 s4 x4 hW
      have ne1 := x2.ne hp2
      replace r1 := Rep.mono _ s4.g r1
      replace x2 := x2.step s4
      replace w := w.tr s4
      replace gx2 := Ex.tr gx2 s4.g
      exact hQ _ hW _ _ _ w x4
abbrev s_right : Stmt := topS 11
/-! _law_right -/
def W_right (mask_here1 : Nat) (R : Bool → Prop) : Prop := W_places mask_here1 fun z1 => W_bits_of mask_here1 fun z2 => jn (fun kk => if z2 ≠ z1 then (kk true) else ((z2.length < 1000000) ∧ compW z2 (fun k1 kk => W_whole k1 fun z3 => if z3 = true then (kk none) else (kk (some k1))) fun ys1 => kk (decide (ys1 ≠ ([] : List Nat))))) fun b1 => if b1 = true then (R false) else (jn (fun kk => W_even mask_here1 fun z4 => W_even mask_here1 fun z5 => kk (decide (z5 ≠ (decide ((z1.length % 2) = 0))))) fun b2 => if b2 = true then (R false) else (W_mask_of z1.reverse fun z6 => (z2.length < 1000000) ∧ jn (fun kk => W_whole z6 fun z7 => if z7 = true then (if z6 ≠ mask_here1 then (kk true) else ((z1.length + z1.length < 1000000) ∧ ((z1 ++ z1).length + z1.length < 1000000) ∧ W_mask_of ((z1 ++ z1) ++ z1) fun z8 => if z8 ≠ mask_here1 then (kk true) else ((z1.length + z1.length < 1000000) ∧ W_mask_of (z1 ++ z1) fun z9 => kk (decide (z9 ≠ 0))))) else (kk true)) fun b3 => if b3 = true then (R false) else (W_bits_of mask_here1 fun z10 => R (decide (z10 = z1)))))
def sp_right (K : PySem.W.Frag) : Sp := fun vs H Q _ => ∃ (F : Hp) (mask_here1 : Nat) (R : Bool → Prop), vs = [(.int ((mask_here1 : Nat) : Int))] ∧ Ex F H ∧ W_right mask_here1 R ∧ ∀ z, R z → ∀ F' H', Wf F H F' H' → Q (.bl (z)) H'
abbrev N_right : List Str := ["_law_mask_here", "_law_due", "_law_found", "_law_k", "_law_again"]
theorem sc_right : FnScope N_right ["_law_mask_here"] (defScope s_right) := ⟨rfl, rfl, rfl, by decide +kernel, rfl, by decide +kernel, by decide +kernel⟩
theorem ok_right {P : Program} {w0 : World} {K : PySem.W.Frag} {mg : Str → Option Value} {base : Heap} {f : Addr} {fd : FuncData} (FU : Fun K "_law_right" "_law_right" s_right f fd) (hm : mg "_law_right" = some (.ref f)) (hb : Binds K fd ["_law_mask_here"] []) (c_places : Fn P w0 K mg base CX0 1 "_law_places" ["_law_mask_here"] (sp_places K)) (c_bits_of : Fn P w0 K mg base CX0 1 "bits_of" ["mask"] (sp_bits_of K)) (c_whole : Fn P w0 K mg base CX0 1 "_law_whole" ["_law_found"] (sp_whole K)) (c_even : Fn P w0 K mg base CX0 1 "even" ["number"] (sp_even K)) (c_mask_of : Fn P w0 K mg base CX0 1 "mask_of" ["places"] (sp_mask_of K)) (n_bool : mg "bool" = none) (n_isinstance : mg "isinstance" = none) (n_len : mg "len" = none) (n_list : mg "list" = none) (n_reversed : mg "reversed" = none) : Fn P w0 K mg base CX0 2 "_law_right" ["_law_mask_here"] (sp_right K) := by
  refine ⟨f, fd, FU.ok sc_right (fun vs H Q E h => ?_) (fun cdv A outer s H0 vs Q E hr h => ?_), hm, FU.kp, hb⟩
  · obtain ⟨_, _, _, rfl, _⟩ := h; rfl
  · obtain ⟨F0, mask_here1, R, rfl, wf, hW, hQ⟩ := h
    have nd := sc_right.nd
    refine ⟨(tSeq (tAsg (tCall (sp_places K) [] E0 (tCons (tVar 0) tNil)) (gName 1)) (tSeq (tAsg (tCall (sp_bits_of K) [] E0 (tCons (tVar 0) tNil)) (gName 2)) (tSeq (tIfS (tOr (tNot (tB (tCB (rIsi K) (tCons (tVar 2) (tCons (tC (.ty "list")) tNil))))) (tOr (tTest (tOp (L2.rNeD K) (tVar 2) (tVar 1))) (tTest (tOp (L2.rNeD K) (tLc (iList K (tVar 2)) (gName 3) (tNot (tB (tCall (sp_whole K) [] E0 (tCons (tVar 3) tNil)))) (tVar 3) [3]) (tLst tNil))))) (tRet (tC (.bl false))) tNext) (tSeq (tIfS (tOr (tNot (tB (tCB (rIsi K) (tCons (tCall (sp_even K) [] E0 (tCons (tVar 0) tNil)) (tCons (tC (.ty "bool")) tNil))))) (tTest (tOp L2.rNe (tCall (sp_even K) [] E0 (tCons (tVar 0) tNil)) (tOp L2.rEq (tOp kMod (tCB (rLen K) (tCons (tVar 1) tNil)) (tC (.int 2))) (tC (.int 0)))))) (tRet (tC (.bl false))) tNext) (tSeq (tAsg (tCall (sp_mask_of K) [] E0 (tCons (tLstRev K (tVar 1)) tNil)) (gName 4)) (tSeq (tDrop (tBM K "list" rAppend (tVar 2) (tCons (tC (.int 0)) tNil))) (tSeq (tIfS (tOr (tNot (tB (tCall (sp_whole K) [] E0 (tCons (tVar 4) tNil)))) (tOr (tTest (tOp L2.rNe (tVar 4) (tVar 0))) (tOr (tTest (tOp L2.rNe (tCall (sp_mask_of K) [] E0 (tCons (tOp L2.rCat (tOp L2.rCat (tVar 1) (tVar 1)) (tVar 1)) tNil)) (tVar 0))) (tTest (tOp L2.rNe (tCall (sp_mask_of K) [] E0 (tCons (tOp L2.rCat (tVar 1) (tVar 1)) tNil)) (tC (.int 0))))))) (tRet (tC (.bl false))) tNext) (tRet (tOp (L2.rEqD K) (tCall (sp_bits_of K) [] E0 (tCons (tVar 0) tNil)) (tVar 1)))))))))), (pss_cons (ps_set (i := 1) nd rfl (Or.inl rfl) (pe_fn c_places (hr.mono (by decide)) rfl (pa_cons (pv 0) pa_nil))) (pss_cons (ps_set (i := 2) nd rfl (Or.inl rfl) (pe_fn c_bits_of (hr.mono (by decide)) rfl (pa_cons (pv 0) pa_nil))) (pss_cons (ps_if (PW.pt (pw_or (pt_not (pt_val (pe_callB call_isi (by rfl) n_isinstance PyProof.Rows.boot_isinstance (pa_cons (pv 2) (pa_cons (pe_bltn (v := .ty "list") (by rfl) n_list PyProof.Rows.boot_list rfl) pa_nil))))) (pw_or (pt_cmpR (op_neD hr.units) (pv 2) (pv 1) (nomark _)) (pw_or1 (pt_cmpR (op_neD hr.units) (pe_lc (own := [("_law_k", 3)]) (wi := (iList K (tVar 2))) (g := (gName 3)) (tt := (tNot (tB (tCall (sp_whole K) [] E0 (tCons (tVar 3) tNil))))) (te := (tVar 3)) rfl nd (pi_list (pv 2)) (blkOk_by (N := N_right) (sc := defScope s_right) (by decide +kernel)) (fun _ _ _ _ _ => (pg_name (i := 3) nd rfl (Or.inl rfl))) (fun _ _ _ _ _ => (pts_one (pt_not (pt_val (pe_fn c_whole (hr.mono (by decide)) rfl (pa_cons (pv 3) pa_nil)))))) (fun _ _ _ _ _ => (pv 3))) (pe_lst pa_nil) (nomark _)))))) (pss_one (ps_ret pe_bl)) pss_nil) (pss_cons (ps_if (PW.pt (pw_or (pt_not (pt_val (pe_callB call_isi (by rfl) n_isinstance PyProof.Rows.boot_isinstance (pa_cons (pe_fn c_even (hr.mono (by decide)) rfl (pa_cons (pv 0) pa_nil)) (pa_cons (pe_bltn (v := .ty "bool") (by rfl) n_bool PyProof.Rows.boot_bool rfl) pa_nil))))) (pw_or1 (pt_cmpR op_ne (pe_fn c_even (hr.mono (by decide)) rfl (pa_cons (pv 0) pa_nil)) (pe_cmpR op_eq (pe_op op_mod (pe_callB call_len_seq (by rfl) n_len PySem.boot_len (pa_cons (pv 1) pa_nil)) pe_int) pe_int (nomark _)) (nomark _))))) (pss_one (ps_ret pe_bl)) pss_nil) (pss_cons (ps_set (i := 4) nd rfl (Or.inl rfl) (pe_fn c_mask_of (hr.mono (by decide)) rfl (pa_cons (pe_lstRev rfl (by rfl) n_list (by rfl) n_reversed (pv 1)) pa_nil))) (pss_cons (ps_expr (pe_bm PySem.F.plainAttrs_list PySem.F.slot_list_append PySem.F.type_list_append mt_append (pv 2) (pa_cons pe_int pa_nil))) (pss_cons (ps_if (PW.pt (pw_or (pt_not (pt_val (pe_fn c_whole (hr.mono (by decide)) rfl (pa_cons (pv 4) pa_nil)))) (pw_or (pt_cmpR op_ne (pv 4) (pv 0) (nomark _)) (pw_or (pt_cmpR op_ne (pe_fn c_mask_of (hr.mono (by decide)) rfl (pa_cons (pe_op op_cat (pe_op op_cat (pv 1) (pv 1)) (pv 1)) pa_nil)) (pv 0) (nomark _)) (pw_or1 (pt_cmpR op_ne (pe_fn c_mask_of (hr.mono (by decide)) rfl (pa_cons (pe_op op_cat (pv 1) (pv 1)) pa_nil)) pe_int (nomark _))))))) (pss_one (ps_ret pe_bl)) pss_nil) (pss_one (ps_ret (pe_cmpR (op_eqD hr.units) (pe_fn c_bits_of (hr.mono (by decide)) rfl (pa_cons (pv 0) pa_nil)) (pv 1) (nomark _))))))))))), ?_⟩
    have w := Wf.id wf
    refine q_sq fun N1 hN1 => ?_
    refine a_asgE ?_
    refine e_call ?_
    refine a_val (v := (.int ((mask_here1 : Nat) : Int))) (val_var rfl) ?_
    refine a_nil ?_
    refine ⟨F0, (mask_here1), _, rfl, w.f, hW, ?_⟩
    intro z1 hW p1 F1 H1 s1 x1
    replace x1 := x1.base w
    replace w := w.tr s1
    obtain ⟨F2, w1, g1, r1, fz1⟩ := x1.frzE w
    replace w := w1
    refine hN1 _ _ ?_
    refine q_sq fun N2 hN2 => ?_
    refine a_asgE ?_
    refine e_call ?_
    refine a_val (v := (.int ((mask_here1 : Nat) : Int))) (val_var rfl) ?_
    refine a_nil ?_
    refine ⟨F2, (mask_here1), _, rfl, w.f, hW, ?_⟩
    intro z2 hW p2 F3 H2 s2 x2
    replace x2 := x2.base w
    replace r1 := Rep.mono _ s2.g r1
    replace w := w.tr s2
    refine hN2 _ _ ?_
    refine q_sq fun N3 hN3 => ?_
    refine a_ifE ?_
    refine e_jnT hW (fun b F' H' => b = b ∧ Wf F0 H0 F' H' ∧ Ex F3 F' ∧ XL pN H0 F' H' p2 z2) ?_ ?_
    · intro N4 hN4 hW
      have gx1 : Ex F3 F3 := Ex.rfl'
      refine e_tOr ?_
      refine e_ans (b := false) (t_dec (t_iff (p := ¬ (True)) (q := False) (t_not (t_ofB (vb_of (v_isi (b := true) (val_var rfl) (ty_X x2) (by decide +kernel)) dec_T))) (by simp)) dec_F.symm) ?_
      refine if_f ?_
      refine e_tOr ?_
      obtain ⟨Fl1, lf1, _, lr1⟩ := x2.lend w
      refine e_ans (b := decide (z2 ≠ z1)) (t_of (c_neD (K := K) (e := (pL pN)) (val_var rfl) (val_var rfl) lf1 lr1 w.f r1)) ?_
      refine b_if (fun hc1 => ?_) (fun hc1 => ?_)
      · have hW := ifP hW hc1
        exact hN4 true _ _ ⟨rfl, w, gx1, x2⟩ hW
      · have hW := ifN hW hc1
        refine e_tT ?_
        refine e_op ?_
        refine c_LE ?_
        refine e_val (v := (.ref p2)) (val_var rfl) ?_
        obtain ⟨c1, hW⟩ := hW
        refine w_compX (e := pN) x2 w c1 hW ?_ ?_
        · intro Qy Qn k1 u1 F4 H3 R1 q1 hx1 ru1 hW hy1 hn1
          have r1 := Rep.mono _ q1.g r1
          have x2 := x2.step q1
          have w := Wf.id q1.f
          obtain rfl : u1 = (.int ((k1 : Nat) : Int)) := ru1
          refine ⟨rfl, ?_⟩
          refine e_tNot ?_
          refine e_tB ?_
          refine e_call ?_
          refine a_val (v := (.int ((k1 : Nat) : Int))) (val_var rfl) ?_
          refine a_nil ?_
          refine ⟨F4, (k1), _, rfl, w.f, hW, ?_⟩
          intro z3 hW F5 H4 s3
          replace r1 := Rep.mono _ s3.g r1
          replace x2 := x2.step s3
          replace w := w.tr s3
          refine bl_v ?_
          refine bb_ifn (fun hc2 => ?_) (fun hc2 => ?_)
          · have hW := ifP hW hc2
            exact hn1 _ _ w hW
          · have hW := ifN hW hc2
            refine e_val (v := (.int ((k1 : Nat) : Int))) (val_var rfl) ?_
            exact hy1 _ _ _ _ w rfl hW
        intro p3 ys1 F6 H5 hp1 s4 x4 hW
        have ne1 := x2.ne hp1
        replace r1 := Rep.mono _ s4.g r1
        replace x2 := x2.step s4
        replace w := w.tr s4
        replace gx1 := Ex.tr gx1 s4.g
        refine e_lst ?_
        refine a_nil ?_
        refine n_lstX (e := pN) (xs := []) (vs := []) (show All pN _ [] [] from trivial) (show 0 < 1000000 from by decide) w ?_
        intro p4 H6 hp2 s5 x5
        have ne2 := x2.ne hp2
        have ne3 := x4.ne hp2
        replace r1 := Rep.mono _ s5.g r1
        replace x2 := x2.step s5
        replace x4 := x4.step s5
        replace w := w.tr s5
        replace gx1 := Ex.tr gx1 s5.g
        obtain ⟨F7, w2, g2, r2, fz2⟩ := x4.frzE w
        replace r1 := Rep.mono _ g2 r1
        replace x2 := x2.frzO fz2 ne1 g2
        replace x5 := x5.frzO fz2 (Ne.symm ne3) g2
        replace w := w2
        replace gx1 := Ex.tr gx1 g2
        obtain ⟨F8, w3, g3, r3, fz3⟩ := x5.frzE w
        replace r1 := Rep.mono _ g3 r1
        replace x2 := x2.frzO fz3 ne2 g3
        replace r2 := Rep.mono _ g3 r2
        replace w := w3
        replace gx1 := Ex.tr gx1 g3
        refine rv2T (b := decide (ys1 ≠ ([] : List Nat))) (c_neD (K := K) (e := (pL pN)) val_c val_c w.f r2 w.f r3) ?_
        exact hN4 (decide (ys1 ≠ ([] : List Nat))) _ _ ⟨rfl, w, gx1, x2⟩ hW
    intro b1 F9 H7 hI1 hW
    obtain ⟨_, w, gx2, x3⟩ := hI1
    have r1 := Rep.mono _ gx2 r1
    refine bb_if (fun hc3 => ?_) (fun hc3 => ?_)
    · have hW := ifP hW hc3
      refine a_ret (v := (.bl (false))) val_c ?_
      exact hQ _ hW _ _ w
    · have hW := ifN hW hc3
      refine hN3 _ _ ?_
      refine q_sq fun N5 hN5 => ?_
      refine a_ifE ?_
      refine e_jnT hW (fun b F' H' => b = b ∧ Wf F0 H0 F' H' ∧ Ex F9 F' ∧ XL pN H0 F' H' p2 z2) ?_ ?_
      · intro N6 hN6 hW
        have gx3 : Ex F9 F9 := Ex.rfl'
        refine e_tOr ?_
        refine e_tNot ?_
        refine e_tB ?_
        refine e_cb ?_
        refine a_cons ?_
        refine e_call ?_
        refine a_val (v := (.int ((mask_here1 : Nat) : Int))) (val_var rfl) ?_
        refine a_nil ?_
        refine ⟨F9, (mask_here1), _, rfl, w.f, hW, ?_⟩
        intro z4 hW F10 H8 s6
        replace r1 := Rep.mono _ s6.g r1
        replace x3 := x3.step s6
        replace w := w.tr s6
        replace gx3 := Ex.tr gx3 s6.g
        refine a_val (v := .ty "bool") val_c ?_
        refine a_nil ?_
        refine rcb2 (z := .bl true) (v_isi (b := true) val_c (.base (.bl _)) (by decide +kernel)) ?_
        refine bl_v ?_
        refine if_f ?_
        refine e_tT ?_
        refine e_op ?_
        refine e_call ?_
        refine a_val (v := (.int ((mask_here1 : Nat) : Int))) (val_var rfl) ?_
        refine a_nil ?_
        refine ⟨F10, (mask_here1), _, rfl, w.f, hW, ?_⟩
        intro z5 hW F11 H9 s7
        replace r1 := Rep.mono _ s7.g r1
        replace x3 := x3.step s7
        replace w := w.tr s7
        replace gx3 := Ex.tr gx3 s7.g
        refine e_val (v := (.bl (decide ((z1.length % 2) = 0)))) (vb_dec (c_eqI (vn_mod (len_L r1 w.f (val_var rfl)) val_c (by decide)) val_c) n_eq) ?_
        refine rv2T (b := decide (z5 ≠ (decide ((z1.length % 2) = 0)))) (c_neB val_c val_c) ?_
        exact hN6 (decide (z5 ≠ (decide ((z1.length % 2) = 0)))) _ _ ⟨rfl, w, gx3, x3⟩ hW
      intro b2 F12 H10 hI2 hW
      obtain ⟨_, w, gx4, x6⟩ := hI2
      have r1 := Rep.mono _ gx4 r1
      refine bb_if (fun hc4 => ?_) (fun hc4 => ?_)
      · have hW := ifP hW hc4
        refine a_ret (v := (.bl (false))) val_c ?_
        exact hQ _ hW _ _ w
      · have hW := ifN hW hc4
        refine hN5 _ _ ?_
        refine q_sq fun N7 hN7 => ?_
        refine a_asgE ?_
        refine e_call ?_
        refine a_cons ?_
        refine e_lrev ?_
        refine e_val (v := (.ref p1)) (val_var rfl) ?_
        refine n_lrevX r1 w ?_
        intro p5 H11 hp3 s8 x7
        have ne4 := x6.ne hp3
        replace r1 := Rep.mono _ s8.g r1
        replace x6 := x6.step s8
        replace w := w.tr s8
        refine a_nil ?_
        obtain ⟨Fl2, lf2, lg1, lr2⟩ := x7.lend w
        refine ⟨Fl2, ((.ref p5)), (z1.reverse), _, rfl, lf2, lr2, hW, ?_⟩
        intro z6 hW F13 H12 s9
        replace s9 := Wf.grow w.f s9.h
        replace r1 := Rep.mono _ s9.g r1
        replace x6 := x6.step s9
        replace x7 := x7.step s9
        replace w := w.tr s9
        refine hN7 _ _ ?_
        refine q_sq fun N8 hN8 => ?_
        refine a_dropE ?_
        refine m_list x6 (val_var rfl) ?_
        refine a_val (v := (.int ((0 : Nat) : Int))) val_c ?_
        refine a_nil ?_
        obtain ⟨c2, hW⟩ := hW
        refine a_app x6 w c2 rfl (fun H13 w4 x8 kp1 => ?_)
        replace w := w4
        refine hN8 _ _ ?_
        refine q_sq fun N9 hN9 => ?_
        refine a_ifE ?_
        refine e_jnT hW (fun b F' H' => b = b ∧ Wf F0 H0 F' H' ∧ Ex F12 F' ∧ XL pN H0 F' H' p2 (z2 ++ [0])) ?_ ?_
        · intro N10 hN10 hW
          have gx5 : Ex F12 F12 := Ex.rfl'
          refine e_tOr ?_
          refine e_tNot ?_
          refine e_tB ?_
          refine e_call ?_
          refine a_val (v := (.int ((z6 : Nat) : Int))) (val_var rfl) ?_
          refine a_nil ?_
          refine ⟨F12, (z6), _, rfl, w.f, hW, ?_⟩
          intro z7 hW F14 H14 s10
          replace r1 := Rep.mono _ s10.g r1
          replace x8 := x8.step s10
          replace w := w.tr s10
          replace gx5 := Ex.tr gx5 s10.g
          refine bl_v ?_
          refine bb_ifn (fun hc5 => ?_) (fun hc5 => ?_)
          · have hW := ifP hW hc5
            refine e_tOr ?_
            refine e_ans (b := decide (z6 ≠ mask_here1)) (t_of (vb_dec (c_neI (val_var rfl) (val_var rfl)) n_ne)) ?_
            refine b_if (fun hc6 => ?_) (fun hc6 => ?_)
            · have hW := ifP hW hc6
              exact hN10 true _ _ ⟨rfl, w, gx5, x8⟩ hW
            · have hW := ifN hW hc6
              refine e_tOr ?_
              refine e_tT ?_
              refine e_op ?_
              refine e_call ?_
              refine a_cons ?_
              refine e_op ?_
              refine e_op ?_
              refine e_val (v := (.ref p1)) (val_var rfl) ?_
              refine e_val (v := (.ref p1)) (val_var rfl) ?_
              obtain ⟨c3, hW⟩ := hW
              refine n_cat r1 r1 w c3 ?_
              intro p6 H15 hp4 s11 x10
              have ne5 := x8.ne hp4
              replace r1 := Rep.mono _ s11.g r1
              replace x8 := x8.step s11
              replace w := w.tr s11
              replace gx5 := Ex.tr gx5 s11.g
              refine e_val (v := (.ref p1)) (val_var rfl) ?_
              obtain ⟨F15, w5, g4, r4, fz4⟩ := x10.frzE w
              replace r1 := Rep.mono _ g4 r1
              replace x8 := x8.frzO fz4 ne5 g4
              replace w := w5
              replace gx5 := Ex.tr gx5 g4
              obtain ⟨c4, hW⟩ := hW
              refine n_cat r4 r1 w c4 ?_
              intro p7 H16 hp5 s12 x11
              have ne6 := x8.ne hp5
              replace r1 := Rep.mono _ s12.g r1
              replace x8 := x8.step s12
              replace r4 := Rep.mono _ s12.g r4
              replace w := w.tr s12
              replace gx5 := Ex.tr gx5 s12.g
              refine a_nil ?_
              obtain ⟨Fl3, lf3, lg2, lr3⟩ := x11.lend w
              refine ⟨Fl3, ((.ref p7)), ((z1 ++ z1) ++ z1), _, rfl, lf3, lr3, hW, ?_⟩
              intro z8 hW F16 H17 s13
              replace s13 := Wf.grow w.f s13.h
              replace r1 := Rep.mono _ s13.g r1
              replace x8 := x8.step s13
              replace r4 := Rep.mono _ s13.g r4
              replace x11 := x11.step s13
              replace w := w.tr s13
              replace gx5 := Ex.tr gx5 s13.g
              refine e_val (v := (.int ((mask_here1 : Nat) : Int))) (val_var rfl) ?_
              refine rv2T (b := decide (z8 ≠ mask_here1)) (vb_dec (c_neI val_c val_c) n_ne) ?_
              refine b_if (fun hc7 => ?_) (fun hc7 => ?_)
              · have hW := ifP hW hc7
                exact hN10 true _ _ ⟨rfl, w, gx5, x8⟩ hW
              · have hW := ifN hW hc7
                refine e_tT ?_
                refine e_op ?_
                refine e_call ?_
                refine a_cons ?_
                refine e_op ?_
                refine e_val (v := (.ref p1)) (val_var rfl) ?_
                refine e_val (v := (.ref p1)) (val_var rfl) ?_
                obtain ⟨c5, hW⟩ := hW
                refine n_cat r1 r1 w c5 ?_
                intro p8 H18 hp6 s14 x12
                have ne7 := x8.ne hp6
                have ne8 := x11.ne hp6
                replace r1 := Rep.mono _ s14.g r1
                replace x8 := x8.step s14
                replace r4 := Rep.mono _ s14.g r4
                replace x11 := x11.step s14
                replace w := w.tr s14
                replace gx5 := Ex.tr gx5 s14.g
                refine a_nil ?_
                obtain ⟨Fl4, lf4, lg3, lr4⟩ := x12.lend w
                refine ⟨Fl4, ((.ref p8)), (z1 ++ z1), _, rfl, lf4, lr4, hW, ?_⟩
                intro z9 hW F17 H19 s15
                replace s15 := Wf.grow w.f s15.h
                replace r1 := Rep.mono _ s15.g r1
                replace x8 := x8.step s15
                replace r4 := Rep.mono _ s15.g r4
                replace x11 := x11.step s15
                replace x12 := x12.step s15
                replace w := w.tr s15
                replace gx5 := Ex.tr gx5 s15.g
                refine e_val (v := (.int ((0 : Nat) : Int))) val_c ?_
                refine rv2T (b := decide (z9 ≠ 0)) (vb_dec (c_neI val_c val_c) n_ne) ?_
                exact hN10 (decide (z9 ≠ 0)) _ _ ⟨rfl, w, gx5, x8⟩ hW
          · have hW := ifN hW hc5
            exact hN10 true _ _ ⟨rfl, w, gx5, x8⟩ hW
        intro b3 F18 H20 hI3 hW
        obtain ⟨_, w, gx6, x9⟩ := hI3
        have r1 := Rep.mono _ gx6 r1
        refine bb_if (fun hc8 => ?_) (fun hc8 => ?_)
        · have hW := ifP hW hc8
          refine a_ret (v := (.bl (false))) val_c ?_
          exact hQ _ hW _ _ w
        · have hW := ifN hW hc8
          refine hN9 _ _ ?_
          refine a_retE ?_
          refine e_op ?_
          refine e_call ?_
          refine a_val (v := (.int ((mask_here1 : Nat) : Int))) (val_var rfl) ?_
          refine a_nil ?_
          refine ⟨F18, (mask_here1), _, rfl, w.f, hW, ?_⟩
          intro z10 hW p9 F19 H21 s16 x13
          have ne9 := x9.ne x13.zero
          replace x13 := x13.base w
          replace r1 := Rep.mono _ s16.g r1
          replace x9 := x9.step s16
          replace w := w.tr s16
          refine e_val (v := (.ref p1)) (val_var rfl) ?_
          obtain ⟨F20, w6, g5, r5, fz5⟩ := x13.frzE w
          replace r1 := Rep.mono _ g5 r1
          replace x9 := x9.frzO fz5 ne9 g5
          replace w := w6
          refine rv2 (z := .bl (decide (z10 = z1))) (c_eqD (K := K) (e := (pL pN)) val_c val_c w.f r5 w.f r1) ?_
          exact hQ _ hW _ _ w
abbrev s_law : Stmt := topS 12
/-! law -/
def W_law (script1 : List Int) (R : Bool → Prop) : Prop := (3 < 1000000) ∧ compW (List.range 3) (fun k1 kk => W_cell script1 k1 fun z1 => W_cell script1 3 fun z2 => (k1 < 100000000) ∧ (NDiv (2 ^ k1)) ∧ W_mask z1 (z2 / ((2 ^ k1 : Nat) : Int)) fun z3 => kk (some z3)) fun ys1 => ∃ x2, ys1[0]? = some x2 ∧ ∃ x3, ys1[1]? = some x3 ∧ (ys1.length + [x2 ^^^ x3, 0, 2 ^ 299].length < 1000000) ∧ forW (ys1 ++ [x2 ^^^ x3, 0, 2 ^ 299]) () (fun mask_here1 _ nx1 bk1 => W_right mask_here1 fun z4 => if z4 = true then (nx1 ()) else (R false)) fun _ => ∃ x6, ys1[0]? = some x6 ∧ ∃ x7, ys1[1]? = some x7 ∧ W_even (x6 ^^^ x7) fun z5 => ∃ x8, ys1[0]? = some x8 ∧ W_even x8 fun z6 => ∃ x9, ys1[1]? = some x9 ∧ W_even x9 fun z7 => if z5 ≠ (decide (z6 = z7)) then (R false) else (((cutT script1 (some 3) (some 63)).length < 1000000) ∧ compW (cutT script1 (some 3) (some 63)) (fun cell_here1 kk => W_cell script1 3 fun z8 => ∃ x12, [300, 10][modN (z8 / ((8 : Nat) : Int)) 2]? = some x12 ∧ (0 < x12) ∧ kk (some (modN cell_here1 x12))) fun ys2 => W_mask_of ys2 fun z9 => jn (fun kk => if ys2 = ys2 then (W_whole z9 fun z10 => if z10 = true then (W_places z9 fun z11 => W_odd_ones ys2 fun z12 => kk (decide (z11 = z12))) else (kk false)) else (kk false)) fun b1 => R b1)
def sp_law (K : PySem.W.Frag) : Sp := fun vs H Q _ => ∃ (F : Hp) (v1 : V) (script1 : List Int) (R : Bool → Prop), vs = [v1] ∧ Ex F H ∧ (pScr K).r F v1 script1 ∧ W_law script1 R ∧ ∀ z, R z → ∀ F' H', Wf F H F' H' → Q (.bl (z)) H'
abbrev N_law : List Str := ["_law_script", "_law_masks", "_law_k", "_law_mask_here", "_law_places_here", "_law_cell_here", "_law_handed", "_law_found"]
theorem sc_law : FnScope N_law ["_law_script"] (defScope s_law) := ⟨rfl, rfl, rfl, by decide +kernel, rfl, by decide +kernel, by decide +kernel⟩
theorem ok_law {P : Program} {w0 : World} {K : PySem.W.Frag} {mg : Str → Option Value} {base : Heap} {f : Addr} {fd : FuncData} (FU : Fun K "law" "law" s_law f fd) (c_cell : Fn P w0 K mg base CX0 1 "_law_cell" ["_law_script", "_law_k"] (sp_cell K)) (c_mask : Fn P w0 K mg base CX0 2 "_law_mask" ["_law_cell_here", "_law_other"] (sp_mask K)) (c_right : Fn P w0 K mg base CX0 2 "_law_right" ["_law_mask_here"] (sp_right K)) (c_even : Fn P w0 K mg base CX0 1 "even" ["number"] (sp_even K)) (c_mask_of : Fn P w0 K mg base CX0 1 "mask_of" ["places"] (sp_mask_of K)) (c_whole : Fn P w0 K mg base CX0 1 "_law_whole" ["_law_found"] (sp_whole K)) (c_places : Fn P w0 K mg base CX0 1 "_law_places" ["_law_mask_here"] (sp_places K)) (c_odd_ones : Fn P w0 K mg base CX0 1 "_law_odd_ones" ["_law_places_here"] (sp_odd_ones K)) (n_list : mg "list" = none) (n_range : mg "range" = none) : FnOk P w0 K mg base CX0 3 f fd ["_law_script"] (sp_law K) := by
  refine FU.ok sc_law (fun vs H Q E h => ?_) (fun cdv A outer s H0 vs Q E hr h => ?_)
  · obtain ⟨_, _, _, _, rfl, _⟩ := h; rfl
  · obtain ⟨F0, v1, script1, R, rfl, wf, r1, hW, hQ⟩ := h
    have nd := sc_law.nd
    refine ⟨(tSeq (tAsg (tLc (iRng1 (tCons (tC (.int 3)) tNil)) (gName 2) tYes (tCall (sp_mask K) [] E0 (tCons (tCall (sp_cell K) [] E0 (tCons (tVar 0) (tCons (tVar 2) tNil))) (tCons (tOp kDiv (tCall (sp_cell K) [] E0 (tCons (tVar 0) (tCons (tC (.int 3)) tNil))) (tOp kShl (tC (.int 1)) (tVar 2))) tNil))) [2]) (gName 1)) (tSeq (tFor (iList K (tOp L2.rCat (tVar 1) (tLst (tCons (tOp kXor (tOp (L2.rIxL K) (tVar 1) (tC (.int 0))) (tOp (L2.rIxL K) (tVar 1) (tC (.int 1)))) (tCons (tC (.int 0)) (tCons (tOp kShl (tC (.int 1)) (tC (.int 299))) tNil)))))) (gName 3) (tIfS (tNot (tB (tCall (sp_right K) [] E0 (tCons (tVar 3) tNil)))) (tRet (tC (.bl false))) tNext)) (tSeq (tIfS (tTest (tOp L2.rNe (tCall (sp_even K) [] E0 (tCons (tOp kXor (tOp (L2.rIxL K) (tVar 1) (tC (.int 0))) (tOp (L2.rIxL K) (tVar 1) (tC (.int 1)))) tNil)) (tOp L2.rEq (tCall (sp_even K) [] E0 (tCons (tOp (L2.rIxL K) (tVar 1) (tC (.int 0))) tNil)) (tCall (sp_even K) [] E0 (tCons (tOp (L2.rIxL K) (tVar 1) (tC (.int 1))) tNil))))) (tRet (tC (.bl false))) tNext) (tSeq (tAsg (tLc (iList K (tSl (rSlL K) (tVar 0) (tPart (tC (.int 3))) (tPart (tC (.int 63))))) (gName 5) tYes (tOp kMod (tVar 5) (tOp (L2.rIxL K) (tLst (tCons (tC (.int 300)) (tCons (tC (.int 10)) tNil))) (tOp kMod (tOp kDiv (tCall (sp_cell K) [] E0 (tCons (tVar 0) (tCons (tC (.int 3)) tNil))) (tC (.int 8))) (tC (.int 2))))) [5]) (gName 4)) (tSeq (tAsg (tCB (rListOf K) (tCons (tVar 4) tNil)) (gName 6)) (tSeq (tAsg (tCall (sp_mask_of K) [] E0 (tCons (tVar 6) tNil)) (gName 7)) (tRet (tAndV (tOp (L2.rEqD K) (tVar 6) (tVar 4)) (tAndV (tCall (sp_whole K) [] E0 (tCons (tVar 7) tNil)) (tOp (L2.rEqD K) (tCall (sp_places K) [] E0 (tCons (tVar 7) tNil)) (tCall (sp_odd_ones K) [] E0 (tCons (tVar 4) tNil)))))))))))), (pss_cons (ps_setLc (i := 1) (own := [("_law_k", 2)]) (wi := (iRng1 (tCons (tC (.int 3)) tNil))) (g := (gName 2)) (tt := tYes) (te := (tCall (sp_mask K) [] E0 (tCons (tCall (sp_cell K) [] E0 (tCons (tVar 0) (tCons (tVar 2) tNil))) (tCons (tOp kDiv (tCall (sp_cell K) [] E0 (tCons (tVar 0) (tCons (tC (.int 3)) tNil))) (tOp kShl (tC (.int 1)) (tVar 2))) tNil)))) rfl nd rfl rfl (sw_true rfl rfl rfl (by decide +kernel)) (pi_range1 rfl n_range (pa_cons pe_int pa_nil)) (blkOk_by (N := N_law) (sc := defScope s_law) (by decide +kernel)) (fun _ _ _ _ _ => (pg_name (i := 2) nd rfl (Or.inl rfl))) (fun _ _ _ _ _ => pts_nil) (fun _ _ _ _ _ => (pe_fn c_mask (hr.mono (by decide)) rfl (pa_cons (pe_fn c_cell (hr.mono (by decide)) rfl (pa_cons (pv 0) (pa_cons (pv 2) pa_nil))) (pa_cons (pe_op op_fdivW (pe_fn c_cell (hr.mono (by decide)) rfl (pa_cons (pv 0) (pa_cons pe_int pa_nil))) (pe_op op_shlW pe_int (pv 2))) pa_nil))))) (pss_cons (ps_for PassesOwn.never rfl (pi_list (pe_op op_cat (pv 1) (pe_lst (pa_cons (pe_op op_xor (pe_ix ix_list (pv 1) pe_int (fun _ _ => rfl)) (pe_ix ix_list (pv 1) pe_int (fun _ _ => rfl))) (pa_cons pe_int (pa_cons (pe_op op_shlW pe_int pe_int) pa_nil)))))) (pg_name (i := 3) nd rfl (Or.inl rfl)) (pss_one (ps_if (pt_not (pt_val (pe_fn c_right (hr.mono (by decide)) rfl (pa_cons (pv 3) pa_nil)))) (pss_one (ps_ret pe_bl)) pss_nil))) (pss_cons (ps_if (pt_cmpR op_ne (pe_fn c_even (hr.mono (by decide)) rfl (pa_cons (pe_op op_xor (pe_ix ix_list (pv 1) pe_int (fun _ _ => rfl)) (pe_ix ix_list (pv 1) pe_int (fun _ _ => rfl))) pa_nil)) (pe_cmpR op_eq (pe_fn c_even (hr.mono (by decide)) rfl (pa_cons (pe_ix ix_list (pv 1) pe_int (fun _ _ => rfl)) pa_nil)) (pe_fn c_even (hr.mono (by decide)) rfl (pa_cons (pe_ix ix_list (pv 1) pe_int (fun _ _ => rfl)) pa_nil)) (nomark _)) (nomark _)) (pss_one (ps_ret pe_bl)) pss_nil) (pss_cons (ps_setLc (i := 4) (own := [("_law_cell_here", 5)]) (wi := (iList K (tSl (rSlL K) (tVar 0) (tPart (tC (.int 3))) (tPart (tC (.int 63)))))) (g := (gName 5)) (tt := tYes) (te := (tOp kMod (tVar 5) (tOp (L2.rIxL K) (tLst (tCons (tC (.int 300)) (tCons (tC (.int 10)) tNil))) (tOp kMod (tOp kDiv (tCall (sp_cell K) [] E0 (tCons (tVar 0) (tCons (tC (.int 3)) tNil))) (tC (.int 8))) (tC (.int 2)))))) rfl nd rfl rfl (sw_true rfl rfl rfl (by decide +kernel)) (pi_list (pe_slice sl_list (pv 0) (po_some pe_int) (po_some pe_int))) (blkOk_by (N := N_law) (sc := defScope s_law) (by decide +kernel)) (fun _ _ _ _ _ => (pg_name (i := 5) nd rfl (Or.inl rfl))) (fun _ _ _ _ _ => pts_nil) (fun _ _ _ _ _ => (pe_op op_mod (pv 5) (pe_ix ix_list (pe_lst (pa_cons pe_int (pa_cons pe_int pa_nil))) (pe_op op_mod (pe_op op_fdivW (pe_fn c_cell (hr.mono (by decide)) rfl (pa_cons (pv 0) (pa_cons pe_int pa_nil))) pe_int) pe_int) (fun _ _ => rfl))))) (pss_cons (ps_set (i := 6) nd rfl (Or.inl rfl) (pe_callTy call_list_of (by rfl) n_list PyProof.Rows.boot_list (pa_cons (pv 4) pa_nil))) (pss_cons (ps_set (i := 7) nd rfl (Or.inl rfl) (pe_fn c_mask_of (hr.mono (by decide)) rfl (pa_cons (pv 6) pa_nil))) (pss_one (ps_ret (pe_and (pe_cmpR (op_eqD hr.units) (pv 6) (pv 4) (nomark _)) (pe_and (pe_fn c_whole (hr.mono (by decide)) rfl (pa_cons (pv 7) pa_nil)) (pe_one (pe_cmpR (op_eqD hr.units) (pe_fn c_places (hr.mono (by decide)) rfl (pa_cons (pv 7) pa_nil)) (pe_fn c_odd_ones (hr.mono (by decide)) rfl (pa_cons (pv 4) pa_nil)) (nomark _))))))))))))), ?_⟩
    have w := Wf.id wf
    refine q_sq fun N1 hN1 => ?_
    refine a_asgE ?_
    refine c_RE ?_
    refine e_val (v := (.int ((3 : Nat) : Int))) val_c ?_
    obtain ⟨c1, hW⟩ := hW
    refine w_compR (e := pN) w c1 hW ?_ ?_
    · intro Qy Qn k1 F1 H1 R1 q1 hx1 hW hy1 hn1
      have r1 := Rep.mono _ q1.g r1
      have w := Wf.id q1.f
      refine ⟨rfl, ?_⟩
      refine c_yes ?_
      refine e_call ?_
      refine a_cons ?_
      refine e_call ?_
      refine a_val (v := v1) (val_var rfl) ?_
      refine a_val (v := (.int ((k1 : Nat) : Int))) (val_var rfl) ?_
      refine a_nil ?_
      refine ⟨F1, (v1), (script1), (k1), _, rfl, w.f, r1, hW, ?_⟩
      intro z1 hW F2 H2 s1
      replace r1 := Rep.mono _ s1.g r1
      replace w := w.tr s1
      refine a_cons ?_
      refine e_op ?_
      refine e_call ?_
      refine a_val (v := v1) (val_var rfl) ?_
      refine a_val (v := (.int ((3 : Nat) : Int))) val_c ?_
      refine a_nil ?_
      refine ⟨F2, (v1), (script1), (3), _, rfl, w.f, r1, hW, ?_⟩
      intro z2 hW F3 H3 s2
      replace r1 := Rep.mono _ s2.g r1
      replace w := w.tr s2
      obtain ⟨c2, hW⟩ := hW
      refine e_val (v := (.int ((2 ^ k1 : Nat) : Int))) (vn_one val_c (val_var rfl) c2) ?_
      obtain ⟨c3, hW⟩ := hW
      refine rv2 (z := (.int (z2 / ((2 ^ k1 : Nat) : Int)))) (vi_div val_c val_c c3) ?_
      refine a_nil ?_
      refine ⟨F3, (z1), (z2 / ((2 ^ k1 : Nat) : Int)), _, rfl, w.f, hW, ?_⟩
      intro z3 hW F4 H4 s3
      replace r1 := Rep.mono _ s3.g r1
      replace w := w.tr s3
      exact hy1 _ _ _ _ w rfl hW
    intro p1 ys1 F5 H5 hp1 s4 x1 hW
    replace r1 := Rep.mono _ s4.g r1
    replace w := w.tr s4
    obtain ⟨F6, w1, g1, r2, fz1⟩ := x1.frzE w
    replace r1 := Rep.mono _ g1 r1
    replace w := w1
    refine hN1 _ _ ?_
    refine q_sq fun N2 hN2 => ?_
    refine f_LE ?_
    refine e_op ?_
    refine e_val (v := (.ref p1)) (val_var rfl) ?_
    refine e_lst ?_
    obtain ⟨x2, hx2_1, hW⟩ := hW
    obtain ⟨_, rfl, ix1⟩ := ix_L (K := K) r2 w.f hx2_1
    obtain ⟨x3, hx3_1, hW⟩ := hW
    obtain ⟨_, rfl, ix2⟩ := ix_L (K := K) r2 w.f hx3_1
    refine a_val (v := (.int ((x2 ^^^ x3 : Nat) : Int))) (vn_xor (ix1 (val_var rfl) val_c) (ix2 (val_var rfl) val_c)) ?_
    refine a_val (v := (.int ((0 : Nat) : Int))) val_c ?_
    refine a_val (v := (.int ((2 ^ 299 : Nat) : Int))) (vn_one val_c val_c (by decide)) ?_
    refine a_nil ?_
    refine n_lstX (e := pN) (xs := [x2 ^^^ x3, 0, 2 ^ 299]) (vs := [(.int ((x2 ^^^ x3 : Nat) : Int)), (.int ((0 : Nat) : Int)), (.int ((2 ^ 299 : Nat) : Int))]) (show All pN _ [(.int ((x2 ^^^ x3 : Nat) : Int)), (.int ((0 : Nat) : Int)), (.int ((2 ^ 299 : Nat) : Int))] [x2 ^^^ x3, 0, 2 ^ 299] from ⟨rfl, ⟨rfl, ⟨rfl, trivial⟩⟩⟩) (show 3 < 1000000 from by decide) w ?_
    intro p2 H6 hp2 s5 x4
    replace r1 := Rep.mono _ s5.g r1
    replace r2 := Rep.mono _ s5.g r2
    replace w := w.tr s5
    obtain ⟨F7, w2, g2, r3, fz2⟩ := x4.frzE w
    replace r1 := Rep.mono _ g2 r1
    replace r2 := Rep.mono _ g2 r2
    replace w := w2
    obtain ⟨c4, hW⟩ := hW
    refine n_cat r2 r3 w c4 ?_
    intro p3 H7 hp3 s6 x5
    replace r1 := Rep.mono _ s6.g r1
    replace r2 := Rep.mono _ s6.g r2
    replace r3 := Rep.mono _ s6.g r3
    replace w := w.tr s6
    obtain ⟨F8, w3, g3, r4, fz3⟩ := x5.frzE w
    replace r1 := Rep.mono _ g3 r1
    replace r2 := Rep.mono _ g3 r2
    replace r3 := Rep.mono _ g3 r3
    replace w := w3
    refine w_forL (S := Unit) (fun _ σ' F' H' => ∃ (o1 : Option V), Wf F0 H0 F' H' ∧ Ex F8 F' ∧ σ' = [some v1, some (.ref p1), none, o1, none, none, none, none]) r4 hW ⟨_, w, Ex.rfl', rfl⟩ (fun s σ' F' H' hI => by obtain ⟨_, w', gx', _⟩ := hI; exact ⟨gx', w'.f⟩) w.f ?_ ?_
    · intro N3 Bk1 mask_here1 u2 s7 σ' F9 H8 nx1 bk1 hI1 hx2 ru2 hW hN3 hB1
      obtain ⟨o1, w, gx1, rfl⟩ := hI1
      have r1 := Rep.mono _ gx1 r1
      have r2 := Rep.mono _ gx1 r2
      have r3 := Rep.mono _ gx1 r3
      have r4 := Rep.mono _ gx1 r4
      obtain rfl : u2 = (.int ((mask_here1 : Nat) : Int)) := ru2
      refine g_name ?_
      refine a_ifE ?_
      refine e_tNot ?_
      refine e_tB ?_
      refine e_call ?_
      refine a_val (v := (.int ((mask_here1 : Nat) : Int))) (val_var rfl) ?_
      refine a_nil ?_
      refine ⟨F9, (mask_here1), _, rfl, w.f, hW, ?_⟩
      intro z4 hW F10 H9 s8
      replace r1 := Rep.mono _ s8.g r1
      replace r2 := Rep.mono _ s8.g r2
      replace w := w.tr s8
      replace gx1 := Ex.tr gx1 s8.g
      refine bl_v ?_
      refine bb_ifn (fun hc1 => ?_) (fun hc1 => ?_)
      · have hW := ifP hW hc1
        exact hN3 () _ _ _ ⟨_, w, gx1, rfl⟩ hW
      · have hW := ifN hW hc1
        refine a_ret (v := (.bl (false))) val_c ?_
        exact hQ _ hW _ _ w
    · intro s9 σ' F11 H10 hI2 hW
      obtain ⟨o1, w, gx2, rfl⟩ := hI2
      have r1 := Rep.mono _ gx2 r1
      have r2 := Rep.mono _ gx2 r2
      have r3 := Rep.mono _ gx2 r3
      have r4 := Rep.mono _ gx2 r4
      refine hN2 _ _ ?_
      refine q_sq fun N4 hN4 => ?_
      refine a_ifE ?_
      refine e_tT ?_
      refine e_op ?_
      refine e_call ?_
      obtain ⟨x6, hx6_1, hW⟩ := hW
      obtain ⟨_, rfl, ix3⟩ := ix_L (K := K) r2 w.f hx6_1
      obtain ⟨x7, hx7_1, hW⟩ := hW
      obtain ⟨_, rfl, ix4⟩ := ix_L (K := K) r2 w.f hx7_1
      refine a_val (v := (.int ((x6 ^^^ x7 : Nat) : Int))) (vn_xor (ix3 (val_var rfl) val_c) (ix4 (val_var rfl) val_c)) ?_
      refine a_nil ?_
      refine ⟨F11, (x6 ^^^ x7), _, rfl, w.f, hW, ?_⟩
      intro z5 hW F12 H11 s10
      replace r1 := Rep.mono _ s10.g r1
      replace r2 := Rep.mono _ s10.g r2
      replace w := w.tr s10
      replace gx2 := Ex.tr gx2 s10.g
      refine e_op ?_
      refine e_call ?_
      obtain ⟨x8, hx8_1, hW⟩ := hW
      obtain ⟨_, rfl, ix5⟩ := ix_L (K := K) r2 w.f hx8_1
      refine a_val (v := (.int ((x8 : Nat) : Int))) (ix5 (val_var rfl) val_c) ?_
      refine a_nil ?_
      refine ⟨F12, (x8), _, rfl, w.f, hW, ?_⟩
      intro z6 hW F13 H12 s11
      replace r1 := Rep.mono _ s11.g r1
      replace r2 := Rep.mono _ s11.g r2
      replace w := w.tr s11
      replace gx2 := Ex.tr gx2 s11.g
      refine e_call ?_
      obtain ⟨x9, hx9_1, hW⟩ := hW
      obtain ⟨_, rfl, ix6⟩ := ix_L (K := K) r2 w.f hx9_1
      refine a_val (v := (.int ((x9 : Nat) : Int))) (ix6 (val_var rfl) val_c) ?_
      refine a_nil ?_
      refine ⟨F13, (x9), _, rfl, w.f, hW, ?_⟩
      intro z7 hW F14 H13 s12
      replace r1 := Rep.mono _ s12.g r1
      replace r2 := Rep.mono _ s12.g r2
      replace w := w.tr s12
      replace gx2 := Ex.tr gx2 s12.g
      refine rv2 (z := .bl (decide (z6 = z7))) (c_eqB val_c val_c) ?_
      refine rv2T (b := decide (z5 ≠ (decide (z6 = z7)))) (c_neB val_c val_c) ?_
      refine b_if (fun hc2 => ?_) (fun hc2 => ?_)
      · have hW := ifP hW hc2
        refine a_ret (v := (.bl (false))) val_c ?_
        exact hQ _ hW _ _ w
      · have hW := ifN hW hc2
        refine hN4 _ _ ?_
        refine q_sq fun N5 hN5 => ?_
        refine a_asgE ?_
        refine c_LE ?_
        refine n_cutS (lo := (some 3)) (hi := (some 63)) r1 (val_var rfl) (po_s (n := 3) val_c) (po_s (n := 63) val_c) w ?_
        intro p4 H14 hp4 s13 x10
        replace r1 := Rep.mono _ s13.g r1
        replace r2 := Rep.mono _ s13.g r2
        replace w := w.tr s13
        obtain ⟨F15, w4, g4, r5, fz4⟩ := x10.frzE w
        replace r1 := Rep.mono _ g4 r1
        replace r2 := Rep.mono _ g4 r2
        replace w := w4
        obtain ⟨c5, hW⟩ := hW
        refine w_compL (e := pN) r5 w c5 hW ?_ ?_
        · intro Qy Qn cell_here1 u3 F16 H15 R2 q2 hx3 ru3 hW hy2 hn2
          have r1 := Rep.mono _ q2.g r1
          have r2 := Rep.mono _ q2.g r2
          have r5 := Rep.mono _ q2.g r5
          have w := Wf.id q2.f
          obtain rfl : u3 = (.int (cell_here1)) := ru3
          refine ⟨rfl, ?_⟩
          refine c_yes ?_
          refine e_op ?_
          refine e_val (v := (.int (cell_here1))) (val_var rfl) ?_
          refine e_op ?_
          refine e_lst ?_
          refine a_val (v := (.int ((300 : Nat) : Int))) val_c ?_
          refine a_val (v := (.int ((10 : Nat) : Int))) val_c ?_
          refine a_nil ?_
          refine n_lstX (e := pN) (xs := [300, 10]) (vs := [(.int ((300 : Nat) : Int)), (.int ((10 : Nat) : Int))]) (show All pN _ [(.int ((300 : Nat) : Int)), (.int ((10 : Nat) : Int))] [300, 10] from ⟨rfl, ⟨rfl, trivial⟩⟩) (show 2 < 1000000 from by decide) w ?_
          intro p5 H16 hp5 s14 x11
          replace r1 := Rep.mono _ s14.g r1
          replace r2 := Rep.mono _ s14.g r2
          replace r5 := Rep.mono _ s14.g r5
          replace w := w.tr s14
          refine e_op ?_
          refine e_op ?_
          refine e_call ?_
          refine a_val (v := v1) (val_var rfl) ?_
          refine a_val (v := (.int ((3 : Nat) : Int))) val_c ?_
          refine a_nil ?_
          refine ⟨F16, (v1), (script1), (3), _, rfl, w.f, r1, hW, ?_⟩
          intro z8 hW F17 H17 s15
          replace r1 := Rep.mono _ s15.g r1
          replace r2 := Rep.mono _ s15.g r2
          replace r5 := Rep.mono _ s15.g r5
          replace x11 := x11.step s15
          replace w := w.tr s15
          refine e_val (v := (.int ((8 : Nat) : Int))) val_c ?_
          refine rv2 (z := (.int (z8 / ((8 : Nat) : Int)))) (vi_div val_c val_c ⟨by decide, by decide +kernel⟩) ?_
          refine e_val (v := (.int ((2 : Nat) : Int))) val_c ?_
          refine rv2 (z := (.int ((modN (z8 / ((8 : Nat) : Int)) 2 : Nat) : Int))) (vm_mod val_c val_c (by decide)) ?_
          obtain ⟨x12, hx12_1, hW⟩ := hW
          obtain ⟨_, rfl, ix7⟩ := ix_X (K := K) x11 hx12_1
          refine rv2 (z := (.int ((x12 : Nat) : Int))) (ix7 val_c val_c) ?_
          obtain ⟨c6, hW⟩ := hW
          refine rv2 (z := (.int ((modN cell_here1 x12 : Nat) : Int))) (vm_mod val_c val_c c6) ?_
          exact hy2 _ _ _ _ w rfl hW
        intro p6 ys2 F18 H18 hp6 s16 x13 hW
        replace r1 := Rep.mono _ s16.g r1
        replace r2 := Rep.mono _ s16.g r2
        replace r5 := Rep.mono _ s16.g r5
        replace w := w.tr s16
        obtain ⟨F19, w5, g5, r7, fz5⟩ := x13.frzE w
        replace r1 := Rep.mono _ g5 r1
        replace r2 := Rep.mono _ g5 r2
        replace r5 := Rep.mono _ g5 r5
        replace w := w5
        refine hN5 _ _ ?_
        refine q_sq fun N6 hN6 => ?_
        refine a_asgE ?_
        refine e_cb ?_
        refine a_val (v := (.ref p6)) (val_var rfl) ?_
        refine a_nil ?_
        refine n_listX r7 w ?_
        intro p7 H19 hp7 s17 x14
        replace r1 := Rep.mono _ s17.g r1
        replace r2 := Rep.mono _ s17.g r2
        replace r7 := Rep.mono _ s17.g r7
        replace w := w.tr s17
        obtain ⟨F20, w6, g6, r8, fz6⟩ := x14.frzE w
        replace r1 := Rep.mono _ g6 r1
        replace r2 := Rep.mono _ g6 r2
        replace r7 := Rep.mono _ g6 r7
        replace w := w6
        refine hN6 _ _ ?_
        refine q_sq fun N7 hN7 => ?_
        refine a_asgE ?_
        refine e_call ?_
        refine a_val (v := (.ref p7)) (val_var rfl) ?_
        refine a_nil ?_
        refine ⟨F20, ((.ref p7)), (ys2), _, rfl, w.f, r8, hW, ?_⟩
        intro z9 hW F21 H20 s18
        replace r1 := Rep.mono _ s18.g r1
        replace r2 := Rep.mono _ s18.g r2
        replace r7 := Rep.mono _ s18.g r7
        replace r8 := Rep.mono _ s18.g r8
        replace w := w.tr s18
        refine hN7 _ _ ?_
        refine a_retE ?_
        refine e_jnV hW (fun b F' H' => b = b ∧ Wf F0 H0 F' H' ∧ Ex F21 F') ?_ ?_
        · intro N8 hN8 hW
          have gx3 : Ex F21 F21 := Ex.rfl'
          refine e_AndV ?_
          refine e_val (v := .bl (decide (ys2 = ys2))) (c_eqD (K := K) (e := (pL pN)) (val_var rfl) (val_var rfl) w.f r8 w.f r7) ?_
          refine bl_if ?_
          refine b_if (fun hc3 => ?_) (fun hc3 => ?_)
          · have hW := ifP hW hc3
            refine e_AndV ?_
            refine e_call ?_
            refine a_val (v := (.int ((z9 : Nat) : Int))) (val_var rfl) ?_
            refine a_nil ?_
            refine ⟨F21, (z9), _, rfl, w.f, hW, ?_⟩
            intro z10 hW F22 H21 s19
            replace r1 := Rep.mono _ s19.g r1
            replace r2 := Rep.mono _ s19.g r2
            replace r7 := Rep.mono _ s19.g r7
            replace r8 := Rep.mono _ s19.g r8
            replace w := w.tr s19
            replace gx3 := Ex.tr gx3 s19.g
            refine bl_if ?_
            refine bb_if (fun hc4 => ?_) (fun hc4 => ?_)
            · have hW := ifP hW hc4
              refine e_op ?_
              refine e_call ?_
              refine a_val (v := (.int ((z9 : Nat) : Int))) (val_var rfl) ?_
              refine a_nil ?_
              refine ⟨F22, (z9), _, rfl, w.f, hW, ?_⟩
              intro z11 hW p8 F23 H22 s20 x15
              replace x15 := x15.base w
              replace r1 := Rep.mono _ s20.g r1
              replace r2 := Rep.mono _ s20.g r2
              replace r7 := Rep.mono _ s20.g r7
              replace r8 := Rep.mono _ s20.g r8
              replace w := w.tr s20
              replace gx3 := Ex.tr gx3 s20.g
              refine e_call ?_
              refine a_val (v := (.ref p6)) (val_var rfl) ?_
              refine a_nil ?_
              refine ⟨F23, ((.ref p6)), (ys2), _, rfl, w.f, r7, hW, ?_⟩
              intro z12 hW p9 F24 H23 s21 x16
              have ne1 := x15.ne x16.zero
              replace x16 := x16.base w
              replace r1 := Rep.mono _ s21.g r1
              replace r2 := Rep.mono _ s21.g r2
              replace r7 := Rep.mono _ s21.g r7
              replace r8 := Rep.mono _ s21.g r8
              replace x15 := x15.step s21
              replace w := w.tr s21
              replace gx3 := Ex.tr gx3 s21.g
              obtain ⟨F25, w7, g7, r9, fz7⟩ := x15.frzE w
              replace r1 := Rep.mono _ g7 r1
              replace r2 := Rep.mono _ g7 r2
              replace r7 := Rep.mono _ g7 r7
              replace r8 := Rep.mono _ g7 r8
              replace x16 := x16.frzO fz7 (Ne.symm ne1) g7
              replace w := w7
              replace gx3 := Ex.tr gx3 g7
              obtain ⟨F26, w8, g8, r10, fz8⟩ := x16.frzE w
              replace r1 := Rep.mono _ g8 r1
              replace r2 := Rep.mono _ g8 r2
              replace r7 := Rep.mono _ g8 r7
              replace r8 := Rep.mono _ g8 r8
              replace r9 := Rep.mono _ g8 r9
              replace w := w8
              replace gx3 := Ex.tr gx3 g8
              refine rv2 (z := .bl (decide (z11 = z12))) (c_eqD (K := K) (e := (pL pN)) val_c val_c w.f r9 w.f r10) ?_
              exact hN8 (decide (z11 = z12)) _ _ ⟨rfl, w, gx3⟩ hW
            · have hW := ifN hW hc4
              exact hN8 false _ _ ⟨rfl, w, gx3⟩ hW
          · have hW := ifN hW hc3
            exact hN8 false _ _ ⟨rfl, w, gx3⟩ hW
        intro b1 F27 H24 hI3 hW
        obtain ⟨_, w, gx4⟩ := hI3
        have r1 := Rep.mono _ gx4 r1
        have r2 := Rep.mono _ gx4 r2
        have r7 := Rep.mono _ gx4 r7
        have r8 := Rep.mono _ gx4 r8
        exact hQ _ hW _ _ w
end My
namespace My
open Wk
theorem w_even {n : Nat} {R : Bool → Prop} (h : R (!par n)) : W_even n R := by
  refine whileW_ind (fun s => s.1 ≤ 1 ∧ xor (decide (s.1 = 1)) (par s.2) = par n) (fun s => s.2) ⟨by show 0 ≤ 1; decide, by simp⟩ ?_
  rintro ⟨many, number⟩ nx ⟨h1, h2⟩ hn
  by_cases hp : 0 < number
  · show if decide (0 < number) = true then _ else _
    rw [if_pos (decide_eq_true hp)]
    rintro _ rfl _ rfl
    refine hn _ ⟨?_, ?_⟩ ?_
    · show many ^^^ (number &&& 1) ≤ 1
      rw [Nat.and_one_is_mod]
      have : many = 0 ∨ many = 1 := by simp at h1; omega
      rcases Nat.mod_two_eq_zero_or_one number with e | e <;> rcases this with f | f <;> rw [e, f] <;> decide
    · show xor (decide (many ^^^ (number &&& 1) = 1)) (par (number >>> 1)) = par n
      rw [← h2, Nat.and_one_is_mod, par_step number, Nat.shiftRight_eq_div_pow, Nat.testBit_zero]
      simp only [Nat.pow_one]
      have : many = 0 ∨ many = 1 := by simp at h1; omega
      rcases Nat.mod_two_eq_zero_or_one number with e | e <;> rcases this with f | f <;> simp [e, f]
    · show number >>> 1 < number
      rw [Nat.shiftRight_eq_div_pow]; omega
  · show if decide (0 < number) = true then _ else _
    rw [if_neg (by simpa using hp)]
    have : number = 0 := by omega
    subst this
    show R (decide (many = 0))
    simp [par_zero] at h2
    rw [← h2] at h
    have e : many = 0 ∨ many = 1 := by simp at h1; omega
    rcases e with f | f <;> subst f <;> simpa using h
theorem w_bits_of {k n : Nat} {R : List Nat → Prop} (hk : k < 1000000) (hn : n < 2 ^ k) (h : R (bl k n)) : W_bits_of n R := by
  refine whileW_ind (fun s => s.2.1 = n >>> s.2.2 ∧ s.1 = bl s.2.2 n ∧ s.2.2 ≤ k) (fun s => k - s.2.2) ⟨rfl, rfl, Nat.zero_le _⟩ ?_
  rintro ⟨found, mask, place⟩ nx ⟨(rfl : mask = n >>> place), (rfl : found = bl place n), (h3 : place ≤ k)⟩ hx
  show if decide (0 < n >>> place) = true then _ else _
  by_cases hp : 0 < n >>> place
  · rw [if_pos (decide_eq_true hp)]
    have hl : place < k := by
      refine Nat.lt_of_not_le fun z => ?_
      rw [Nat.shiftRight_eq_div_pow, Nat.div_eq_of_lt (Nat.lt_of_lt_of_le hn (Nat.pow_le_pow_right (by decide) z))] at hp
      exact Nat.lt_irrefl _ hp
    have nxt : ∀ (s' : List Nat × Nat × Nat), s' = (bl (place + 1) n, n >>> (place + 1), place + 1) → nx s' := fun s' e => hx s' (by subst e; exact ⟨rfl, rfl, hl⟩) (by
      subst e
      show k - (place + 1) < k - place
      omega)
    have e1 : (n >>> place &&& 1 = 1) ↔ n.testBit place = true := by
      rw [Nat.and_one_is_mod, Nat.testBit_eq_decide_div_mod_eq, Nat.shiftRight_eq_div_pow, decide_eq_true_iff]
    have e2 : n >>> place >>> 1 = n >>> (place + 1) := (Nat.shiftRight_add ..).symm
    show if _ then _ else _
    by_cases hb : n.testBit place = true
    · rw [if_pos (e1.mpr hb)]
      refine ⟨Nat.lt_of_le_of_lt (bl_len _ _) (Nat.lt_of_le_of_lt h3 hk), ?_⟩
      rintro _ rfl _ rfl
      exact nxt _ (by rw [bl_snoc, if_pos hb, e2])
    · rw [if_neg (fun z => hb (e1.mp z))]
      rintro _ rfl _ rfl
      exact nxt _ (by rw [bl_snoc, if_neg hb, e2, List.append_nil])
  · rw [if_neg (by simpa using hp)]
    show R (bl place n)
    rw [← bl_more h3 (Nat.eq_zero_of_not_pos hp)]; exact h
theorem w_mask_of {ps : List Nat} {R : Nat → Prop} (hp : ∀ p ∈ ps, p < 100000000) (h : R (mof ps)) : W_mask_of ps R :=
  forW_fold (fun m p => m ^^^ 2 ^ p) (fun x hx s nx bk hn => ⟨hp x hx, fun _ e => by subst e; exact hn⟩) h
def cellV (s : List Int) (k : Nat) : Int := if h : k < s.length then s[k] else ((41 * k + 3 : Nat) : Int)
theorem w_cell {s : List Int} {k : Nat} {R : Int → Prop} (h : R (cellV s k)) : W_cell s k R := by
  unfold W_cell
  unfold cellV at h
  by_cases e : k < s.length
  · rw [dif_pos e] at h; rw [if_pos e]; exact ⟨_, List.getElem?_eq_getElem e, h⟩
  · rw [dif_neg e] at h; rw [if_neg e]; exact h
def mixN (c : Int) (k : Nat) : Nat := (((modN c 2147483647) * 48271) + (7919 * k) + 11) % 2147483647
def mixV (c : Int) (k : Nat) : Nat := ((mixN c k * mixN c k % 2147483629) * ((mixN c k * mixN c k % 2147483629 + 48271 * k) + 7)) % 2147483587
theorem w_mix {c : Int} {k : Nat} {R : Nat → Prop} (h : R (mixV c k)) : W_mix c k R := by
  rintro _ rfl
  have b : mixN c k < 2 ^ 64 := Nat.lt_trans (Nat.mod_lt _ (by decide)) (by decide)
  refine ⟨.inl b, ?_⟩
  rintro _ rfl
  exact ⟨.inl (Nat.lt_trans (Nat.mod_lt _ (by decide)) (by decide)), h⟩
def maskV (c o : Int) : Nat := if modN o 2 = 0 then modN c (2 ^ 300) else (List.range (modN c 7)).foldl (fun m k => m ||| 2 ^ (mixV c k % 300)) 0
theorem w_mask {c o : Int} {R : Nat → Prop} (h : R (maskV c o)) : W_mask c o R := by
  unfold W_mask
  unfold maskV at h
  by_cases e : modN o 2 = 0
  · rw [if_pos e] at h ⊢; exact h
  · rw [if_neg e] at h ⊢
    exact ⟨Nat.lt_trans (modN_lt (by decide)) (by decide), forW_fold (fun m k => m ||| 2 ^ (mixV c k % 300)) (fun x hx s nx bk hn => w_mix ⟨Nat.lt_trans (Nat.mod_lt _ (by decide)) (by decide), fun _ e => by subst e; exact hn⟩) h⟩
theorem maskV_lt (c o : Int) : maskV c o < 2 ^ 300 := by
  unfold maskV
  by_cases e : modN o 2 = 0
  · rw [if_pos e]; exact modN_lt (Nat.two_pow_pos _)
  · rw [if_neg e]
    suffices h : ∀ (l : List Nat) (m : Nat), m < 2 ^ 300 → l.foldl (fun m k => m ||| 2 ^ (mixV c k % 300)) m < 2 ^ 300 from h _ _ (Nat.two_pow_pos _)
    intro l
    induction l with
    | nil => exact fun m h => h
    | cons x l ih => exact fun m h => ih _ (Nat.or_lt_two_pow h (Nat.pow_lt_pow_right (by decide) (Nat.mod_lt _ (by decide))))
theorem w_places {n : Nat} {R : List Nat → Prop} (h : R (bl 300 n)) : W_places n R := by
  refine ⟨by decide, compW_filter n.testBit (fun k hk kk h1 h2 => ?_) h⟩
  have hk' : k < 300 := List.mem_range.mp hk
  refine ⟨by omega, NDiv_pow (by omega), ?_⟩
  have e := Nat.testBit_eq_decide_div_mod_eq (x := n) (i := k)
  by_cases q : n / 2 ^ k % 2 = 1
  · rw [if_pos q]; exact h1 (by rw [e, decide_eq_true q])
  · rw [if_neg q]; exact h2 (by rw [e, decide_eq_false q])
theorem w_whole {n : Nat} {R : Bool → Prop} (h : R true) : W_whole n R := by
  unfold W_whole
  rw [show decide (True ∧ ¬ False) = true from rfl]; exact h
theorem w_odd_ones {ps : List Nat} {R : List Nat → Prop} (hp : ps.length < 1000000) (h : R ((List.range 300).filter fun j => decide (ps.count j % 2 = 1))) : W_odd_ones ps R := by
  refine forW_ind (fun pre (d : List (Nat × Int)) => d.length ≤ pre.length ∧ ∀ j, (valT d j).getD ((0 : Nat) : Int) = ((pre.count j % 2 : Nat) : Int)) ⟨Nat.le_refl _, fun j => rfl⟩ ?_ ?_
  · rintro pre x post d nx bk e ⟨hl, hd⟩ hn _
    have : pre.length + (post.length + 1) = ps.length := by rw [e, List.length_append, List.length_cons]
    refine ⟨by omega, hn _ ⟨?_, fun j => ?_⟩⟩
    · rw [List.length_append]
      exact Nat.le_trans putT_len (Nat.succ_le_succ hl)
    · rw [valT_putT, List.count_append, hd x]
      by_cases q : x = j
      · subst q
        rw [if_pos rfl, List.count_singleton_self]
        show ((1 : Nat) : Int) - _ = _
        omega
      · rw [if_neg q, hd j, List.count_singleton]
        simp [q]
  · rintro d ⟨_, hd⟩
    refine ⟨by decide, compW_filter (fun j => decide (ps.count j % 2 = 1)) (fun k hk kk h1 h2 => ?_) h⟩
    by_cases q : ps.count k % 2 = 1
    · rw [if_pos (by rw [hd k, q])]; exact h1 (decide_eq_true q)
    · rw [if_neg (fun z => q (by rw [hd k] at z; omega))]; exact h2 (decide_eq_false q)
theorem w_right {n : Nat} {R : Bool → Prop} (hn : n < 2 ^ 300) (h : R true) : W_right n R := by
  refine w_places (w_bits_of (k := 300) (by decide) hn ?_)
  have hb : ∀ p ∈ bl 300 n, p < 100000000 := fun p hp => by have := (mem_bl.mp hp).1; omega
  have hl : (bl 300 n).length ≤ 300 := bl_len _ _
  show if _ then _ else _
  rw [if_neg (fun z => z rfl)]
  refine ⟨by omega, compW_filter (fun _ => false) (fun k _ kk h1 h2 => w_whole ?_) ?_⟩
  · rw [if_pos rfl]; exact h2 rfl
  rw [show (bl 300 n).filter (fun _ => false) = [] from List.filter_eq_nil_iff.mpr fun _ _ z => by cases z]
  show if _ then _ else _
  rw [if_neg (by simp)]
  refine jnI (w_even (w_even ?_))
  show if _ then _ else _
  rw [if_neg (by
    rw [par_bl hn]
    rcases Nat.mod_two_eq_zero_or_one (bl 300 n).length with e | e <;> simp [e])]
  refine w_mask_of (fun p hp => hb p (List.mem_reverse.mp hp)) ⟨by omega, jnI (w_whole ?_)⟩
  rw [if_pos rfl, mof_reverse, mof_bl hn, if_neg (fun z => z rfl)]
  refine ⟨by omega, by rw [List.length_append]; omega, w_mask_of (fun p hp => ?_) ?_⟩
  · rcases List.mem_append.mp hp with q | q
    · rcases List.mem_append.mp q with q | q <;> exact hb p q
    · exact hb p q
  rw [mof_append, mof_append, mof_bl hn, Nat.xor_self, Nat.zero_xor, if_neg (fun z => z rfl)]
  refine ⟨by omega, w_mask_of (fun p hp => by rcases List.mem_append.mp hp with q | q <;> exact hb p q) ?_⟩
  rw [mof_append, Nat.xor_self]
  show if _ then _ else _
  rw [if_neg (by simp)]
  refine w_bits_of (k := 300) (by decide) hn ?_
  simpa using h
theorem w_law {s : List Int} (hs : s.length ≤ 63) {R : Bool → Prop} (h : R true) : W_law s R := by
  refine ⟨by decide, compW_map (fun k => maskV (cellV s k) (cellV s 3 / ((2 ^ k : Nat) : Int))) (fun k hk kk q => ?_) ?_⟩
  · have := List.mem_range.mp hk
    exact w_cell (w_cell ⟨by omega, NDiv_pow (by omega), w_mask q⟩)
  have e : (List.range 3) = [0, 1, 2] := rfl
  rw [e]
  generalize hf : (fun k => maskV (cellV s k) (cellV s 3 / ((2 ^ k : Nat) : Int))) = f
  have fl : ∀ k, f k < 2 ^ 300 := fun k => by rw [← hf]; exact maskV_lt _ _
  refine ⟨f 0, rfl, f 1, rfl, (by show 6 < 1000000; decide), forW_unit (fun x hx nx bk q => w_right ?_ ?_) ?_⟩
  · simp only [List.map_cons, List.map_nil, List.cons_append, List.nil_append, List.mem_cons, List.not_mem_nil, or_false] at hx
    rcases hx with rfl | rfl | rfl | rfl | rfl | rfl
    · exact fl _
    · exact fl _
    · exact fl _
    · exact Nat.xor_lt_two_pow (fl _) (fl _)
    · exact Nat.two_pow_pos _
    · exact Nat.pow_lt_pow_right (by decide) (by decide)
  · rw [if_pos rfl]; exact q
  refine ⟨f 0, rfl, f 1, rfl, w_even ⟨f 0, rfl, w_even ⟨f 1, rfl, w_even ?_⟩⟩⟩
  rw [if_neg (by rw [par_xor]; cases par (f 0) <;> cases par (f 1) <;> simp)]
  have hc : (cutT s (some 3) (some 63)).length ≤ 63 := by
    show ((s.drop 3).take (63 - 3)).length ≤ 63
    rw [List.length_take, List.length_drop]; omega
  generalize cutT s (some 3) (some 63) = cs at hc ⊢
  generalize hm : [300, 10][modN (cellV s 3 / ((8 : Nat) : Int)) 2]? = om
  obtain ⟨m, rfl, hm1, hm2⟩ : ∃ m, om = some m ∧ 0 < m ∧ m ≤ 300 := by
    have : modN (cellV s 3 / ((8 : Nat) : Int)) 2 = 0 ∨ modN (cellV s 3 / ((8 : Nat) : Int)) 2 = 1 := by
      have := modN_lt (i := cellV s 3 / ((8 : Nat) : Int)) (show 0 < 2 by decide)
      omega
    rcases this with z | z <;> rw [z] at hm <;> subst hm
    · exact ⟨300, rfl, by decide, by decide⟩
    · exact ⟨10, rfl, by decide, by decide⟩
  refine ⟨by omega, compW_map (fun c => modN c m) (fun c _ kk q => w_cell ⟨m, hm, hm1, q⟩) ?_⟩
  have hl : (cs.map fun c => modN c m).length < 1000000 := by rw [List.length_map]; omega
  have hb : ∀ p ∈ cs.map fun c => modN c m, p < 300 := fun p hp => by
    obtain ⟨c, _, rfl⟩ := List.mem_map.mp hp
    exact Nat.lt_of_lt_of_le (modN_lt hm1) hm2
  generalize (cs.map fun c => modN c m) = ps at hl hb ⊢
  refine w_mask_of (fun p hp => by have := hb p hp; omega) ?_
  refine jnI ?_
  rw [if_pos rfl]
  refine w_whole ?_
  rw [if_pos rfl]
  refine w_places (w_odd_ones hl ?_)
  have e2 : bl 300 (mof ps) = (List.range 300).filter fun j => decide (ps.count j % 2 = 1) := List.filter_congr fun j _ => mof_bit ps j
  rw [e2, decide_eq_true rfl]; exact h
end My
namespace My
open PySem L2 Wk
theorem all_mk {l : PySem.W.OpenLaw} {w : World} {K : PySem.W.Frag} {h : Heap} {mg : Str → Option Value} {fa f_even f_bits_of f_mask_of f_cell f_mix f_mask f_places f_whole f_odd_ones f_right f_law : Addr} (X : K.In h) (G : h.Ns mainGlobals mg) (hfa : mg "law" = some (.ref fa))
    {oc_even kV_even dc_even pm_even cd_even ct_even : Value} {od_even an_even : Option Addr} {sl_even : Array (Option Value)} {oc_bits_of kV_bits_of dc_bits_of pm_bits_of cd_bits_of ct_bits_of : Value} {od_bits_of an_bits_of : Option Addr} {sl_bits_of : Array (Option Value)} {oc_mask_of kV_mask_of dc_mask_of pm_mask_of cd_mask_of ct_mask_of : Value} {od_mask_of an_mask_of : Option Addr} {sl_mask_of : Array (Option Value)} {oc_cell kV_cell dc_cell pm_cell cd_cell ct_cell : Value} {od_cell an_cell : Option Addr} {sl_cell : Array (Option Value)} {oc_mix kV_mix dc_mix pm_mix cd_mix ct_mix : Value} {od_mix an_mix : Option Addr} {sl_mix : Array (Option Value)} {oc_mask kV_mask dc_mask pm_mask cd_mask ct_mask : Value} {od_mask an_mask : Option Addr} {sl_mask : Array (Option Value)} {oc_places kV_places dc_places pm_places cd_places ct_places : Value} {od_places an_places : Option Addr} {sl_places : Array (Option Value)} {oc_whole kV_whole dc_whole pm_whole cd_whole ct_whole : Value} {od_whole an_whole : Option Addr} {sl_whole : Array (Option Value)} {oc_odd_ones kV_odd_ones dc_odd_ones pm_odd_ones cd_odd_ones ct_odd_ones : Value} {od_odd_ones an_odd_ones : Option Addr} {sl_odd_ones : Array (Option Value)} {oc_right kV_right dc_right pm_right cd_right ct_right : Value} {od_right an_right : Option Addr} {sl_right : Array (Option Value)} {oc_law kV_law dc_law pm_law cd_law ct_law : Value} {od_law an_law : Option Addr} {sl_law : Array (Option Value)}
    (a_even : PySem.W.nsIn K mainGlobals "even" = some (some (.ref f_even))) (l_even : K.lookup f_even = some ⟨oc_even, od_even, .func (PySem.W.fnOf "even" "even" (defArgs s_even) (defBody s_even) (defScope s_even) .none kV_even dc_even pm_even an_even cd_even ct_even), sl_even⟩) (c_even : PySem.W.codeIn K cd_even "even" = true) (k_even : PySem.W.keepIn K (.ref f_even) = true)
    (a_bits_of : PySem.W.nsIn K mainGlobals "bits_of" = some (some (.ref f_bits_of))) (l_bits_of : K.lookup f_bits_of = some ⟨oc_bits_of, od_bits_of, .func (PySem.W.fnOf "bits_of" "bits_of" (defArgs s_bits_of) (defBody s_bits_of) (defScope s_bits_of) .none kV_bits_of dc_bits_of pm_bits_of an_bits_of cd_bits_of ct_bits_of), sl_bits_of⟩) (c_bits_of : PySem.W.codeIn K cd_bits_of "bits_of" = true) (k_bits_of : PySem.W.keepIn K (.ref f_bits_of) = true)
    (a_mask_of : PySem.W.nsIn K mainGlobals "mask_of" = some (some (.ref f_mask_of))) (l_mask_of : K.lookup f_mask_of = some ⟨oc_mask_of, od_mask_of, .func (PySem.W.fnOf "mask_of" "mask_of" (defArgs s_mask_of) (defBody s_mask_of) (defScope s_mask_of) .none kV_mask_of dc_mask_of pm_mask_of an_mask_of cd_mask_of ct_mask_of), sl_mask_of⟩) (c_mask_of : PySem.W.codeIn K cd_mask_of "mask_of" = true) (k_mask_of : PySem.W.keepIn K (.ref f_mask_of) = true)
    (a_cell : PySem.W.nsIn K mainGlobals "_law_cell" = some (some (.ref f_cell))) (l_cell : K.lookup f_cell = some ⟨oc_cell, od_cell, .func (PySem.W.fnOf "_law_cell" "_law_cell" (defArgs s_cell) (defBody s_cell) (defScope s_cell) .none kV_cell dc_cell pm_cell an_cell cd_cell ct_cell), sl_cell⟩) (c_cell : PySem.W.codeIn K cd_cell "_law_cell" = true) (k_cell : PySem.W.keepIn K (.ref f_cell) = true)
    (a_mix : PySem.W.nsIn K mainGlobals "_law_mix" = some (some (.ref f_mix))) (l_mix : K.lookup f_mix = some ⟨oc_mix, od_mix, .func (PySem.W.fnOf "_law_mix" "_law_mix" (defArgs s_mix) (defBody s_mix) (defScope s_mix) .none kV_mix dc_mix pm_mix an_mix cd_mix ct_mix), sl_mix⟩) (c_mix : PySem.W.codeIn K cd_mix "_law_mix" = true) (k_mix : PySem.W.keepIn K (.ref f_mix) = true)
    (a_mask : PySem.W.nsIn K mainGlobals "_law_mask" = some (some (.ref f_mask))) (l_mask : K.lookup f_mask = some ⟨oc_mask, od_mask, .func (PySem.W.fnOf "_law_mask" "_law_mask" (defArgs s_mask) (defBody s_mask) (defScope s_mask) .none kV_mask dc_mask pm_mask an_mask cd_mask ct_mask), sl_mask⟩) (c_mask : PySem.W.codeIn K cd_mask "_law_mask" = true) (k_mask : PySem.W.keepIn K (.ref f_mask) = true)
    (a_places : PySem.W.nsIn K mainGlobals "_law_places" = some (some (.ref f_places))) (l_places : K.lookup f_places = some ⟨oc_places, od_places, .func (PySem.W.fnOf "_law_places" "_law_places" (defArgs s_places) (defBody s_places) (defScope s_places) .none kV_places dc_places pm_places an_places cd_places ct_places), sl_places⟩) (c_places : PySem.W.codeIn K cd_places "_law_places" = true) (k_places : PySem.W.keepIn K (.ref f_places) = true)
    (a_whole : PySem.W.nsIn K mainGlobals "_law_whole" = some (some (.ref f_whole))) (l_whole : K.lookup f_whole = some ⟨oc_whole, od_whole, .func (PySem.W.fnOf "_law_whole" "_law_whole" (defArgs s_whole) (defBody s_whole) (defScope s_whole) .none kV_whole dc_whole pm_whole an_whole cd_whole ct_whole), sl_whole⟩) (c_whole : PySem.W.codeIn K cd_whole "_law_whole" = true) (k_whole : PySem.W.keepIn K (.ref f_whole) = true)
    (a_odd_ones : PySem.W.nsIn K mainGlobals "_law_odd_ones" = some (some (.ref f_odd_ones))) (l_odd_ones : K.lookup f_odd_ones = some ⟨oc_odd_ones, od_odd_ones, .func (PySem.W.fnOf "_law_odd_ones" "_law_odd_ones" (defArgs s_odd_ones) (defBody s_odd_ones) (defScope s_odd_ones) .none kV_odd_ones dc_odd_ones pm_odd_ones an_odd_ones cd_odd_ones ct_odd_ones), sl_odd_ones⟩) (c_odd_ones : PySem.W.codeIn K cd_odd_ones "_law_odd_ones" = true) (k_odd_ones : PySem.W.keepIn K (.ref f_odd_ones) = true)
    (a_right : PySem.W.nsIn K mainGlobals "_law_right" = some (some (.ref f_right))) (l_right : K.lookup f_right = some ⟨oc_right, od_right, .func (PySem.W.fnOf "_law_right" "_law_right" (defArgs s_right) (defBody s_right) (defScope s_right) .none kV_right dc_right pm_right an_right cd_right ct_right), sl_right⟩) (c_right : PySem.W.codeIn K cd_right "_law_right" = true) (k_right : PySem.W.keepIn K (.ref f_right) = true)
    (a_law : PySem.W.nsIn K mainGlobals "law" = some (some (.ref f_law))) (l_law : K.lookup f_law = some ⟨oc_law, od_law, .func (PySem.W.fnOf "law" "law" (defArgs s_law) (defBody s_law) (defScope s_law) .none kV_law dc_law pm_law an_law cd_law ct_law), sl_law⟩) (c_law : PySem.W.codeIn K cd_law "law" = true) (k_law : PySem.W.keepIn K (.ref f_law) = true)
    (z_bool : PySem.W.nsIn K mainGlobals "bool" = some none)
    (z_int : PySem.W.nsIn K mainGlobals "int" = some none)
    (z_isinstance : PySem.W.nsIn K mainGlobals "isinstance" = some none)
    (z_len : PySem.W.nsIn K mainGlobals "len" = some none)
    (z_list : PySem.W.nsIn K mainGlobals "list" = some none)
    (z_range : PySem.W.nsIn K mainGlobals "range" = some none)
    (z_reversed : PySem.W.nsIn K mainGlobals "reversed" = some none)
    : ∃ fd : FuncData, (∀ (s : Shared) (v : Value), BindsTo s fd ⟨[v], []⟩ [("_law_script", v)]) ∧ ∀ base : Heap, K.In base → base.Ns mainGlobals mg → FnOk l.prog w K mg base CX0 3 fa fd ["_law_script"] (sp_law K) := by
  have e := hfa.symm.trans (PySem.W.mg_of X G a_law)
  cases e
  have F_even := fun_mk (st := s_even) l_even c_even k_even
  have b_even := F_even.binds (ps := ["number"]) fun _ _ _ _ _ _ us hl => match us, hl with | [_], _ => rfl
  have F_bits_of := fun_mk (st := s_bits_of) l_bits_of c_bits_of k_bits_of
  have b_bits_of := F_bits_of.binds (ps := ["mask"]) fun _ _ _ _ _ _ us hl => match us, hl with | [_], _ => rfl
  have F_mask_of := fun_mk (st := s_mask_of) l_mask_of c_mask_of k_mask_of
  have b_mask_of := F_mask_of.binds (ps := ["places"]) fun _ _ _ _ _ _ us hl => match us, hl with | [_], _ => rfl
  have F_cell := fun_mk (st := s_cell) l_cell c_cell k_cell
  have b_cell := F_cell.binds (ps := ["_law_script", "_law_k"]) fun _ _ _ _ _ _ us hl => match us, hl with | [_, _], _ => rfl
  have F_mix := fun_mk (st := s_mix) l_mix c_mix k_mix
  have b_mix := F_mix.binds (ps := ["_law_cell_here", "_law_k"]) fun _ _ _ _ _ _ us hl => match us, hl with | [_, _], _ => rfl
  have F_mask := fun_mk (st := s_mask) l_mask c_mask k_mask
  have b_mask := F_mask.binds (ps := ["_law_cell_here", "_law_other"]) fun _ _ _ _ _ _ us hl => match us, hl with | [_, _], _ => rfl
  have F_places := fun_mk (st := s_places) l_places c_places k_places
  have b_places := F_places.binds (ps := ["_law_mask_here"]) fun _ _ _ _ _ _ us hl => match us, hl with | [_], _ => rfl
  have F_whole := fun_mk (st := s_whole) l_whole c_whole k_whole
  have b_whole := F_whole.binds (ps := ["_law_found"]) fun _ _ _ _ _ _ us hl => match us, hl with | [_], _ => rfl
  have F_odd_ones := fun_mk (st := s_odd_ones) l_odd_ones c_odd_ones k_odd_ones
  have b_odd_ones := F_odd_ones.binds (ps := ["_law_places_here"]) fun _ _ _ _ _ _ us hl => match us, hl with | [_], _ => rfl
  have F_right := fun_mk (st := s_right) l_right c_right k_right
  have b_right := F_right.binds (ps := ["_law_mask_here"]) fun _ _ _ _ _ _ us hl => match us, hl with | [_], _ => rfl
  have F_law := fun_mk (st := s_law) l_law c_law k_law
  refine ⟨PySem.W.fnOf "law" "law" (defArgs s_law) (defBody s_law) (defScope s_law) .none kV_law dc_law pm_law an_law cd_law ct_law, fun s v => .of_eq rfl, fun base _ _ => ?_⟩
  have C_even := ok_even (P := l.prog) (w0 := w) (base := base) F_even (PySem.W.mg_of X G a_even) b_even
  have C_bits_of := ok_bits_of (P := l.prog) (w0 := w) (base := base) F_bits_of (PySem.W.mg_of X G a_bits_of) b_bits_of
  have C_mask_of := ok_mask_of (P := l.prog) (w0 := w) (base := base) F_mask_of (PySem.W.mg_of X G a_mask_of) b_mask_of
  have C_cell := ok_cell (P := l.prog) (w0 := w) (base := base) F_cell (PySem.W.mg_of X G a_cell) b_cell (PySem.W.mg_none_of X G z_len)
  have C_mix := ok_mix (P := l.prog) (w0 := w) (base := base) F_mix (PySem.W.mg_of X G a_mix) b_mix
  have C_mask := ok_mask (P := l.prog) (w0 := w) (base := base) F_mask (PySem.W.mg_of X G a_mask) b_mask C_mix (PySem.W.mg_none_of X G z_range)
  have C_places := ok_places (P := l.prog) (w0 := w) (base := base) F_places (PySem.W.mg_of X G a_places) b_places (PySem.W.mg_none_of X G z_range)
  have C_whole := ok_whole (P := l.prog) (w0 := w) (base := base) F_whole (PySem.W.mg_of X G a_whole) b_whole (PySem.W.mg_none_of X G z_bool) (PySem.W.mg_none_of X G z_int) (PySem.W.mg_none_of X G z_isinstance)
  have C_odd_ones := ok_odd_ones (P := l.prog) (w0 := w) (base := base) F_odd_ones (PySem.W.mg_of X G a_odd_ones) b_odd_ones (PySem.W.mg_none_of X G z_range)
  have C_right := ok_right (P := l.prog) (w0 := w) (base := base) F_right (PySem.W.mg_of X G a_right) b_right C_places C_bits_of C_whole C_even C_mask_of (PySem.W.mg_none_of X G z_bool) (PySem.W.mg_none_of X G z_isinstance) (PySem.W.mg_none_of X G z_len) (PySem.W.mg_none_of X G z_list) (PySem.W.mg_none_of X G z_reversed)
  exact ok_law F_law C_cell C_mask C_right C_even C_mask_of C_whole C_places C_odd_ones (PySem.W.mg_none_of X G z_list) (PySem.W.mg_none_of X G z_range)
theorem walk {l : PySem.W.OpenLaw} {q : Program} {loose : List Str} {XP : (Str → Option Value) → Heap → Prop} {YP : World → Heap → Prop} {d : DefRec} {K : Params → PySem.W.Frag} (hn : l.most = some 63) (hdf : d.params.defaults = [])
    (hY : ∀ (w : World) (h : Heap), YP w h → (K w.params).In h)
    (F : ∀ (w : World) (mg : Str → Option Value) (fa : Addr) (h : Heap), (K w.params).In h → h.Ns mainGlobals mg → mg d.name = some (.ref fa) → ∃ fd : FuncData, (∀ (s : Shared) (u : Value), BindsTo s fd ⟨[u], []⟩ [("_law_script", u)]) ∧ ∀ base : Heap, (K w.params).In base → base.Ns mainGlobals mg → FnOk l.prog w (K w.params) mg base CX0 3 fa fd ["_law_script"] (sp_law (K w.params))) :
    PySem.W.WalkO q loose XP YP l.row.toRowW d [] (fun f vs => PySem.call f vs) :=
  L2.walk_of (n := 63) (k := 3) (x := "_law_script") (CX := fun _ => CX0) (sp := fun w => sp_law (K w.params)) hn (by decide) hdf ⟨rfl, by decide, by decide⟩ hY F (fun _ H a ns hl _ hS => ⟨H, .ref a, ns, fun b => b = true, rfl, Ex.rfl', ⟨a, rfl, hS⟩, w_law hl rfl, fun z hz _ _ _ => by subst hz; rfl⟩) fun _ _ _ _ _ z => z
end My
open PySem PySem.W PyProof.Rows
set_option maxRecDepth 100000 in
set_option maxHeartbeats 0 in
theorem PySem.Challenge.cw_sumwires_k02_bits_of_masks_holds : PySem.Challenge.rw_sumwires_k02_bits_of_masks.Holds := by
  w_on; o_law; k_head; (case hw => w_witness2)
  k_fill
  refine My.walk (l := PySem.Challenge.rw_sumwires_k02_bits_of_masks) rfl rfl (fun w h Y => PySem.W.kIn_of Y) ?F
  case F =>
    intro w mg fa h KX G hmg
    refine' My.all_mk KX G hmg ?a_even ?l_even ?c_even ?k_even ?a_bits_of ?l_bits_of ?c_bits_of ?k_bits_of ?a_mask_of ?l_mask_of ?c_mask_of ?k_mask_of ?a_cell ?l_cell ?c_cell ?k_cell ?a_mix ?l_mix ?c_mix ?k_mix ?a_mask ?l_mask ?c_mask ?k_mask ?a_places ?l_places ?c_places ?k_places ?a_whole ?l_whole ?c_whole ?k_whole ?a_odd_ones ?l_odd_ones ?c_odd_ones ?k_odd_ones ?a_right ?l_right ?c_right ?k_right ?a_law ?l_law ?c_law ?k_law ?z_bool ?z_int ?z_isinstance ?z_len ?z_list ?z_range ?z_reversed
    (case a_even => k_is); (case l_even => k_is); (case c_even => k_is); (case k_even => k_is)
    (case a_bits_of => k_is); (case l_bits_of => k_is); (case c_bits_of => k_is); (case k_bits_of => k_is)
    (case a_mask_of => k_is); (case l_mask_of => k_is); (case c_mask_of => k_is); (case k_mask_of => k_is)
    (case a_cell => k_is); (case l_cell => k_is); (case c_cell => k_is); (case k_cell => k_is)
    (case a_mix => k_is); (case l_mix => k_is); (case c_mix => k_is); (case k_mix => k_is)
    (case a_mask => k_is); (case l_mask => k_is); (case c_mask => k_is); (case k_mask => k_is)
    (case a_places => k_is); (case l_places => k_is); (case c_places => k_is); (case k_places => k_is)
    (case a_whole => k_is); (case l_whole => k_is); (case c_whole => k_is); (case k_whole => k_is)
    (case a_odd_ones => k_is); (case l_odd_ones => k_is); (case c_odd_ones => k_is); (case k_odd_ones => k_is)
    (case a_right => k_is); (case l_right => k_is); (case c_right => k_is); (case k_right => k_is)
    (case a_law => k_is); (case l_law => k_is); (case c_law => k_is); (case k_law => k_is)
    (case z_bool => k_is); (case z_int => k_is); (case z_isinstance => k_is); (case z_len => k_is)
    (case z_list => k_is); (case z_range => k_is); (case z_reversed => k_is)
