import PyProof.Rows.All
import Wide.All
import OpenK.AllK
import Wide.FinOn
import HandS.ForMost
import HandS.Wide
import HandS.WideBits
import HandS.IsInst
import HandS.Steps
import HandS.Exc
import HandS.ExcOwn
import HandS.TryOnly
import HandS.WordsExc
import HandS.EndBits
import HandS.Rev
import HandS.RevTup
import HandS.Walk
import HandS.Zip
import HandS.SortInts
import HandS.More
import HandS.SetFor
import KE.GoesMore
import PySem.Challenge.RW_sumwires_k79_orders
set_option Elab.async false
set_option linter.all false
set_option maxRecDepth 100000
set_option maxHeartbeats 4000000
set_option exponentiation.threshold 4000
/-! Wk: a typed layer over the hand layer. A state is a pair (F, H): H the tracked heap, F that part of it which nobody changes any more. -/
namespace Wk
open PySem L2

abbrev Ex (H H' : Hp) : Prop := ∀ a o, H a = some o → H' a = some o
theorem Ex.rfl' {H : Hp} : Ex H H := fun _ _ h => h
theorem Ex.tr {H H1 H2 : Hp} (a : Ex H H1) (b : Ex H1 H2) : Ex H H2 := fun x o h => b x o (a x o h)
theorem Ex.new {H : Hp} {p : Addr} {o : HO} (h : H p = none) : Ex H (upd H p o) := fun a u e => by
  rw [upd_ne (ne_of_none e h)]; exact e
theorem Ex.non {H H' : Hp} (e : Ex H H') {p : Addr} (h : H' p = none) : H p = none := by
  cases q : H p with
  | none => rfl
  | some o => rw [e p o q] at h; cases h

/-- from (F0, H0) to (F, H): all is kept, and F has grown by nothing but what is new to H0 -/
structure Wf (F0 H0 F H : Hp) : Prop where
  h : Ex H0 H
  f : Ex F H
  g : Ex F0 F
  n : ∀ a o, F a = some o → F0 a = none → H0 a = none
theorem Wf.id {F H : Hp} (e : Ex F H) : Wf F H F H := ⟨Ex.rfl', e, Ex.rfl', fun a o h h' => by rw [h] at h'; cases h'⟩
theorem Wf.tr {F0 H0 F H F' H' : Hp} (a : Wf F0 H0 F H) (b : Wf F H F' H') : Wf F0 H0 F' H' := ⟨a.h.tr b.h, b.f, a.g.tr b.g, fun x o h h0 => by
  cases q : F x with
  | none => exact a.h.non (b.n x o h q)
  | some u => exact a.n x u q h0⟩
/-- a new object that stays as it is -/
theorem Wf.new {F H : Hp} {p : Addr} {o : HO} (e : Ex F H) (hp : H p = none) : Wf F H (upd F p o) (upd H p o) := ⟨Ex.new hp, fun a u h => by
    by_cases q : a = p
    · subst q; rw [upd_same] at h ⊢; exact h
    · rw [upd_ne q] at h ⊢; exact e a u h, Ex.new (e.non hp), fun a u h h0 => by
    by_cases q : a = p
    · subst q; exact hp
    · rw [upd_ne q, h0] at h; cases h⟩
/-- a new object that is still changed -/
theorem Wf.newX {F H : Hp} {p : Addr} {o : HO} (e : Ex F H) (hp : H p = none) : Wf F H F (upd H p o) := ⟨Ex.new hp, e.tr (Ex.new hp), Ex.rfl', fun a u h h0 => by rw [h] at h0; cases h0⟩
/-- the heap alone has grown -/
theorem Wf.grow {F H H' : Hp} (e : Ex F H) (h : Ex H H') : Wf F H F H' := ⟨h, e.tr h, Ex.rfl', fun a u h h0 => by rw [h] at h0; cases h0⟩

/-- one's own object, not yet in F -/
structure Xc (H0 F H : Hp) (p : Addr) (o : HO) : Prop where
  z : H0 p = none
  n : F p = none
  h : H p = some o
section
variable {F0 H0 F H F' H' : Hp} {p q : Addr} {o u : HO}
theorem Xc.mk' (w : Wf F0 H0 F H) (hp : H p = none) : Xc H0 F (upd H p o) p o := ⟨w.h.non hp, w.f.non hp, upd_same⟩
theorem Xc.step (x : Xc H0 F H p o) (w : Wf F H F' H') : Xc H0 F' H' p o := ⟨x.z, (by
  cases q : F' p with
  | none => rfl
  | some u => have := w.n p u q x.n; rw [x.h] at this; cases this), w.h _ _ x.h⟩
theorem Xc.other (x : Xc H0 F H p o) (h : p ≠ q) : Xc H0 F (upd H q u) p o := ⟨x.z, x.n, by rw [upd_ne h]; exact x.h⟩
theorem Xc.set (x : Xc H0 F H p o) : Xc H0 F (upd H p u) p u := ⟨x.z, x.n, upd_same⟩
theorem Wf.set (w : Wf F0 H0 F H) (x : Xc H0 F H p o) : Wf F0 H0 F (upd H p u) := ⟨fun a v e => by
    rw [upd_ne (ne_of_none e x.z)]; exact w.h a v e, fun a v e => by rw [upd_ne (ne_of_none e x.n)]; exact w.f a v e, w.g, w.n⟩
/-- it is changed no more -/
theorem Wf.freeze (w : Wf F0 H0 F H) (x : Xc H0 F H p o) : Wf F0 H0 (upd F p o) H := ⟨w.h, fun a v e => by
    by_cases q : a = p
    · subst q; rw [upd_same] at e; rw [← e]; exact x.h
    · rw [upd_ne q] at e; exact w.f a v e, w.g.tr (Ex.new x.n), fun a v e e0 => by
    by_cases q : a = p
    · subst q; exact x.z
    · rw [upd_ne q] at e; exact w.n a v e e0⟩
theorem Xc.frz (x : Xc H0 F H p o) (y : Xc H0 F H q u) (h : p ≠ q) : Xc H0 (upd F q u) H p o := ⟨x.z, by rw [upd_ne h]; exact x.n, x.h⟩
theorem Xc.ne (x : Xc H0 F H p o) (h : H q = none) : p ≠ q := ne_of_none x.h h
end

/-! ### what represents what -/
structure Rep (α : Type) where
  r : Hp → V → α → Prop
  mono : ∀ {F F' : Hp} {v : V} {x : α}, Ex F F' → r F v x → r F' v x
def pI : Rep Int := ⟨fun _ v x => v = .int x, fun _ h => h⟩
def pN : Rep Nat := ⟨fun _ v x => v = .int (x : Int), fun _ h => h⟩
def pB : Rep Bool := ⟨fun _ v x => v = .bl x, fun _ h => h⟩
def pS : Rep Str := ⟨fun _ v x => v = .str x, fun _ h => h⟩
def pU : Rep Unit := ⟨fun _ v _ => v = .non, fun _ h => h⟩
def All {α : Type} (e : Rep α) (F : Hp) : List V → List α → Prop
  | [], [] => True
  | v :: vs, x :: xs => e.r F v x ∧ All e F vs xs
  | _, _ => False
section
variable {α β γ : Type} {e : Rep α} {F F' : Hp} {vs ws : List V} {xs ys : List α} {v : V} {x : α}
theorem All.mono (h : Ex F F') : ∀ {vs : List V} {xs : List α}, All e F vs xs → All e F' vs xs
  | [], [], _ => trivial
  | _ :: _, _ :: _, ⟨a, b⟩ => ⟨e.mono h a, All.mono h b⟩
  | [], _ :: _, q => q.elim
  | _ :: _, [], q => q.elim
theorem All.len : ∀ {vs : List V} {xs : List α}, All e F vs xs → vs.length = xs.length
  | [], [], _ => rfl
  | _ :: _, _ :: _, ⟨_, b⟩ => by rw [List.length_cons, List.length_cons, All.len b]
  | [], _ :: _, q => q.elim
  | _ :: _, [], q => q.elim
theorem All.get : ∀ {vs : List V} {xs : List α} {i : Nat} {x : α}, All e F vs xs → xs[i]? = some x → ∃ v, vs[i]? = some v ∧ e.r F v x
  | _ :: _, _ :: _, 0, _, ⟨a, _⟩, h => by simp at h; subst h; exact ⟨_, rfl, a⟩
  | _ :: _, _ :: _, i + 1, _, ⟨_, b⟩, h => by
    obtain ⟨v, h1, h2⟩ := All.get (i := i) b (by simpa using h)
    exact ⟨v, by simpa using h1, h2⟩
  | [], [], _, _, _, h => by simp at h
  | [], _ :: _, _, _, q, _ => q.elim
  | _ :: _, [], _, _, q, _ => q.elim
theorem All.got : ∀ {vs : List V} {xs : List α} {i : Nat} {v : V}, All e F vs xs → vs[i]? = some v → ∃ x, xs[i]? = some x ∧ e.r F v x
  | _ :: _, _ :: _, 0, _, ⟨a, _⟩, h => by simp at h; subst h; exact ⟨_, rfl, a⟩
  | _ :: _, _ :: _, i + 1, _, ⟨_, b⟩, h => by
    obtain ⟨v, h1, h2⟩ := All.got (i := i) b (by simpa using h)
    exact ⟨v, by simpa using h1, h2⟩
  | [], [], _, _, _, h => by simp at h
  | [], _ :: _, _, _, q, _ => q.elim
  | _ :: _, [], _, _, q, _ => q.elim
theorem All.app : ∀ {vs : List V} {xs : List α}, All e F vs xs → All e F ws ys → All e F (vs ++ ws) (xs ++ ys)
  | [], [], _, b => b
  | _ :: _, _ :: _, ⟨a, a'⟩, b => ⟨a, All.app a' b⟩
  | [], _ :: _, q, _ => q.elim
  | _ :: _, [], q, _ => q.elim
theorem All.snoc (a : All e F vs xs) (b : e.r F v x) : All e F (vs ++ [v]) (xs ++ [x]) := a.app ⟨b, trivial⟩
theorem All.set : ∀ {vs : List V} {xs : List α} (i : Nat), All e F vs xs → e.r F v x → All e F (vs.set i v) (xs.set i x)
  | [], [], _, _, _ => trivial
  | _ :: _, _ :: _, 0, ⟨_, b⟩, r => ⟨r, b⟩
  | _ :: _, _ :: _, i + 1, ⟨a, b⟩, r => ⟨a, All.set i b r⟩
  | [], _ :: _, _, q, _ => q.elim
  | _ :: _, [], _, q, _ => q.elim
theorem All.take : ∀ {vs : List V} {xs : List α} (i : Nat), All e F vs xs → All e F (vs.take i) (xs.take i)
  | [], [], i, _ => by simp [All]
  | _ :: _, _ :: _, 0, _ => trivial
  | _ :: _, _ :: _, i + 1, ⟨a, b⟩ => ⟨a, All.take i b⟩
  | [], _ :: _, _, q => q.elim
  | _ :: _, [], _, q => q.elim
theorem All.drop : ∀ {vs : List V} {xs : List α} (i : Nat), All e F vs xs → All e F (vs.drop i) (xs.drop i)
  | [], [], i, _ => by simp [All]
  | _ :: _, _ :: _, 0, h => h
  | _ :: _, _ :: _, i + 1, ⟨_, b⟩ => All.drop i b
  | [], _ :: _, _, q => q.elim
  | _ :: _, [], _, q => q.elim
theorem All.ints {vs : List V} : ∀ {xs : List Int}, All pI F vs xs → vs = xs.map V.int := by
  induction vs with
  | nil => intro xs h; cases xs with
    | nil => rfl
    | cons _ _ => exact h.elim
  | cons v vs ih => intro xs h; cases xs with
    | nil => exact h.elim
    | cons y ys => obtain ⟨a, b⟩ := h; rw [ih b, List.map_cons]; rw [show v = .int y from a]
theorem All.ofInts : ∀ {xs : List Int}, All pI F (xs.map V.int) xs
  | [] => trivial
  | _ :: _ => ⟨rfl, All.ofInts⟩
theorem All.nats {vs : List V} : ∀ {xs : List Nat}, All pN F vs xs → vs = (xs.map Int.ofNat).map V.int := by
  induction vs with
  | nil => intro xs h; cases xs with
    | nil => rfl
    | cons _ _ => exact h.elim
  | cons v vs ih => intro xs h; cases xs with
    | nil => exact h.elim
    | cons y ys => obtain ⟨a, b⟩ := h; rw [ih b, List.map_cons, List.map_cons]; rw [show v = .int (y : Int) from a]; rfl
end
/-- a list, a tuple of things of one kind, pairs, triples -/
def pL {α : Type} (e : Rep α) : Rep (List α) := ⟨fun F v xs => ∃ p vs, v = .ref p ∧ F p = some (.lst vs) ∧ All e F vs xs, fun h ⟨p, vs, a, b, c⟩ => ⟨p, vs, a, h _ _ b, c.mono h⟩⟩
def pTL {α : Type} (e : Rep α) : Rep (List α) := ⟨fun F v xs => ∃ p vs, v = .ref p ∧ F p = some (.tup vs) ∧ All e F vs xs, fun h ⟨p, vs, a, b, c⟩ => ⟨p, vs, a, h _ _ b, c.mono h⟩⟩
def pT2 {α β : Type} (e : Rep α) (f : Rep β) : Rep (α × β) := ⟨fun F v x => ∃ p u w, v = .ref p ∧ F p = some (.tup [u, w]) ∧ e.r F u x.1 ∧ f.r F w x.2, fun h ⟨p, u, w, a, b, c, d⟩ => ⟨p, u, w, a, h _ _ b, e.mono h c, f.mono h d⟩⟩
def pT3 {α β γ : Type} (e : Rep α) (f : Rep β) (g : Rep γ) : Rep (α × β × γ) := ⟨fun F v x => ∃ p u w y, v = .ref p ∧ F p = some (.tup [u, w, y]) ∧ e.r F u x.1 ∧ f.r F w x.2.1 ∧ g.r F y x.2.2, fun h ⟨p, u, w, y, a, b, c, d, k⟩ => ⟨p, u, w, y, a, h _ _ b, e.mono h c, f.mono h d, g.mono h k⟩⟩
def pO {α : Type} (e : Rep α) : Rep (Option α) := ⟨fun F v x => match x with | none => v = .non | some y => e.r F v y, fun {_ _ _ x} h q => by cases x with | none => exact q | some y => exact e.mono h q⟩
/-- the script: read only -/
def pScr (K : PySem.W.Frag) : Rep (List Int) := ⟨fun F v xs => ∃ a, v = .ref a ∧ SqL K F a (xs.map V.int), fun h ⟨a, e, q⟩ => ⟨a, e, by
  rcases q with (q | ⟨o, q⟩) | q
  · exact .inl (.inl (h _ _ q))
  · exact .inl (.inr ⟨o, h _ _ q⟩)
  · exact .inr q⟩⟩
/-- one's own list -/
structure XL {α : Type} (e : Rep α) (H0 F H : Hp) (p : Addr) (xs : List α) : Prop where
  x : ∃ vs, Xc H0 F H p (.lst vs) ∧ All e F vs xs
section
variable {α : Type} {e : Rep α} {F0 H0 F H F' H' : Hp} {p q : Addr} {o : HO} {xs : List α} {y : α} {v : V}
theorem XL.step (x : XL e H0 F H p xs) (w : Wf F H F' H') : XL e H0 F' H' p xs := let ⟨vs, a, b⟩ := x.x; ⟨vs, a.step w, b.mono w.g⟩
theorem XL.other {u : HO} (x : XL e H0 F H p xs) (h : p ≠ q) : XL e H0 F (upd H q u) p xs := let ⟨vs, a, b⟩ := x.x; ⟨vs, a.other h, b⟩
theorem XL.ne (x : XL e H0 F H p xs) (h : H q = none) : p ≠ q := let ⟨_, a, _⟩ := x.x; a.ne h
theorem XL.nil (w : Wf F0 H0 F H) (hp : H p = none) : XL e H0 F (upd H p (.lst [])) p [] := ⟨[], Xc.mk' w hp, trivial⟩
theorem XL.frz {u : HO} {β : Type} {e' : Rep β} {ys : List β} (x : XL e H0 F H p xs) (z : Xc H0 F H q u) (h : p ≠ q) : XL e H0 (upd F q u) H p xs := let ⟨vs, a, b⟩ := x.x; ⟨vs, a.frz z h, b.mono (Ex.new z.n)⟩
theorem XL.zero (x : XL e H0 F H p xs) : H0 p = none := let ⟨_, a, _⟩ := x.x; a.z
end
/-! ### typed loops -/
def forW {α S : Type} : List α → S → (α → S → (S → Prop) → (S → Prop) → Prop) → (S → Prop) → Prop
  | [], s, _, k => k s
  | x :: xs, s, b, k => b x s (fun s' => forW xs s' b k) k
def compG {α β : Type} : List α → List β → (α → (Option β → Prop) → Prop) → (List β → Prop) → Prop
  | [], acc, _, k => k acc
  | x :: xs, acc, b, k => b x fun o => compG xs (acc ++ o.toList) b k
def compW {α β : Type} (xs : List α) (b : α → (Option β → Prop) → Prop) (k : List β → Prop) : Prop := compG xs [] b k
def whileW {S : Type} (test : S → (Bool → Prop) → Prop) (body : S → (S → Prop) → (S → Prop) → Prop) (s : S) (k : S → Prop) : Prop :=
  ∃ I : Nat → S → Prop, (∃ m, I m s) ∧ ∀ m s, I m s → test s fun b => if b = true then body s (fun s' => ∃ m', m' < m ∧ I m' s') k else k s

/-! ### steps of readings -/
section
variable {K : PySem.W.Frag} {σ σ1 : L2.St} {H H1 : Hp} {te ta tb tc : TE} {tt tu : TT} {tA tR : TA} {Q : VK} {v w x y z : V} {D : Ends} {t u : TS} {i j : Int} {a b m n : Nat} {p q : Prop}
theorem e_val (h : Val te σ H v) (q : Q v H) : te σ H Q := h Q q
theorem v_eq (h : Val te σ H v) (e : v = w) : Val te σ H w := e ▸ h
theorem vi_of (h : Val te σ H (.int i)) (e : i = j) : Val te σ H (.int j) := e ▸ h
theorem vb_of {b c : Bool} (h : Val te σ H (.bl b)) (e : b = c) : Val te σ H (.bl c) := e ▸ h
theorem v2 {r : R2} (ha : Val ta σ H x) (hb : Val tb σ H y) (hr : ∀ Q : VK, Q z H → r x y H Q) : Val (tOp r ta tb) σ H z := fun Q k => ha _ (hb _ (hr Q k))
theorem v1 {r : V → Hp → VK → Prop} (ha : Val ta σ H x) (hr : ∀ Q : VK, Q z H → r x H Q) : Val (tUn r ta) σ H z := fun Q k => ha _ (hr Q k)
theorem vi0 {g : Int → Int → V} (ha : Val ta σ H (.int i)) (hb : Val tb σ H (.int j)) : Val (tOp (rI0 g) ta tb) σ H (g i j) := fun _ k => ha _ (hb _ ⟨i, j, rfl, rfl, k⟩)
theorem viC {C : Int → Int → Prop} {g : Int → Int → V} (ha : Val ta σ H (.int i)) (hb : Val tb σ H (.int j)) (hc : C i j) : Val (tOp (rI C g) ta tb) σ H (g i j) := fun _ k => ha _ (hb _ ⟨i, j, rfl, rfl, hc, k⟩)
/-! whole numbers from 0 on -/
theorem vn_add (ha : Val ta σ H (.int (a : Int))) (hb : Val tb σ H (.int (b : Int))) : Val (tOp (rI0 fun i j => .int (i + j)) ta tb) σ H (.int ((a + b : Nat) : Int)) := vi_of (vi0 ha hb) (by omega)
theorem vn_sub (ha : Val ta σ H (.int (a : Int))) (hb : Val tb σ H (.int (b : Int))) (h : b ≤ a) : Val (tOp (rI0 fun i j => .int (i - j)) ta tb) σ H (.int ((a - b : Nat) : Int)) := vi_of (vi0 ha hb) (by omega)
def NMul (a b : Nat) : Prop := a < 2 ^ 64 ∨ b < 2 ^ 64
theorem vn_mul (ha : Val ta σ H (.int (a : Int))) (hb : Val tb σ H (.int (b : Int))) (h : NMul a b) : Val (tOp (rI CMul fun i j => .int (i * j)) ta tb) σ H (.int ((a * b : Nat) : Int)) := vi_of (viC ha hb (by
  rcases h with h | h
  · exact .inl ⟨by omega, by omega⟩
  · exact .inr ⟨by omega, by omega⟩)) (by rw [Int.natCast_mul])
theorem vn_mulW (ha : Val ta σ H (.int (a : Int))) (hb : Val tb σ H (.int (b : Int))) (h : CMulX a b) : Val (tOp (rI CMulX fun i j => .int (i * j)) ta tb) σ H (.int ((a * b : Nat) : Int)) := vi_of (viC ha hb h) (by rw [Int.natCast_mul])
def NDiv (b : Nat) : Prop := 0 < b ∧ b.log2 < 9000
theorem vn_div (ha : Val ta σ H (.int (a : Int))) (hb : Val tb σ H (.int (b : Int))) (h : NDiv b) : Val (tOp (rI CDivW fun i j => .int (i / j)) ta tb) σ H (.int ((a / b : Nat) : Int)) := vi_of (viC ha hb ⟨by have := h.1; omega, h.2⟩) (by rw [Int.natCast_ediv])
theorem vi_div (ha : Val ta σ H (.int i)) (hb : Val tb σ H (.int (b : Int))) (h : NDiv b) : Val (tOp (rI CDivW fun i j => .int (i / j)) ta tb) σ H (.int (i / (b : Int))) := viC ha hb ⟨by have := h.1; omega, h.2⟩
theorem vn_mod (ha : Val ta σ H (.int (a : Int))) (hb : Val tb σ H (.int (b : Int))) (h : 0 < b) : Val (tOp (rI (fun _ j => 0 < j) fun i j => .int (i % j)) ta tb) σ H (.int ((a % b : Nat) : Int)) := vi_of (viC (C := fun _ j => 0 < j) ha hb (by omega)) (by rw [Int.natCast_emod])
/-- i % m, as a whole number from 0 on -/
def modN (i : Int) (m : Nat) : Nat := (i % (m : Int)).toNat
theorem modN_cast {i : Int} {m : Nat} (h : 0 < m) : ((modN i m : Nat) : Int) = i % (m : Int) := Int.toNat_of_nonneg (Int.emod_nonneg _ (by omega))
theorem modN_lt {i : Int} {m : Nat} (h : 0 < m) : modN i m < m := by
  have := modN_cast (i := i) h
  have := Int.emod_lt_of_pos i (show (0 : Int) < m by omega)
  omega
theorem vm_mod (ha : Val ta σ H (.int i)) (hb : Val tb σ H (.int (b : Int))) (h : 0 < b) : Val (tOp (rI (fun _ j => 0 < j) fun i j => .int (i % j)) ta tb) σ H (.int ((modN i b : Nat) : Int)) := vi_of (viC (C := fun _ j => 0 < j) ha hb (by omega)) (modN_cast h).symm
theorem bitAnd_N (a b : Nat) : Builtin.bitAnd (a : Int) (b : Int) = ((a &&& b : Nat) : Int) := by
  unfold Builtin.bitAnd
  rw [decide_eq_true (Int.natCast_nonneg a), decide_eq_true (Int.natCast_nonneg b)]
  rfl
theorem bitXor_N (a b : Nat) : Builtin.bitXor (a : Int) (b : Int) = ((a ^^^ b : Nat) : Int) := by rw [Bits.bitXor_pp (Int.natCast_nonneg a) (Int.natCast_nonneg b)]; rfl
theorem bitOr_N (a b : Nat) : Builtin.bitOr (a : Int) (b : Int) = ((a ||| b : Nat) : Int) := by rw [Bits.bitOr_pp (Int.natCast_nonneg a) (Int.natCast_nonneg b)]; rfl
theorem vn_and (ha : Val ta σ H (.int (a : Int))) (hb : Val tb σ H (.int (b : Int))) : Val (tOp (rI0 fun i j => .int (Builtin.bitAnd i j)) ta tb) σ H (.int ((a &&& b : Nat) : Int)) := vi_of (vi0 ha hb) (bitAnd_N a b)
theorem vn_or (ha : Val ta σ H (.int (a : Int))) (hb : Val tb σ H (.int (b : Int))) : Val (tOp (rI0 fun i j => .int (Builtin.bitOr i j)) ta tb) σ H (.int ((a ||| b : Nat) : Int)) := vi_of (vi0 ha hb) (bitOr_N a b)
theorem vn_xor (ha : Val ta σ H (.int (a : Int))) (hb : Val tb σ H (.int (b : Int))) : Val (tOp (rI0 fun i j => .int (Builtin.bitXor i j)) ta tb) σ H (.int ((a ^^^ b : Nat) : Int)) := vi_of (vi0 ha hb) (bitXor_N a b)
/-- i & 1 -/
theorem vm_odd (ha : Val ta σ H (.int i)) (hb : Val tb σ H (.int 1)) : Val (tOp (rI0 fun i j => .int (Builtin.bitAnd i j)) ta tb) σ H (.int ((modN i 2 : Nat) : Int)) := vi_of (vi0 ha hb) (by rw [PyProof.Rows.bitAnd_m1, modN_cast (by decide)]; rfl)
def NShl (a k : Nat) : Prop := a.log2 + k < 100000000
theorem NShl.ok {a k : Nat} (h : NShl a k) : CShl (a : Int) (k : Int) := by
  have e : (2 : Int) ^ 27 = 134217728 := by decide
  refine ⟨Int.natCast_nonneg _, ?_⟩
  rw [e]
  have b : Builtin.Int.intBits (a : Int) ≤ a.log2 + 1 := by
    unfold Builtin.Int.intBits
    split
    · omega
    · exact Nat.le_refl _
  unfold NShl at h
  omega
theorem vn_shl (ha : Val ta σ H (.int (a : Int))) (hb : Val tb σ H (.int (b : Int))) (h : NShl a b) : Val (tOp (rI CShl fun i j => .int (i * 2 ^ j.toNat)) ta tb) σ H (.int ((a <<< b : Nat) : Int)) := vi_of (viC ha hb h.ok) (by
  rw [Int.toNat_natCast, Nat.shiftLeft_eq, Int.natCast_mul, Int.natCast_pow]; rfl)
theorem vn_one (ha : Val ta σ H (.int 1)) (hb : Val tb σ H (.int (b : Int))) (h : b < 100000000) : Val (tOp (rI CShl fun i j => .int (i * 2 ^ j.toNat)) ta tb) σ H (.int ((2 ^ b : Nat) : Int)) := vi_of (vn_shl (a := 1) ha hb (by
  unfold NShl
  have : Nat.log2 1 = 0 := by decide
  omega)) (by rw [Nat.shiftLeft_eq, Nat.one_mul])
theorem vi_shl (ha : Val ta σ H (.int i)) (hb : Val tb σ H (.int (b : Int))) (h : CShl i (b : Int)) : Val (tOp (rI CShl fun i j => .int (i * 2 ^ j.toNat)) ta tb) σ H (.int (i * 2 ^ b)) := vi_of (viC ha hb h) (by rw [Int.toNat_natCast])
theorem vi_shr (ha : Val ta σ H (.int i)) (hb : Val tb σ H (.int (b : Int))) : Val (tOp (rI (fun _ j => 0 ≤ j) fun i j => .int (i / 2 ^ j.toNat)) ta tb) σ H (.int (i / 2 ^ b)) := vi_of (viC (C := fun _ j => 0 ≤ j) ha hb (Int.natCast_nonneg _)) (by rw [Int.toNat_natCast])
theorem vn_shr (ha : Val ta σ H (.int (a : Int))) (hb : Val tb σ H (.int (b : Int))) : Val (tOp (rI (fun _ j => 0 ≤ j) fun i j => .int (i / 2 ^ j.toNat)) ta tb) σ H (.int ((a >>> b : Nat) : Int)) := vi_of (vi_shr ha hb) (by
  rw [Nat.shiftRight_eq_div_pow, Int.natCast_ediv, Int.natCast_pow]; rfl)
theorem v_neg (ha : Val ta σ H (.int i)) : Val (tUn (rU fun i => .int (-i)) ta) σ H (.int (-i)) := v1 ha fun _ k => ⟨i, rfl, k⟩
theorem vn_pow {c : Nat} (ha : Val ta σ H (.int (a : Int))) (hb : Val tb σ H (.int (b : Int))) (h : b ≤ 1000000 ∧ a < 2 ^ 64) (e : a ^ b = c) : Val (tOp (rI CPow fun i j => .int (i ^ j.toNat)) ta tb) σ H (.int (c : Int)) := vi_of (viC ha hb ⟨Int.natCast_nonneg _, by omega, by omega⟩) (by
  rw [Int.toNat_natCast, ← e, Int.natCast_pow])
theorem vn_bits (ha : Val ta σ H (.int (a : Int))) : Val (tBits ta) σ H (.int ((Builtin.Int.intBits (a : Int) : Nat) : Int)) := fun _ k => ha _ ⟨_, rfl, k⟩
/-! comparisons, as truths -/
theorem c_lt (ha : Val ta σ H (.int i)) (hb : Val tb σ H (.int j)) : Val (tOp (rI0 fun i j => .bl (decide (i < j))) ta tb) σ H (.bl (decide (i < j))) := vi0 ha hb
theorem c_le (ha : Val ta σ H (.int i)) (hb : Val tb σ H (.int j)) : Val (tOp (rI0 fun i j => .bl (decide (i ≤ j))) ta tb) σ H (.bl (decide (i ≤ j))) := vi0 ha hb
theorem c_gt (ha : Val ta σ H (.int i)) (hb : Val tb σ H (.int j)) : Val (tOp (rI0 fun i j => .bl (decide (j < i))) ta tb) σ H (.bl (decide (j < i))) := vi0 ha hb
theorem c_ge (ha : Val ta σ H (.int i)) (hb : Val tb σ H (.int j)) : Val (tOp (rI0 fun i j => .bl (decide (j ≤ i))) ta tb) σ H (.bl (decide (j ≤ i))) := vi0 ha hb
theorem dec_iff {p q : Prop} [Decidable p] [Decidable q] (h : p ↔ q) : decide p = decide q := by
  by_cases k : p
  · rw [decide_eq_true k, decide_eq_true (h.mp k)]
  · rw [decide_eq_false k, decide_eq_false (fun z => k (h.mpr z))]
theorem vb_dec [Decidable p] [Decidable q] (h : Val te σ H (.bl (decide p))) (e : p ↔ q) : Val te σ H (.bl (decide q)) := vb_of h (dec_iff e)
theorem c_eqI (ha : Val ta σ H (.int i)) (hb : Val tb σ H (.int j)) : Val (tOp rEq ta tb) σ H (.bl (decide (i = j))) := v2 ha hb fun Q k => ⟨rfl, by
  rw [dec_iff (show V.int i = V.int j ↔ i = j from ⟨fun h => V.int.inj h, fun h => by rw [h]⟩)]; exact k⟩
theorem c_neI (ha : Val ta σ H (.int i)) (hb : Val tb σ H (.int j)) : Val (tOp rNe ta tb) σ H (.bl (decide (i ≠ j))) := v2 ha hb fun Q k => ⟨rfl, by
  rw [← decide_not, dec_iff (show ¬ V.int i = V.int j ↔ i ≠ j from ⟨fun h e => h (by rw [e]), fun h e => h (V.int.inj e)⟩)]; exact k⟩
theorem c_eqS {s r : Str} (ha : Val ta σ H (.str s)) (hb : Val tb σ H (.str r)) : Val (tOp rEq ta tb) σ H (.bl (decide (s = r))) := v2 ha hb fun Q k => ⟨rfl, by
  rw [dec_iff (show V.str s = V.str r ↔ s = r from ⟨fun h => V.str.inj h, fun h => by rw [h]⟩)]; exact k⟩
theorem c_neS {s r : Str} (ha : Val ta σ H (.str s)) (hb : Val tb σ H (.str r)) : Val (tOp rNe ta tb) σ H (.bl (decide (s ≠ r))) := v2 ha hb fun Q k => ⟨rfl, by
  rw [← decide_not, dec_iff (show ¬ V.str s = V.str r ↔ s ≠ r from ⟨fun h e => h (by rw [e]), fun h e => h (V.str.inj e)⟩)]; exact k⟩
theorem c_eqB {s r : Bool} (ha : Val ta σ H (.bl s)) (hb : Val tb σ H (.bl r)) : Val (tOp rEq ta tb) σ H (.bl (decide (s = r))) := v2 ha hb fun Q k => ⟨rfl, by
  rw [dec_iff (show V.bl s = V.bl r ↔ s = r from ⟨fun h => V.bl.inj h, fun h => by rw [h]⟩)]; exact k⟩
theorem c_neB {s r : Bool} (ha : Val ta σ H (.bl s)) (hb : Val tb σ H (.bl r)) : Val (tOp rNe ta tb) σ H (.bl (decide (s ≠ r))) := v2 ha hb fun Q k => ⟨rfl, by
  rw [← decide_not, dec_iff (show ¬ V.bl s = V.bl r ↔ s ≠ r from ⟨fun h e => h (by rw [e]), fun h e => h (V.bl.inj e)⟩)]; exact k⟩
/-- numbers from 0 on: the comparison without casts -/
theorem n_lt : ((a : Int) < (b : Int)) ↔ a < b := by omega
theorem n_le : ((a : Int) ≤ (b : Int)) ↔ a ≤ b := by omega
theorem n_eq : ((a : Int) = (b : Int)) ↔ a = b := by omega
theorem n_ne : ((a : Int) ≠ (b : Int)) ↔ a ≠ b := by omega
/-- a < b < c -/
theorem v_chain {r r' : R2} {b1 b2 : Bool} (ha : Val ta σ H x) (hb : Val tb σ H y) (hc : Val tc σ H z) (h1 : ∀ Q : VK, Q (.bl b1) H → r x y H Q) (h2 : ∀ Q : VK, Q (.bl b2) H → r' y z H Q) : Val (tChain r r' ta tb tc) σ H (.bl (b1 && b2)) := fun Q k => ha _ (hb _ (h1 _ ⟨b1, rfl, by
  cases b1 with
  | true => rw [if_pos rfl]; exact hc _ (h2 _ (by simpa using k))
  | false => rw [if_neg (by simp)]; simpa using k⟩))
/-! truths as tests -/
theorem t_of (h : Val te σ H (.bl b')) : Ans (tTest te) σ H b' := fun _ k => h _ ⟨_, rfl, k⟩
theorem t_ofB (h : Val te σ H (.bl b')) : Ans (tB te) σ H b' := fun _ k => h _ ⟨_, rfl, k⟩
theorem t_dec {b c : Bool} (h : Ans tt σ H b) (e : b = c) : Ans tt σ H c := e ▸ h
theorem t_iff [Decidable p] [Decidable q] (h : Ans tt σ H (decide p)) (e : p ↔ q) : Ans tt σ H (decide q) := t_dec h (dec_iff e)
theorem t_not [Decidable p] (h : Ans tt σ H (decide p)) : Ans (tNot tt) σ H (decide (¬ p)) := fun Q k => h _ (by rw [← decide_not]; exact k)
theorem t_and [Decidable p] [Decidable q] (h : Ans tt σ H (decide p)) (h2 : p → Ans tu σ H (decide q)) : Ans (tAnd tt tu) σ H (decide (p ∧ q)) := fun Q k => h _ (by
  by_cases hp : p
  · rw [decide_eq_true hp, if_pos rfl]
    exact h2 hp Q (by rw [dec_iff (show q ↔ p ∧ q from ⟨fun z => ⟨hp, z⟩, fun z => z.2⟩)]; exact k)
  · rw [decide_eq_false hp, if_neg (by simp)]
    rw [decide_eq_false (fun z => hp z.1)] at k
    exact k)
theorem t_or [Decidable p] [Decidable q] (h : Ans tt σ H (decide p)) (h2 : ¬ p → Ans tu σ H (decide q)) : Ans (tOr tt tu) σ H (decide (p ∨ q)) := fun Q k => h _ (by
  by_cases hp : p
  · rw [decide_eq_true hp, if_pos rfl]
    rw [decide_eq_true (Or.inl hp)] at k
    exact k
  · rw [decide_eq_false hp, if_neg (by simp)]
    exact h2 hp Q (by rw [dec_iff (show q ↔ p ∨ q from ⟨fun z => .inr z, fun z => z.resolve_left hp⟩)]; exact k))
/-! the same as values -/
theorem vt_not [Decidable p] (h : Val te σ H (.bl (decide p))) : Val (tNotV te) σ H (.bl (decide (¬ p))) := fun Q k => h _ ⟨_, rfl, by rw [← decide_not]; exact k⟩
theorem vt_and [Decidable p] [Decidable q] (h : Val ta σ H (.bl (decide p))) (h2 : p → Val tb σ H (.bl (decide q))) : Val (tAndV ta tb) σ H (.bl (decide (p ∧ q))) := fun Q k => h _ ⟨_, rfl, by
  by_cases hp : p
  · rw [decide_eq_true hp, if_pos rfl]
    exact h2 hp Q (by rw [dec_iff (show q ↔ p ∧ q from ⟨fun z => ⟨hp, z⟩, fun z => z.2⟩)]; exact k)
  · rw [decide_eq_false hp, if_neg (by simp)]
    rw [decide_eq_false (fun z => hp z.1)] at k
    exact k⟩
theorem vt_or [Decidable p] [Decidable q] (h : Val ta σ H (.bl (decide p))) (h2 : ¬ p → Val tb σ H (.bl (decide q))) : Val (tOrV ta tb) σ H (.bl (decide (p ∨ q))) := fun Q k => h _ ⟨_, rfl, by
  by_cases hp : p
  · rw [decide_eq_true hp, if_pos rfl]
    rw [decide_eq_true (Or.inl hp)] at k
    exact k
  · rw [decide_eq_false hp, if_neg (by simp)]
    exact h2 hp Q (by rw [dec_iff (show q ↔ p ∨ q from ⟨fun z => .inr z, fun z => z.resolve_left hp⟩)]; exact k)⟩
theorem v_if [Decidable p] (h : Ans tt σ H (decide p)) (h1 : p → Val ta σ H x) (h2 : ¬ p → Val tb σ H x) : Val (tIf tt ta tb) σ H x := fun Q k => h _ (by
  by_cases hp : p
  · rw [decide_eq_true hp, if_pos rfl]; exact h1 hp Q k
  · rw [decide_eq_false hp, if_neg (by simp)]; exact h2 hp Q k)
/-! calls -/
theorem e_call {sp : Sp} {E : XK} (h : tA σ H fun vs H1 => sp vs H1 Q E) : tCall sp [] E tA σ H Q := by
  show tA σ H fun vs H1 => sp (vs ++ []) H1 Q E
  simpa only [List.append_nil] using h
theorem a_nil {R : List V → Hp → Prop} (h : R [] H) : tNil σ H R := h
theorem a_cons {R : List V → Hp → Prop} (h : te σ H fun x H1 => tR σ H1 fun xs H2 => R (x :: xs) H2) : tCons te tR σ H R := h
theorem a_val {R : List V → Hp → Prop} (h : Val te σ H v) (k : tR σ H fun xs H2 => R (v :: xs) H2) : tCons te tR σ H R := h _ k
theorem v_cb1 {r : List V → Hp → VK → Prop} (ha : Val ta σ H x) (hr : ∀ Q : VK, Q z H → r [x] H Q) : Val (tCB r (tCons ta tNil)) σ H z := fun Q k => ha _ (hr Q k)
theorem v_cb2 {r : List V → Hp → VK → Prop} (ha : Val ta σ H x) (hb : Val tb σ H y) (hr : ∀ Q : VK, Q z H → r [x, y] H Q) : Val (tCB r (tCons ta (tCons tb tNil))) σ H z := fun Q k => ha _ (hb _ (hr Q k))
/-! statements -/
theorem q_seq (h : t { D with nx := u D } σ H) : tSeq t u D σ H := h
theorem q_sq (h : ∀ N : L2.St → Hp → Prop, (∀ σ' H', u D σ' H' → N σ' H') → t { D with nx := N } σ H) : tSeq t u D σ H := h _ fun _ _ z => z
theorem a_asg {i : Nat} (h : Val te σ H v) (q : D.nx (σ.set i (some v)) H) : tAsg te (gName i) D σ H := h _ q
theorem a_asgE {i : Nat} (h : te σ H fun v H1 => D.nx (σ.set i (some v)) H1) : tAsg te (gName i) D σ H := h
theorem a_ret (h : Val te σ H v) (q : D.rt v H) : tRet te D σ H := h _ q
theorem a_retE (h : te σ H D.rt) : tRet te D σ H := h
theorem a_dropE (h : te σ H fun _ H1 => D.nx σ H1) : tDrop te D σ H := h
theorem a_aug {i : Nat} {ti : TIp} (hx : σ[i]? = some (some x)) (h : Val te σ H y) (hr : ∀ Q : VK, Q z H → ti x y H Q) (q : D.nx (σ.set i (some z)) H) : tAug i te ti D σ H := ⟨x, hx, h _ (hr _ q)⟩
theorem a_if [Decidable p] (h : Ans tt σ H (decide p)) (h1 : p → t D σ H) (h2 : ¬ p → u D σ H) : tIfS tt t u D σ H := h _ (by
  by_cases hp : p
  · rw [decide_eq_true hp, if_pos rfl]; exact h1 hp
  · rw [decide_eq_false hp, if_neg (by simp)]; exact h2 hp)
theorem a_ifE (h : tt σ H fun b H1 => if b = true then t D σ H1 else u D σ H1) : tIfS tt t u D σ H := h
theorem ifP [Decidable p] {A B : Prop} (h : if p then A else B) (hp : p) : A := by rw [if_pos hp] at h; exact h
theorem ifN [Decidable p] {A B : Prop} (h : if p then A else B) (hp : ¬ p) : B := by rw [if_neg hp] at h; exact h
end
end Wk

namespace Wk
open PySem L2
/-! ### data that is compared -/
class Dat {α : Type} (e : Rep α) (lv : outParam Nat) where
  d : α → PyData
  dp : ∀ {K : PySem.W.Frag} {F : Hp} {v : V} {x : α}, e.r F v x → Dp K F v (d x)
  lay : ∀ x, (d x).canLay0 = true
  dep : ∀ x, (d x).depth ≤ lv
  inj : ∀ x y, PyData.eqv (d x) (d y) = true ↔ x = y
instance : Dat pI 0 := ⟨.int, fun h => by cases (show _ = V.int _ from h); exact .int _, fun _ => rfl, fun _ => Nat.le_refl _, fun x y => by
  show ((x == y) = true) ↔ _
  exact beq_iff_eq⟩
instance : Dat pN 0 := ⟨fun n => .int (n : Int), fun h => by cases (show _ = V.int _ from h); exact .int _, fun _ => rfl, fun _ => Nat.le_refl _, fun x y => by
  show (((x : Int) == (y : Int)) = true) ↔ _
  rw [beq_iff_eq]; omega⟩
instance : Dat pB 0 := ⟨.bool, fun h => by cases (show _ = V.bl _ from h); exact .bl _, fun _ => rfl, fun _ => Nat.le_refl _, fun x y => by
  show ((x == y) = true) ↔ _
  exact beq_iff_eq⟩
theorem lay_all {α : Type} {d : α → PyData} (h : ∀ x, (d x).canLay0 = true) : ∀ xs : List α, PyData.canLayAll0 (xs.map d) = true
  | [] => rfl
  | x :: xs => by show (PyData.canLay0 (d x) && PyData.canLayAll0 (xs.map d)) = true; rw [h x, lay_all h xs]; rfl
theorem dep_all {α : Type} {d : α → PyData} {n : Nat} (h : ∀ x, (d x).depth ≤ n) : ∀ xs : List α, PyData.depthAll (xs.map d) ≤ n
  | [] => Nat.zero_le _
  | x :: xs => by
    show PyData.depthAll (d x :: xs.map d) ≤ n
    have a := h x
    have b := dep_all h xs
    simp only [PyData.depthAll]
    omega
theorem eqv_all {α : Type} {d : α → PyData} (h : ∀ x y, PyData.eqv (d x) (d y) = true ↔ x = y) : ∀ xs ys : List α, PyData.eqvAll (xs.map d) (ys.map d) = true ↔ xs = ys
  | [], [] => ⟨fun _ => rfl, fun _ => rfl⟩
  | x :: xs, [] => ⟨fun q => (by cases q), fun q => (by cases q)⟩
  | [], y :: ys => ⟨fun q => (by cases q), fun q => (by cases q)⟩
  | x :: xs, y :: ys => by
    show (PyData.eqv (d x) (d y) && PyData.eqvAll (xs.map d) (ys.map d)) = true ↔ _
    rw [Bool.and_eq_true, h x y, eqv_all h xs ys, List.cons.injEq]
theorem dp_all {α : Type} {e : Rep α} {lv : Nat} [Dat e lv] {K : PySem.W.Frag} {F : Hp} : ∀ {vs : List V} {xs : List α}, All e F vs xs → DpAll K F vs (xs.map (Dat.d e))
  | [], [], _ => .nil
  | _ :: _, _ :: _, ⟨a, b⟩ => .cons (Dat.dp a) (dp_all b)
  | [], _ :: _, q => q.elim
  | _ :: _, [], q => q.elim
instance {α : Type} {e : Rep α} {n : Nat} [Dat e n] : Dat (pL e) (n + 1) := ⟨fun xs => .list (xs.map (Dat.d e)), fun {K F v xs} h => by
    obtain ⟨p, vs, rfl, hp, a⟩ := h
    exact .lst (SqL.of hp) (dp_all a), fun xs => lay_all (Dat.lay (e := e)) xs, fun xs => by
    have := dep_all (Dat.dep (e := e)) xs
    simp only [PyData.depth]
    omega, fun xs ys => by
    show PyData.eqvAll (xs.map (Dat.d e)) (ys.map (Dat.d e)) = true ↔ _
    exact eqv_all (Dat.inj (e := e)) xs ys⟩
instance {α : Type} {e : Rep α} {n : Nat} [Dat e n] : Dat (pTL e) (n + 1) := ⟨fun xs => .tuple (xs.map (Dat.d e)), fun {K F v xs} h => by
    obtain ⟨p, vs, rfl, hp, a⟩ := h
    exact .tup (SqT.of hp) (dp_all a), fun xs => lay_all (Dat.lay (e := e)) xs, fun xs => by
    have := dep_all (Dat.dep (e := e)) xs
    simp only [PyData.depth]
    omega, fun xs ys => by
    show PyData.eqvAll (xs.map (Dat.d e)) (ys.map (Dat.d e)) = true ↔ _
    exact eqv_all (Dat.inj (e := e)) xs ys⟩
instance {α β : Type} {e : Rep α} {f : Rep β} {n m : Nat} [Dat e n] [Dat f m] : Dat (pT2 e f) (max n m + 1) := ⟨fun x => .tuple [Dat.d e x.1, Dat.d f x.2], fun {K F v x} h => by
    obtain ⟨p, u, w, rfl, hp, a, b⟩ := h
    exact .tup (SqT.of hp) (.cons (Dat.dp a) (.cons (Dat.dp b) .nil)), fun x => by
    show (PyData.canLay0 (Dat.d e x.1) && (PyData.canLay0 (Dat.d f x.2) && PyData.canLayAll0 [])) = true
    rw [Dat.lay, Dat.lay]; rfl, fun x => by
    have a := Dat.dep (e := e) x.1
    have b := Dat.dep (e := f) x.2
    simp only [PyData.depth, PyData.depthAll]
    omega, fun x y => by
    show (PyData.eqv (Dat.d e x.1) (Dat.d e y.1) && (PyData.eqv (Dat.d f x.2) (Dat.d f y.2) && PyData.eqvAll [] [])) = true ↔ _
    have z : PyData.eqvAll [] [] = true := rfl
    rw [z, Bool.and_true, Bool.and_eq_true, Dat.inj, Dat.inj, Prod.ext_iff]⟩
theorem Dat.shp {α : Type} {e : Rep α} {n : Nat} [Dat e n] (h : n ≤ 64) (x : α) : SeqAt.shaped (Dat.d e x) = true := by
  unfold SeqAt.shaped
  rw [Dat.lay, decide_eq_true (Nat.le_trans (Dat.dep x) h)]; rfl
section
variable {α β : Type} {e : Rep α} {f : Rep β} {K : PySem.W.Frag} {σ : L2.St} {F0 H0 F F' H H' : Hp} {te tl ta tb : TE} {tt : TT} {tA : TA} {Q : VK} {v w u : V} {xs ys : List α} {x y : α} {D : Ends} {tu : TS} {p q : Addr} {n : Nat} {i : Int}
theorem c_eqD [DecidableEq α] [Dat e n] (ha : Val ta σ H v) (hb : Val tb σ H w) (f : Ex F H) (r : e.r F v x) (g : Ex F' H) (s : e.r F' w y) (h : n ≤ 64 := by decide) : Val (tOp (rEqD K) ta tb) σ H (.bl (decide (x = y))) :=
  v2 ha hb fun Q k => ⟨_, _, Dat.dp (e.mono f r), Dat.dp (e.mono g s), Dat.shp h x, Dat.shp h y, by
    have z : PyData.eqv (Dat.d e x) (Dat.d e y) = decide (x = y) := Bool.eq_iff_iff.mpr (by rw [Dat.inj, decide_eq_true_iff])
    rw [z]; exact k⟩
theorem c_neD [DecidableEq α] [Dat e n] (ha : Val ta σ H v) (hb : Val tb σ H w) (f : Ex F H) (r : e.r F v x) (g : Ex F' H) (s : e.r F' w y) (h : n ≤ 64 := by decide) : Val (tOp (rNeD K) ta tb) σ H (.bl (decide (x ≠ y))) :=
  v2 ha hb fun Q k => ⟨_, _, Dat.dp (e.mono f r), Dat.dp (e.mono g s), Dat.shp h x, Dat.shp h y, by
    have z : PyData.eqv (Dat.d e x) (Dat.d e y) = decide (x = y) := Bool.eq_iff_iff.mpr (by rw [Dat.inj, decide_eq_true_iff])
    rw [z, ← decide_not]; exact k⟩
/-! ### lists that are read -/
theorem XL.rd (z : XL e H0 F H p xs) : ∃ vs, H p = some (.lst vs) ∧ All e F vs xs := let ⟨vs, a, b⟩ := z.x; ⟨vs, a.h, b⟩
theorem L_rd (r : (pL e).r F v xs) (f : Ex F H) : ∃ p vs, v = .ref p ∧ H p = some (.lst vs) ∧ All e F vs xs := let ⟨p, vs, a, b, c⟩ := r; ⟨p, vs, a, f _ _ b, c⟩
theorem TL_rd (r : (pTL e).r F v xs) (f : Ex F H) : ∃ p vs, v = .ref p ∧ H p = some (.tup vs) ∧ All e F vs xs := let ⟨p, vs, a, b, c⟩ := r; ⟨p, vs, a, f _ _ b, c⟩
theorem ix_L (r : (pL e).r F v xs) (f : Ex F H) {i : Nat} (hx : xs[i]? = some x) : ∃ w, e.r F w x ∧ ∀ ⦃σ ta tb⦄, Val ta σ H v → Val tb σ H (.int (i : Int)) → Val (tOp (rIxL K) ta tb) σ H w := by
  obtain ⟨p, vs, rfl, hp, a⟩ := L_rd r f
  obtain ⟨w, h1, h2⟩ := a.get hx
  exact ⟨w, h2, fun _ _ _ ha hb => v2 ha hb fun Q k => ⟨p, vs, _, w, rfl, rfl, SqL.of hp, atI_nat h1, k⟩⟩
theorem ix_X (r : XL e H0 F H p xs) {i : Nat} (hx : xs[i]? = some x) : ∃ w, e.r F w x ∧ ∀ ⦃σ ta tb⦄, Val ta σ H (.ref p) → Val tb σ H (.int (i : Int)) → Val (tOp (rIxL K) ta tb) σ H w := by
  obtain ⟨vs, hp, a⟩ := r.rd
  obtain ⟨w, h1, h2⟩ := a.get hx
  exact ⟨w, h2, fun _ _ _ ha hb => v2 ha hb fun Q k => ⟨p, vs, _, w, rfl, rfl, SqL.of hp, atI_nat h1, k⟩⟩
theorem ix_TL (r : (pTL e).r F v xs) (f : Ex F H) {i : Nat} (hx : xs[i]? = some x) : ∃ w, e.r F w x ∧ ∀ ⦃σ ta tb⦄, Val ta σ H v → Val tb σ H (.int (i : Int)) → Val (tOp (rIxT K) ta tb) σ H w := by
  obtain ⟨p, vs, rfl, hp, a⟩ := TL_rd r f
  obtain ⟨w, h1, h2⟩ := a.get hx
  exact ⟨w, h2, fun _ _ _ ha hb => v2 ha hb fun Q k => ⟨p, vs, _, w, rfl, rfl, SqT.of hp, atI_nat h1, k⟩⟩
theorem ix_S (f : Ex F H) {ys : List Int} {i : Nat} {x : Int} (r : (pScr K).r F v ys) (hx : ys[i]? = some x) : ∀ ⦃σ ta tb⦄, Val ta σ H v → Val tb σ H (.int (i : Int)) → Val (tOp (rIxL K) ta tb) σ H (.int x) := by
  obtain ⟨p, rfl, s⟩ := (pScr K).mono f r
  exact fun _ _ _ ha hb => v2 ha hb fun Q k => ⟨p, _, _, .int x, rfl, rfl, s, atI_nat (by rw [List.getElem?_map, hx]; rfl), k⟩
theorem ix_2a {e : Rep α} {f : Rep β} {x : α × β} (r : (pT2 e f).r F v x) (h : Ex F H) : ∃ w, e.r F w x.1 ∧ ∀ ⦃σ ta tb⦄, Val ta σ H v → Val tb σ H (.int 0) → Val (tOp (rIxT K) ta tb) σ H w := by
  obtain ⟨p, u, w, rfl, hp, a, b⟩ := r
  exact ⟨u, a, fun _ _ _ ha hb => v2 ha hb fun Q k => ⟨p, _, _, u, rfl, rfl, SqT.of (h _ _ hp), rfl, k⟩⟩
theorem ix_2b {e : Rep α} {f : Rep β} {x : α × β} (r : (pT2 e f).r F v x) (h : Ex F H) : ∃ w, f.r F w x.2 ∧ ∀ ⦃σ ta tb⦄, Val ta σ H v → Val tb σ H (.int 1) → Val (tOp (rIxT K) ta tb) σ H w := by
  obtain ⟨p, u, w, rfl, hp, a, b⟩ := r
  exact ⟨w, b, fun _ _ _ ha hb => v2 ha hb fun Q k => ⟨p, _, _, w, rfl, rfl, SqT.of (h _ _ hp), rfl, k⟩⟩
/-! len -/
def rLen (K : PySem.W.Frag) : List V → Hp → VK → Prop := fun xs H Q => ∃ p ys, xs = [.ref p] ∧ (SqL K H p ys ∨ SqT K H p ys) ∧ Q (.int ys.length) H
theorem len_L (r : (pL e).r F v xs) (f : Ex F H) (ha : Val ta σ H v) : Val (tCB (rLen K) (tCons ta tNil)) σ H (.int ((xs.length : Nat) : Int)) := by
  obtain ⟨p, vs, rfl, hp, a⟩ := L_rd r f
  exact v_cb1 ha fun Q k => ⟨p, vs, rfl, .inl (SqL.of hp), by rw [a.len]; exact k⟩
theorem len_TL (r : (pTL e).r F v xs) (f : Ex F H) (ha : Val ta σ H v) : Val (tCB (rLen K) (tCons ta tNil)) σ H (.int ((xs.length : Nat) : Int)) := by
  obtain ⟨p, vs, rfl, hp, a⟩ := TL_rd r f
  exact v_cb1 ha fun Q k => ⟨p, vs, rfl, .inr (SqT.of hp), by rw [a.len]; exact k⟩
theorem len_X (r : XL e H0 F H p xs) (ha : Val ta σ H (.ref p)) : Val (tCB (rLen K) (tCons ta tNil)) σ H (.int ((xs.length : Nat) : Int)) := by
  obtain ⟨vs, hp, a⟩ := r.rd
  exact v_cb1 ha fun Q k => ⟨p, vs, rfl, .inl (SqL.of hp), by rw [a.len]; exact k⟩
theorem len_S {ys : List Int} (r : (pScr K).r F v ys) (f : Ex F H) (ha : Val ta σ H v) : Val (tCB (rLen K) (tCons ta tNil)) σ H (.int ((ys.length : Nat) : Int)) := by
  obtain ⟨p, rfl, s⟩ := (pScr K).mono f r
  exact v_cb1 ha fun Q k => ⟨p, _, rfl, .inl s, by rw [List.length_map]; exact k⟩
theorem len_T2 {e : Rep α} {f : Rep β} {x : α × β} (r : (pT2 e f).r F v x) (h : Ex F H) (ha : Val ta σ H v) : Val (tCB (rLen K) (tCons ta tNil)) σ H (.int ((2 : Nat) : Int)) := by
  obtain ⟨p, u, w, rfl, hp, a, b⟩ := r
  exact v_cb1 ha fun Q k => ⟨p, _, rfl, .inr (SqT.of (h _ _ hp)), k⟩
/-! ### new things -/
def kLst (Q : VK) (xs : List V) (H : Hp) : Prop := xs.length ≤ sizeLine ∧ ∀ p, H p = none → Q (.ref p) (upd H p (.lst xs))
def kTup (Q : VK) (xs : List V) (H : Hp) : Prop := xs.length ≤ sizeLine ∧ ∀ p, H p = none → Q (.ref p) (upd H p (.tup xs))
theorem small_len {n : Nat} (h : n < 1000000) : n < sizeLine := by rw [sizeLine_eq]; omega
theorem n_lstX {vs : List V} (a : All e F vs xs) (hl : xs.length < 1000000) (w : Wf F0 H0 F H) (k : ∀ p H', H p = none → Wf F H F H' → XL e H0 F H' p xs → Q (.ref p) H') :
    kLst Q vs H := ⟨by rw [a.len]; exact Nat.le_of_lt (small_len hl), fun p hp => k p _ hp (Wf.newX w.f hp) ⟨vs, Xc.mk' w hp, a⟩⟩
theorem n_lst {vs : List V} (a : All e F vs xs) (hl : xs.length < 1000000) (w : Wf F0 H0 F H) (k : ∀ p F' H', Wf F H F' H' → (pL e).r F' (.ref p) xs → Q (.ref p) H') :
    kLst Q vs H := ⟨by rw [a.len]; exact Nat.le_of_lt (small_len hl), fun p hp => k p _ _ (Wf.new w.f hp) ⟨p, vs, rfl, upd_same, a.mono (Ex.new (w.f.non hp))⟩⟩
theorem n_tup2 {e : Rep α} {f : Rep β} {x : α} {y : β} (a : e.r F v x) (b : f.r F w y) (h : Wf F0 H0 F H) (k : ∀ p F' H', Wf F H F' H' → (pT2 e f).r F' (.ref p) (x, y) → Q (.ref p) H') :
    kTup Q [v, w] H := ⟨Nat.le_of_lt (small_len (n := 2) (by decide)), fun p hp => k p _ _ (Wf.new h.f hp) ⟨p, v, w, rfl, upd_same, e.mono (Ex.new (h.f.non hp)) a, f.mono (Ex.new (h.f.non hp)) b⟩⟩
/-- one's own list is changed no more -/
theorem XL.frzE (x : XL e H0 F H p xs) (w : Wf F0 H0 F H) : ∃ F', Wf F0 H0 F' H ∧ Ex F F' ∧ (pL e).r F' (.ref p) xs ∧ (∀ q o, Xc H0 F H q o → q ≠ p → Xc H0 F' H q o) := by
  obtain ⟨vs, a, b⟩ := x.x
  exact ⟨_, w.freeze a, Ex.new a.n, ⟨p, vs, rfl, upd_same, b.mono (Ex.new a.n)⟩, fun q o z h => z.frz a h⟩
/-- for a while one's own list is read by others -/
theorem XL.lend (x : XL e H0 F H p xs) (w : Wf F0 H0 F H) : ∃ F', Ex F' H ∧ Ex F F' ∧ (pL e).r F' (.ref p) xs := let ⟨F', a, b, c, _⟩ := x.frzE w; ⟨F', a.f, b, c⟩
/-! append, and the like -/
theorem a_app (x : XL e H0 F H p xs) (w : Wf F0 H0 F H) (hl : xs.length < 1000000) (r : e.r F v y) (k : ∀ H', Wf F0 H0 F H' → XL e H0 F H' p (xs ++ [y]) → (∀ q o, H q = some o → q ≠ p → H' q = some o) → Q .non H') : rAppend (.ref p) [v] H Q := by
  obtain ⟨vs, a, b⟩ := x.x
  exact ⟨p, vs, v, rfl, rfl, a.h, by rw [b.len]; exact small_len hl, k _ (w.set a) ⟨_, a.set, b.snoc r⟩ fun q o h hq => by rw [upd_ne hq]; exact h⟩
/-- another's place is as it was -/
theorem Xc.kept {o : HO} (x : Xc H0 F H q o) (h : ∀ q o, H q = some o → q ≠ p → H' q = some o) (hq : q ≠ p) : Xc H0 F H' q o := ⟨x.z, x.n, h _ _ x.h hq⟩
theorem XL.kept (x : XL e H0 F H q xs) (h : ∀ q o, H q = some o → q ≠ p → H' q = some o) (hq : q ≠ p) : XL e H0 F H' q xs := let ⟨vs, a, b⟩ := x.x; ⟨vs, a.kept h hq, b⟩
/-! ### loops -/
variable {S : Type} {R : Type} {g : TG} {tb : TS} {body : β → S → (S → Prop) → (S → Prop) → Prop} {s0 : S} {k : S → Prop} {vs : List V} {zs : List β} {b : Rep β}
/-- over a list that stays -/
theorem w_forL (Inv : S → L2.St → Hp → Hp → Prop) (r : (pL b).r F v zs) (hW : forW zs s0 body k) (h0 : Inv s0 σ F H)
    (ex : ∀ s σ' F' H', Inv s σ' F' H' → Ex F F' ∧ Ex F' H') (f : Ex F H)
    (turn : ∀ (N Bk : L2.St → Hp → Prop) x u s σ' F' H' (nx bk : S → Prop), Inv s σ' F' H' → x ∈ zs → b.r F' u x → body x s nx bk → (∀ s' σ2 F2 H2, Inv s' σ2 F2 H2 → nx s' → N σ2 H2) → (∀ s' σ2 F2 H2, Inv s' σ2 F2 H2 → bk s' → Bk σ2 H2) →
      g u σ' H' fun σ2 H2 => tb { D with nx := N, ct := N, bk := Bk } σ2 H2)
    (done : ∀ s σ' F' H', Inv s σ' F' H' → k s → D.nx σ' H') :
    ∃ a, v = .ref a ∧ (∃ xs, SqL K H a xs) ∧ (fun J H1 => ∃ W : Nat → Nat → L2.St → Hp → Prop, (∃ m, W 0 m σ H1) ∧ ∀ i m σ H, W i m σ H →
      (J.stop i H ∧ D.nx σ H) ∨ (J.go i H ∧ ∃ N : L2.St → Hp → Prop, (∀ σ' H', N σ' H' → ∃ m', m' < m ∧ W (i + 1) m' σ' H') ∧ ∀ x H', J.yld i H x H' → g x σ H' fun σ2 H2 => tb { D with nx := N, ct := N, bk := D.nx } σ2 H2)) (Itl K a) H := by
  obtain ⟨p, vs, rfl, hp, a⟩ := r
  refine ⟨p, rfl, ⟨_, SqL.of (f _ _ hp)⟩, for_list (xs := vs) (fun i σ' H' => ∃ s F', Inv s σ' F' H' ∧ forW (zs.drop i) s body k) ⟨s0, F, h0, hW⟩ (fun i σ' H' _ ⟨s, F', hI, _⟩ => SqL.of ((ex _ _ _ _ hI).2 _ _ ((ex _ _ _ _ hI).1 _ _ hp))) ?_ ?_⟩
  · rintro i u σ' H' hu ⟨s, F', hI, hw⟩
    obtain ⟨x, hx, rx⟩ := a.got hu
    have e : zs.drop i = x :: zs.drop (i + 1) := by
      obtain ⟨h1, h2⟩ := List.getElem?_eq_some_iff.mp hx
      rw [← h2]; exact List.drop_eq_getElem_cons h1
    rw [e] at hw
    exact turn _ _ x u s σ' F' H' _ _ hI (List.mem_of_getElem? hx) (b.mono (ex _ _ _ _ hI).1 rx) hw (fun s' σ2 F2 H2 q n => ⟨s', F2, q, n⟩) (fun s' σ2 F2 H2 q n => done s' σ2 F2 H2 q n)
  · rintro σ' H' ⟨s, F', hI, hw⟩
    rw [List.drop_of_length_le (by rw [a.len]; exact Nat.le_refl _)] at hw
    exact done _ _ _ _ hI hw
/-- over range(n) -/
theorem w_forR {n : Nat} {body : Nat → S → (S → Prop) → (S → Prop) → Prop} (Inv : S → L2.St → Hp → Hp → Prop) (hn : n < 1000000) (hW : forW (List.range n) s0 body k) (h0 : Inv s0 σ F H)
    (turn : ∀ (N Bk : L2.St → Hp → Prop) (x : Nat) s σ' F' H' (nx bk : S → Prop), Inv s σ' F' H' → x < n → body x s nx bk → (∀ s' σ2 F2 H2, Inv s' σ2 F2 H2 → nx s' → N σ2 H2) → (∀ s' σ2 F2 H2, Inv s' σ2 F2 H2 → bk s' → Bk σ2 H2) →
      g (.int (x : Int)) σ' H' fun σ2 H2 => tb { D with nx := N, ct := N, bk := Bk } σ2 H2)
    (done : ∀ s σ' F' H', Inv s σ' F' H' → k s → D.nx σ' H') :
    ∃ j : Int, [V.int (n : Int)] = [.int j] ∧ -(2 ^ 62) ≤ j ∧ j < 2 ^ 62 ∧ (fun J H1 => ∃ W : Nat → Nat → L2.St → Hp → Prop, (∃ m, W 0 m σ H1) ∧ ∀ i m σ H, W i m σ H →
      (J.stop i H ∧ D.nx σ H) ∨ (J.go i H ∧ ∃ N : L2.St → Hp → Prop, (∀ σ' H', N σ' H' → ∃ m', m' < m ∧ W (i + 1) m' σ' H') ∧ ∀ x H', J.yld i H x H' → g x σ H' fun σ2 H2 => tb { D with nx := N, ct := N, bk := D.nx } σ2 H2)) (Itr 0 j.toNat) H := by
  refine ⟨(n : Int), rfl, by omega, by omega, for_range (lo := 0) (n := n) (fun i σ' H' => ∃ s F', Inv s σ' F' H' ∧ forW ((List.range n).drop i) s body k) ⟨s0, F, h0, hW⟩ ?_ ?_⟩
  · rintro i σ' H' hi ⟨s, F', hI, hw⟩
    have e : (List.range n).drop i = i :: (List.range n).drop (i + 1) := by
      have h1 : i < (List.range n).length := by rw [List.length_range]; exact hi
      rw [List.drop_eq_getElem_cons h1, List.getElem_range]
    rw [e] at hw
    have z : (0 : Int) + (i : Int) = (i : Int) := Int.zero_add _
    rw [z]
    exact turn _ _ i s σ' F' H' _ _ hI hi hw (fun s' σ2 F2 H2 q n => ⟨s', F2, q, n⟩) (fun s' σ2 F2 H2 q n => done s' σ2 F2 H2 q n)
  · rintro σ' H' ⟨s, F', hI, hw⟩
    rw [List.drop_of_length_le (by rw [List.length_range]; exact Nat.le_refl _)] at hw
    exact done _ _ _ _ hI hw
/-- while -/
theorem w_while {test : S → (Bool → Prop) → Prop} {body : S → (S → Prop) → (S → Prop) → Prop} (Inv : S → L2.St → Hp → Hp → Prop) (hW : whileW test body s0 k) (h0 : Inv s0 σ F H)
    (cond : ∀ s σ' F' H' (T : Bool → Prop) (Qc : Bool → Hp → Prop), Inv s σ' F' H' → test s T → (∀ b F2 H2, Inv s σ' F2 H2 → T b → Qc b H2) → tt σ' H' Qc)
    (turn : ∀ (N Bk : L2.St → Hp → Prop) s σ' F' H' (nx bk : S → Prop), Inv s σ' F' H' → body s nx bk → (∀ s' σ2 F2 H2, Inv s' σ2 F2 H2 → nx s' → N σ2 H2) → (∀ s' σ2 F2 H2, Inv s' σ2 F2 H2 → bk s' → Bk σ2 H2) →
      tb { D with nx := N, ct := N, bk := Bk } σ' H')
    (done : ∀ s σ' F' H', Inv s σ' F' H' → k s → D.nx σ' H') : tWhile tt tb D σ H := by
  obtain ⟨I, ⟨m0, hm⟩, hs⟩ := hW
  refine ⟨fun m σ' H' => ∃ s F', Inv s σ' F' H' ∧ I m s, ⟨m0, s0, F, h0, hm⟩, ?_⟩
  rintro m σ' H' ⟨s, F', hI, im⟩
  refine cond s σ' F' H' _ _ hI (hs m s im) fun b F2 H2 hI2 hb => ?_
  cases b with
  | true =>
    rw [if_pos rfl] at hb ⊢
    exact ⟨_, fun _ _ q => q, turn (fun σ2 H2 => ∃ m', m' < m ∧ ∃ s' F', Inv s' σ2 F' H2 ∧ I m' s') _ s σ' F2 H2 _ _ hI2 hb (fun s' σ2 F3 H3 q ⟨m', l, i⟩ => ⟨m', l, s', F3, q, i⟩) (fun s' σ2 F3 H3 q n => done s' σ2 F3 H3 q n)⟩
  | false =>
    rw [if_neg (by simp)] at hb ⊢
    exact done s σ' F2 H2 hI2 hb
/-- ways that meet again -/
def jn {S : Type} (f : (S → Prop) → Prop) (k : S → Prop) : Prop := f k
theorem q_jn {f : (S → Prop) → Prop} {t u : TS} (hW : jn f k) (Inv : S → L2.St → Hp → Hp → Prop)
    (h1 : ∀ N : L2.St → Hp → Prop, (∀ s σ' F' H', Inv s σ' F' H' → k s → N σ' H') → f k → t { D with nx := N } σ H) (h2 : ∀ s σ' F' H', Inv s σ' F' H' → k s → u D σ' H') : tSeq t u D σ H :=
  h1 (u D) (fun s σ' F' H' q n => h2 s σ' F' H' q n) hW
theorem e_jn {f : (S → Prop) → Prop} {Qt : Bool → Hp → Prop} (hW : jn f k) (Inv : S → Bool → Hp → Hp → Prop)
    (h1 : ∀ N : Bool → Hp → Prop, (∀ s b F' H', Inv s b F' H' → k s → N b H') → f k → tt σ H N) (h2 : ∀ s b F' H', Inv s b F' H' → k s → Qt b H') : tt σ H Qt :=
  h1 Qt (fun s σ' F' H' q n => h2 s σ' F' H' q n) hW
/-! ### comprehensions -/
/-- what a comprehension asks of its source's value -/
def kCpL (K : PySem.W.Frag) (g : TG) (tc : TT) (te : TE) (vs : List Nat) (σ : L2.St) (Q : VK) (v : V) (H : Hp) : Prop := ∃ a, v = .ref a ∧ (∃ xs, SqL K H a xs) ∧ (fun J H1 => ∀ D, H1 D = none → ∃ W : Nat → Nat → Hp → Prop, (∃ m, W 0 m (upd H1 D (.lst []))) ∧ ∀ i m H, W i m H →
      (J.stop i H ∧ Q (.ref D) H) ∨ (J.go i H ∧ ∃ Nx : Hp → Prop, (∀ H', Nx H' → ∃ m', m' < m ∧ W (i + 1) m' H') ∧ ∀ x H', J.yld i H x H' → g x (wipe σ vs) H' fun σ2 H2 => wipe σ2 vs = wipe σ vs ∧ tc σ2 H2 fun b H3 =>
        if b = true then te σ2 H3 fun y H4 => ∃ acc, H4 D = some (.lst acc) ∧ acc.length < sizeLine ∧ Nx (upd H4 D (.lst (acc ++ [y]))) else Nx H3)) (Itl K a) H
def kCpR (g : TG) (tc : TT) (te : TE) (vs : List Nat) (σ : L2.St) (Q : VK) (v : V) (H : Hp) : Prop := ∃ j : Int, [v] = [.int j] ∧ -(2 ^ 62) ≤ j ∧ j < 2 ^ 62 ∧ (fun J H1 => ∀ D, H1 D = none → ∃ W : Nat → Nat → Hp → Prop, (∃ m, W 0 m (upd H1 D (.lst []))) ∧ ∀ i m H, W i m H →
      (J.stop i H ∧ Q (.ref D) H) ∨ (J.go i H ∧ ∃ Nx : Hp → Prop, (∀ H', Nx H' → ∃ m', m' < m ∧ W (i + 1) m' H') ∧ ∀ x H', J.yld i H x H' → g x (wipe σ vs) H' fun σ2 H2 => wipe σ2 vs = wipe σ vs ∧ tc σ2 H2 fun b H3 =>
        if b = true then te σ2 H3 fun y H4 => ∃ acc, H4 D = some (.lst acc) ∧ acc.length < sizeLine ∧ Nx (upd H4 D (.lst (acc ++ [y]))) else Nx H3)) (Itr 0 j.toNat) H
theorem w_compC {ws : List V} {tc : TT} {vs : List Nat} {bd : β → (Option α → Prop) → Prop} {kk : List α → Prop} (hp : H p = some (.lst ws)) (a : All b F ws zs) (w : Wf F0 H0 F H) (hn : zs.length < 1000000) (hW : compW zs bd kk)
    (turn : ∀ (Qy : V → Hp → Prop) (Qn : Hp → Prop) x u F1 H1 (R : Option α → Prop), Wf F H F1 H1 → x ∈ zs → b.r F1 u x → bd x R → (∀ y z F2 H2, Wf F1 H1 F2 H2 → e.r F2 y z → R (some z) → Qy y H2) → (∀ F2 H2, Wf F1 H1 F2 H2 → R none → Qn H2) →
      g u (wipe σ vs) H1 fun σ2 H2 => wipe σ2 vs = wipe σ vs ∧ tc σ2 H2 fun b H3 => if b = true then te σ2 H3 Qy else Qn H3)
    (done : ∀ p ys F' H', H p = none → Wf F H F' H' → XL e H0 F' H' p ys → kk ys → Q (.ref p) H') :
    kCpL K g tc te vs σ Q (V.ref p) H := by
  unfold kCpL
  refine ⟨p, rfl, ⟨_, SqL.of hp⟩, fun D hD => lc_list (xs := ws) (fun i H' => ∃ F' ac ys, Wf F H F' H' ∧ Xc H F' H' D (.lst ac) ∧ All e F' ac ys ∧ ys.length ≤ i ∧ compG (zs.drop i) ys bd kk)
    ⟨F, [], [], Wf.newX w.f hD, Xc.mk' (Wf.id w.f) hD, trivial, Nat.le_refl _, hW⟩ (fun i H' _ ⟨F', ac, ys, q, _⟩ => SqL.of (q.h _ _ hp)) ?_ ?_⟩
  · rintro i u H' hu ⟨F', ac, ys, q, xc, al, hl, hw⟩
    obtain ⟨x, hx, rx⟩ := a.got hu
    obtain ⟨h1, h2⟩ := List.getElem?_eq_some_iff.mp hx
    have e' : zs.drop i = x :: zs.drop (i + 1) := by rw [← h2]; exact List.drop_eq_getElem_cons h1
    rw [e'] at hw
    refine turn _ _ x u F' H' _ q (List.mem_of_getElem? hx) (b.mono q.g rx) hw (fun y z F2 H2 s ry hR => ?_) (fun F2 H2 s hR => ?_)
    · have xc2 := xc.step s
      exact ⟨ac, xc2.h, by rw [al.len]; exact small_len (by omega), F2, ac ++ [y], ys ++ [z], (q.tr s).set xc2, xc2.set, (al.mono s.g).snoc ry, by rw [List.length_append]; exact Nat.succ_le_succ hl, hR⟩
    · exact ⟨F2, ac, ys, q.tr s, xc.step s, al.mono s.g, Nat.le_succ_of_le hl, by simpa using hR⟩
  · rintro H' ⟨F', ac, ys, q, xc, al, hl, hw⟩
    rw [List.drop_of_length_le (by rw [a.len]; exact Nat.le_refl _)] at hw
    exact done D ys F' H' hD q ⟨ac, ⟨w.h.non hD, xc.n, xc.h⟩, al⟩ hw
theorem w_compL {tc : TT} {vs : List Nat} {bd : β → (Option α → Prop) → Prop} {kk : List α → Prop} (r : (pL b).r F v zs) (w : Wf F0 H0 F H) (hn : zs.length < 1000000) (hW : compW zs bd kk)
    (turn : ∀ (Qy : V → Hp → Prop) (Qn : Hp → Prop) x u F1 H1 (R : Option α → Prop), Wf F H F1 H1 → x ∈ zs → b.r F1 u x → bd x R → (∀ y z F2 H2, Wf F1 H1 F2 H2 → e.r F2 y z → R (some z) → Qy y H2) → (∀ F2 H2, Wf F1 H1 F2 H2 → R none → Qn H2) →
      g u (wipe σ vs) H1 fun σ2 H2 => wipe σ2 vs = wipe σ vs ∧ tc σ2 H2 fun b H3 => if b = true then te σ2 H3 Qy else Qn H3)
    (done : ∀ p ys F' H', H p = none → Wf F H F' H' → XL e H0 F' H' p ys → kk ys → Q (.ref p) H') :
    kCpL K g tc te vs σ Q v H := by
  obtain ⟨p, ws, rfl, hp, a⟩ := r
  exact w_compC (w.f _ _ hp) a w hn hW turn done
theorem w_compX {tc : TT} {vs : List Nat} {bd : β → (Option α → Prop) → Prop} {kk : List α → Prop} (r : XL b H0 F H p zs) (w : Wf F0 H0 F H) (hn : zs.length < 1000000) (hW : compW zs bd kk)
    (turn : ∀ (Qy : V → Hp → Prop) (Qn : Hp → Prop) x u F1 H1 (R : Option α → Prop), Wf F H F1 H1 → x ∈ zs → b.r F1 u x → bd x R → (∀ y z F2 H2, Wf F1 H1 F2 H2 → e.r F2 y z → R (some z) → Qy y H2) → (∀ F2 H2, Wf F1 H1 F2 H2 → R none → Qn H2) →
      g u (wipe σ vs) H1 fun σ2 H2 => wipe σ2 vs = wipe σ vs ∧ tc σ2 H2 fun b H3 => if b = true then te σ2 H3 Qy else Qn H3)
    (done : ∀ p ys F' H', H p = none → Wf F H F' H' → XL e H0 F' H' p ys → kk ys → Q (.ref p) H') :
    kCpL K g tc te vs σ Q (V.ref p) H := by
  obtain ⟨ws, hp, a⟩ := r.rd
  exact w_compC hp a w hn hW turn done
theorem w_compR {tc : TT} {vs : List Nat} {n : Nat} {bd : Nat → (Option α → Prop) → Prop} {kk : List α → Prop} (w : Wf F0 H0 F H) (hn : n < 1000000) (hW : compW (List.range n) bd kk)
    (turn : ∀ (Qy : V → Hp → Prop) (Qn : Hp → Prop) (x : Nat) F1 H1 (R : Option α → Prop), Wf F H F1 H1 → x < n → bd x R → (∀ y z F2 H2, Wf F1 H1 F2 H2 → e.r F2 y z → R (some z) → Qy y H2) → (∀ F2 H2, Wf F1 H1 F2 H2 → R none → Qn H2) →
      g (.int (x : Int)) (wipe σ vs) H1 fun σ2 H2 => wipe σ2 vs = wipe σ vs ∧ tc σ2 H2 fun b H3 => if b = true then te σ2 H3 Qy else Qn H3)
    (done : ∀ p ys F' H', H p = none → Wf F H F' H' → XL e H0 F' H' p ys → kk ys → Q (.ref p) H') :
    kCpR g tc te vs σ Q (.int (n : Int)) H := by
  unfold kCpR
  refine ⟨(n : Int), rfl, by omega, by omega, fun D hD => lc_range (lo := 0) (n := n) (fun i H' => ∃ F' ac ys, Wf F H F' H' ∧ Xc H F' H' D (.lst ac) ∧ All e F' ac ys ∧ ys.length ≤ i ∧ compG ((List.range n).drop i) ys bd kk)
    ⟨F, [], [], Wf.newX w.f hD, Xc.mk' (Wf.id w.f) hD, trivial, Nat.le_refl _, hW⟩ ?_ ?_⟩
  · rintro i H' hi ⟨F', ac, ys, q, xc, al, hl, hw⟩
    have e' : (List.range n).drop i = i :: (List.range n).drop (i + 1) := by
      have h1 : i < (List.range n).length := by rw [List.length_range]; exact hi
      rw [List.drop_eq_getElem_cons h1, List.getElem_range]
    rw [e'] at hw
    have z : (0 : Int) + (i : Int) = (i : Int) := Int.zero_add _
    rw [z]
    refine turn _ _ i F' H' _ q hi hw (fun y z F2 H2 s ry hR => ?_) (fun F2 H2 s hR => ?_)
    · have xc2 := xc.step s
      exact ⟨ac, xc2.h, by rw [al.len]; exact small_len (by omega), F2, ac ++ [y], ys ++ [z], (q.tr s).set xc2, xc2.set, (al.mono s.g).snoc ry, by rw [List.length_append]; exact Nat.succ_le_succ hl, hR⟩
    · exact ⟨F2, ac, ys, q.tr s, xc.step s, al.mono s.g, Nat.le_succ_of_le hl, by simpa using hR⟩
  · rintro H' ⟨F', ac, ys, q, xc, al, hl, hw⟩
    rw [List.drop_of_length_le (by rw [List.length_range]; exact Nat.le_refl _)] at hw
    exact done D ys F' H' hD q ⟨ac, ⟨w.h.non hD, xc.n, xc.h⟩, al⟩ hw
end
end Wk

namespace Wk
open PySem L2
section
variable {X : Cx} {σ : L2.St} {H : Hp} {te tl ta tb : TE} {tt tc : TT} {tA : TA} {Q : VK} {v w x y z : V} {D : Ends} {tu : TS} {g : TG} {K : PySem.W.Frag} {p q : Prop}
theorem f_L (h : Val tl σ H v) (k : ∃ a, v = .ref a ∧ (∃ xs, SqL K H a xs) ∧ (fun J H1 => ∃ W : Nat → Nat → L2.St → Hp → Prop, (∃ m, W 0 m σ H1) ∧ ∀ i m σ H, W i m σ H →
      (J.stop i H ∧ D.nx σ H) ∨ (J.go i H ∧ ∃ N : L2.St → Hp → Prop, (∀ σ' H', N σ' H' → ∃ m', m' < m ∧ W (i + 1) m' σ' H') ∧ ∀ x H', J.yld i H x H' → g x σ H' fun σ2 H2 => tu { D with nx := N, ct := N, bk := D.nx } σ2 H2)) (Itl K a) H) : tFor (iList K tl) g tu D σ H := h _ k
theorem f_LE (h : tl σ H fun v H => ∃ a, v = .ref a ∧ (∃ xs, SqL K H a xs) ∧ (fun J H1 => ∃ W : Nat → Nat → L2.St → Hp → Prop, (∃ m, W 0 m σ H1) ∧ ∀ i m σ H, W i m σ H →
      (J.stop i H ∧ D.nx σ H) ∨ (J.go i H ∧ ∃ N : L2.St → Hp → Prop, (∀ σ' H', N σ' H' → ∃ m', m' < m ∧ W (i + 1) m' σ' H') ∧ ∀ x H', J.yld i H x H' → g x σ H' fun σ2 H2 => tu { D with nx := N, ct := N, bk := D.nx } σ2 H2)) (Itl K a) H) : tFor (iList K tl) g tu D σ H := h
theorem f_R (h : Val te σ H v) (k : ∃ j : Int, [v] = [.int j] ∧ -(2 ^ 62) ≤ j ∧ j < 2 ^ 62 ∧ (fun J H1 => ∃ W : Nat → Nat → L2.St → Hp → Prop, (∃ m, W 0 m σ H1) ∧ ∀ i m σ H, W i m σ H →
      (J.stop i H ∧ D.nx σ H) ∨ (J.go i H ∧ ∃ N : L2.St → Hp → Prop, (∀ σ' H', N σ' H' → ∃ m', m' < m ∧ W (i + 1) m' σ' H') ∧ ∀ x H', J.yld i H x H' → g x σ H' fun σ2 H2 => tu { D with nx := N, ct := N, bk := D.nx } σ2 H2)) (Itr 0 j.toNat) H) : tFor (iRng1 (tCons te tNil)) g tu D σ H := h _ k
theorem f_RE (h : te σ H fun v H => ∃ j : Int, [v] = [.int j] ∧ -(2 ^ 62) ≤ j ∧ j < 2 ^ 62 ∧ (fun J H1 => ∃ W : Nat → Nat → L2.St → Hp → Prop, (∃ m, W 0 m σ H1) ∧ ∀ i m σ H, W i m σ H →
      (J.stop i H ∧ D.nx σ H) ∨ (J.go i H ∧ ∃ N : L2.St → Hp → Prop, (∀ σ' H', N σ' H' → ∃ m', m' < m ∧ W (i + 1) m' σ' H') ∧ ∀ x H', J.yld i H x H' → g x σ H' fun σ2 H2 => tu { D with nx := N, ct := N, bk := D.nx } σ2 H2)) (Itr 0 j.toNat) H) : tFor (iRng1 (tCons te tNil)) g tu D σ H := h
theorem c_LE {vs : List Nat} (h : tl σ H (kCpL K g tc te vs σ Q)) : tLc (iList K tl) g tc te vs σ H Q := h
theorem c_RE {vs : List Nat} (h : ta σ H (kCpR g tc te vs σ Q)) : tLc (iRng1 (tCons ta tNil)) g tc te vs σ H Q := h
theorem c_yes {A B : Hp → Prop} (h : A H) : tYes σ H fun b H3 => if b = true then A H3 else B H3 := by show if true = true then A H else B H; rw [if_pos rfl]; exact h
theorem c_if [Decidable p] {A B : Hp → Prop} (h : Ans tt σ H (decide p)) (h1 : p → A H) (h2 : ¬ p → B H) : tt σ H fun b H3 => if b = true then A H3 else B H3 := h _ (by
  by_cases hp : p
  · rw [decide_eq_true hp, if_pos rfl]; exact h1 hp
  · rw [decide_eq_false hp, if_neg (by simp)]; exact h2 hp)
theorem b_if {p : Prop} [Decidable p] {A B : Prop} (h1 : p → A) (h2 : ¬ p → B) : if decide p = true then A else B := by
  by_cases hp : p
  · rw [decide_eq_true hp, if_pos rfl]; exact h1 hp
  · rw [decide_eq_false hp, if_neg (by simp)]; exact h2 hp
theorem bb_if {b : Bool} {A B : Prop} (h1 : b = true → A) (h2 : ¬ b = true → B) : if b = true then A else B := by
  by_cases hp : b = true
  · rw [if_pos hp]; exact h1 hp
  · rw [if_neg hp]; exact h2 hp
theorem e_op {r : R2} (h : ta σ H fun x H1 => tb σ H1 fun y H2 => r x y H2 Q) : tOp r ta tb σ H Q := h
theorem rv2 {r : R2} (h : Val (tOp r (tC x) (tC y)) [] H z) (q : Q z H) : r x y H Q := h Q q
theorem rv2T {r : R2} {b : Bool} {Qt : Bool → Hp → Prop} (h : Val (tOp r (tC x) (tC y)) [] H (.bl b)) (q : Qt b H) : r x y H (fun x H' => ∃ k, x = .bl k ∧ Qt k H') := h _ ⟨b, rfl, q⟩
theorem rcb1 {r : List V → Hp → VK → Prop} (h : Val (tCB r (tCons (tC x) tNil)) [] H z) (q : Q z H) : r [x] H Q := h Q q
theorem rcb2 {r : List V → Hp → VK → Prop} (h : Val (tCB r (tCons (tC x) (tCons (tC y) tNil))) [] H z) (q : Q z H) : r [x, y] H Q := h Q q
theorem e_cb {r : List V → Hp → VK → Prop} (h : tA σ H fun vs H1 => r vs H1 Q) : tCB r tA σ H Q := h
theorem e_tB {Qt : Bool → Hp → Prop} (h : te σ H fun x H1 => ∃ c, x = .bl c ∧ Qt c H1) : tB te σ H Qt := h
theorem e_tT {Qt : Bool → Hp → Prop} (h : te σ H fun x H1 => ∃ c, x = .bl c ∧ Qt c H1) : tTest te σ H Qt := h
theorem e_bl {Qt : Bool → Hp → Prop} {b : Bool} (h : Qt b H) : ∃ c, V.bl b = .bl c ∧ Qt c H := ⟨b, rfl, h⟩
theorem e_tNot {Qt : Bool → Hp → Prop} (h : tt σ H fun c H1 => Qt (!c) H1) : tNot tt σ H Qt := h
theorem e_ans {Qt : Bool → Hp → Prop} {b : Bool} (h : Ans tt σ H b) (q : Qt b H) : tt σ H Qt := h Qt q
theorem e_tup (h : tA σ H (kTup Q)) : tTup tA σ H Q := h
theorem e_lst (h : tA σ H (kLst Q)) : tLst tA σ H Q := h
theorem a_asgG (h : te σ H fun v H1 => g v σ H1 D.nx) : tAsg te g D σ H := h
theorem a_augE {i : Nat} {ti : TIp} (hx : σ[i]? = some (some x)) (h : te σ H fun y H1 => ti x y H1 fun z H2 => D.nx (σ.set i (some z)) H2) : tAug i te ti D σ H := ⟨x, hx, h⟩
theorem a_augV {i : Nat} {ti : TIp} (hx : σ[i]? = some (some x)) (h : Val te σ H y) (hv : Val (tOp ti (tC x) (tC y)) [] H z) (q : D.nx (σ.set i (some z)) H) : tAug i te ti D σ H := ⟨x, hx, h _ (hv _ q)⟩
theorem XL.base {α : Type} {e : Rep α} {F0 H0 F F' H' : Hp} {p : Addr} {xs : List α} (x : XL e H F' H' p xs) (w : Wf F0 H0 F H) : XL e H0 F' H' p xs := let ⟨vs, a, b⟩ := x.x; ⟨vs, ⟨w.h.non a.z, a.n, a.h⟩, b⟩
end
/-- a def that may be called -/
structure Fn (P : Program) (w : World) (K : PySem.W.Frag) (mg : Str → Option Value) (base : Heap) (CX : CXT) (k : Nat) (x : Str) (ps : List Str) (sp : Sp) : Prop where
  ex : ∃ f fd, FnOk P w K mg base CX k f fd ps sp ∧ mg x = some (.ref f) ∧ PySem.W.keepIn K (.ref f) = true ∧ Binds K fd ps []
theorem pe_fn {X : Cx} {k : Nat} {x : Str} {ps : List Str} {sp : Sp} {e : Expr} {es : List Expr} {p pos : Pos} {t : TA} (C : Fn X.prog X.w X.K X.mg X.base CX0 k x ps sp) (hr : Room k X.A) (hg : Gl X x) (ha : PA X (e :: es) t) (hdb : (x == ("__debug__" : Str)) = false := by decide)
    (he : starEach (e :: es) X.env = (false, eval e X.env) :: starEach es X.env := by rfl) (hpl : (backTo pos (starEach es X.env)).any (·.1) = false := by rfl) : PE X (.Call (.Name x p) (e :: es) [] pos) (tCall sp [] E0 t) := by
  obtain ⟨f, fd, F, hm, hk, hb⟩ := C.ex
  exact pe_call F hr hg hm hk hb .nil pass0 ha hdb he hpl
theorem pe_fn0 {X : Cx} {k : Nat} {x : Str} {ps : List Str} {sp : Sp} {p pos : Pos} (C : Fn X.prog X.w X.K X.mg X.base CX0 k x ps sp) (hr : Room k X.A) (hg : Gl X x) (hdb : (x == ("__debug__" : Str)) = false := by decide) : PE X (.Call (.Name x p) [] [] pos) (tCall sp [] E0 tNil) := by
  obtain ⟨f, fd, F, hm, hk, hb⟩ := C.ex
  exact pe_call0 F hr hg hm hk hb .nil pass0 hdb
end Wk

namespace Wk
open PySem L2
theorem dec_and {p q : Prop} [Decidable p] [Decidable q] : (decide p && decide q) = decide (p ∧ q) := by
  by_cases hp : p
  · by_cases hq : q
    · rw [decide_eq_true hp, decide_eq_true hq, decide_eq_true (And.intro hp hq)]; rfl
    · rw [decide_eq_false hq, decide_eq_false (fun z : p ∧ q => hq z.2), Bool.and_false]
  · rw [decide_eq_false hp, decide_eq_false (fun z : p ∧ q => hp z.1), Bool.false_and]
theorem dec_tt {b : Bool} : b = decide (b = true) := by cases b <;> rfl
theorem dec_T : true = decide True := rfl
theorem dec_F : false = decide False := rfl
section
variable {α β : Type} {e : Rep α} {f : Rep β} {K : PySem.W.Frag} {σ : L2.St} {F0 H0 F F' H H' : Hp} {te ta tb : TE} {Q : VK} {v w u : V} {xs : List α} {p : Addr} {i : Int} {n : Nat} {x : V}
/-- bit_length -/
def bits (n : Nat) : Nat := if n = 0 then 0 else n.log2 + 1
theorem bits_int (n : Nat) : Builtin.Int.intBits (n : Int) = bits n := by
  unfold Builtin.Int.intBits bits
  by_cases h : n = 0
  · subst h; rfl
  · rw [if_neg (show ¬ (((n : Nat) : Int) == 0) = true by simpa using h), if_neg h]; rfl
theorem vn_bitl (ha : Val ta σ H (.int (n : Int))) : Val (tBits ta) σ H (.int ((bits n : Nat) : Int)) := fun _ k => ha _ ⟨_, rfl, by rw [bits_int]; exact k⟩
theorem v_isi {b : Bool} {cn tn : String} (ha : Val ta σ H x) (ty : TyX K H x (.type tn)) (h : kitB tn cn = some b) : Val (tCB (rIsi K) (tCons ta (tCons (tC (.ty cn)) tNil))) σ H (.bl b) := fun Q k => ha _ ⟨x, .ty cn, _, _, b, rfl, .ty cn, ty, kit_ty h, k⟩
theorem ty_L (r : (pL e).r F v xs) (f : Ex F H) : TyX K H v (.type "list") := by obtain ⟨p, vs, rfl, hp, _⟩ := r; exact .base (.lst (f _ _ hp))
theorem ty_TL (r : (pTL e).r F v xs) (f : Ex F H) : TyX K H v (.type "tuple") := by obtain ⟨p, vs, rfl, hp, _⟩ := r; exact .base (.tup (f _ _ hp))
theorem ty_T2 {z : α × β} (r : (pT2 e f).r F v z) (h : Ex F H) : TyX K H v (.type "tuple") := by obtain ⟨p, _, _, rfl, hp, _⟩ := r; exact .base (.tup (h _ _ hp))
theorem ty_X (r : XL e H0 F H p xs) : TyX K H (.ref p) (.type "list") := by obtain ⟨vs, hp, _⟩ := r.rd; exact .base (.lst hp)
def rInt1 : List V → Hp → VK → Prop := fun xs H Q => (∃ i, xs = [.int i] ∧ Q (.int i) H) ∨ ∃ k, xs = [.bl k] ∧ Q (.int (if k then 1 else 0)) H
theorem v_intI (ha : Val ta σ H (.int i)) : Val (tCB rInt1 (tCons ta tNil)) σ H (.int i) := fun _ k => ha _ (.inl ⟨i, rfl, k⟩)
theorem v_intB {b : Bool} (ha : Val ta σ H (.bl b)) : Val (tCB rInt1 (tCons ta tNil)) σ H (.int ((b.toNat : Nat) : Int)) := fun _ k => ha _ (.inr ⟨b, rfl, by cases b <;> exact k⟩)
end
end Wk

namespace Wk
open PySem L2
/-! ### readings by short names -/
abbrev kAdd : R2 := L2.rI0 fun i j => .int (i + j)
abbrev kSub : R2 := L2.rI0 fun i j => .int (i - j)
abbrev kMul : R2 := L2.rI CMul fun i j => .int (i * j)
abbrev kMulX : R2 := L2.rI CMulX fun i j => .int (i * j)
abbrev kDiv : R2 := L2.rI CDivW fun i j => .int (i / j)
abbrev kMod : R2 := L2.rI (fun _ j => 0 < j) fun i j => .int (i % j)
abbrev kPow : R2 := L2.rI CPow fun i j => .int (i ^ j.toNat)
abbrev kShl : R2 := L2.rI CShl fun i j => .int (i * 2 ^ j.toNat)
abbrev kShr : R2 := L2.rI (fun _ j => 0 ≤ j) fun i j => .int (i / 2 ^ j.toNat)
abbrev kAnd : R2 := L2.rI0 fun i j => .int (Builtin.bitAnd i j)
abbrev kOr : R2 := L2.rI0 fun i j => .int (Builtin.bitOr i j)
abbrev kXor : R2 := L2.rI0 fun i j => .int (Builtin.bitXor i j)
abbrev kLt : R2 := L2.rI0 fun i j => .bl (decide (i < j))
abbrev kLe : R2 := L2.rI0 fun i j => .bl (decide (i ≤ j))
abbrev kGt : R2 := L2.rI0 fun i j => .bl (decide (j < i))
abbrev kGe : R2 := L2.rI0 fun i j => .bl (decide (j ≤ i))
abbrev kNeg : V → Hp → VK → Prop := L2.rU fun i => .int (-i)
def rLenS : List V → Hp → VK → Prop := fun xs H Q => ∃ z, xs = [.str z] ∧ z.length ≤ sizeLine ∧ Q (.int z.length) H
def rListOf (K : PySem.W.Frag) : List V → Hp → VK → Prop := fun xs H Q => ∃ p ys, xs = [.ref p] ∧ (SqL K H p ys ∨ SqT K H p ys) ∧ ∀ l, H l = none → Q (.ref l) (upd H l (.lst ys))
section
variable {α β : Type} {e : Rep α} {f : Rep β} {K : PySem.W.Frag} {σ : L2.St} {F0 H0 F F' H H' : Hp} {te ta tb : TE} {Q : VK} {v w u : V} {xs ys : List α} {p q : Addr} {i : Int} {n a b : Nat} {x : V} {tl th : TO}
theorem len_Str {s : Str} (h : s.length < 1000000) (ha : Val ta σ H (.str s)) : Val (tCB rLenS (tCons ta tNil)) σ H (.int ((s.length : Nat) : Int)) := fun _ k => ha _ ⟨s, rfl, Nat.le_of_lt (small_len h), k⟩
theorem XL.frzO (x : XL e H0 F H q xs) (h : ∀ q o, Xc H0 F H q o → q ≠ p → Xc H0 F' H q o) (hq : q ≠ p) (g : Ex F F') : XL e H0 F' H q xs := let ⟨vs, a, b⟩ := x.x; ⟨vs, h _ _ a hq, b.mono g⟩
/-- list(xs): a new one -/
theorem n_listX (r : (pL e).r F v xs) (w : Wf F0 H0 F H) (k : ∀ p H', H p = none → Wf F H F H' → XL e H0 F H' p xs → Q (.ref p) H') : rListOf K [v] H Q := by
  obtain ⟨p, vs, rfl, hp, a⟩ := r
  exact ⟨p, vs, rfl, .inl (SqL.of (w.f _ _ hp)), fun l hl => k l _ hl (Wf.newX w.f hl) ⟨vs, Xc.mk' w hl, a⟩⟩
theorem n_listXX (r : XL e H0 F H q xs) (w : Wf F0 H0 F H) (k : ∀ p H', H p = none → Wf F H F H' → XL e H0 F H' p xs → Q (.ref p) H') : rListOf K [.ref q] H Q := by
  obtain ⟨vs, hp, a⟩ := r.rd
  exact ⟨q, vs, rfl, .inl (SqL.of hp), fun l hl => k l _ hl (Wf.newX w.f hl) ⟨vs, Xc.mk' w hl, a⟩⟩
theorem n_listXT (r : (pTL e).r F v xs) (w : Wf F0 H0 F H) (k : ∀ p H', H p = none → Wf F H F H' → XL e H0 F H' p xs → Q (.ref p) H') : rListOf K [v] H Q := by
  obtain ⟨p, vs, rfl, hp, a⟩ := r
  exact ⟨p, vs, rfl, .inr (SqT.of (w.f _ _ hp)), fun l hl => k l _ hl (Wf.newX w.f hl) ⟨vs, Xc.mk' w hl, a⟩⟩
/-- xs + ys -/
theorem n_cat (r : (pL e).r F v xs) (s : (pL e).r F u ys) (w : Wf F0 H0 F H) (hl : xs.length + ys.length < 1000000) (k : ∀ p H', H p = none → Wf F H F H' → XL e H0 F H' p (xs ++ ys) → Q (.ref p) H') : rCat v u H Q := by
  obtain ⟨p, vs, rfl, hp, a⟩ := r
  obtain ⟨q, us, rfl, hq, b⟩ := s
  exact ⟨p, q, vs, us, rfl, rfl, w.f _ _ hp, w.f _ _ hq, by rw [a.len, b.len]; exact Nat.le_of_lt (small_len hl), fun l hl => k l _ hl (Wf.newX w.f hl) ⟨_, Xc.mk' w hl, a.app b⟩⟩
theorem All.rep (a : All e F vs' xs) : ∀ n, All e F (List.replicate n vs').flatten (List.replicate n xs).flatten
  | 0 => trivial
  | n + 1 => by rw [List.replicate_succ, List.replicate_succ, List.flatten_cons, List.flatten_cons]; exact a.app (All.rep a n)
/-- xs * n -/
theorem n_rep (r : (pL e).r F v xs) (w : Wf F0 H0 F H) (hl : xs.length * n < 1000000) (hn : n < 1000000) (k : ∀ p H', H p = none → Wf F H F H' → XL e H0 F H' p (List.replicate n xs).flatten → Q (.ref p) H') : rRep v (.int (n : Int)) H Q := by
  obtain ⟨p, vs, rfl, hp, a⟩ := r
  exact ⟨p, _, vs, rfl, rfl, w.f _ _ hp, by omega, by omega, by rw [a.len]; exact Nat.le_of_lt (small_len hl), fun l hl => k l _ hl (Wf.newX w.f hl) ⟨_, Xc.mk' w hl, All.rep a n⟩⟩
/-! slices -/
def cutT (xs : List α) (lo hi : Option Nat) : List α := match lo, hi with
  | none, none => xs
  | none, some b => xs.take b
  | some a, none => xs.drop a
  | some a, some b => (xs.drop a).take (b - a)
theorem cutV_T {ws : List V} (lo hi : Option Nat) : cutV ws (lo.map Int.ofNat) (hi.map Int.ofNat) = cutT ws lo hi := by
  have tk : ∀ (n : Nat) (l : List V), l.take (min n l.length) = l.take n := fun n l => by
    by_cases h : n ≤ l.length
    · rw [Nat.min_eq_left h]
    · rw [Nat.min_eq_right (by omega), List.take_of_length_le (Nat.le_refl _), List.take_of_length_le (by omega)]
  unfold cutV cutT
  cases lo with
  | none =>
    cases hi with
    | none => simp only [Option.map_none, HT.sIx_none, List.drop_zero, Nat.sub_zero, List.take_length]
    | some b =>
      simp only [Option.map_none, Option.map_some, HT.sIx_none, List.drop_zero, Nat.sub_zero]
      rw [show HT.sIx ws.length ws.length (some (Int.ofNat b)) = min b ws.length from HT.sIx_nat _ _ _]
      exact tk b ws
  | some a =>
    have dr : ws.drop (min a ws.length) = ws.drop a := by
      by_cases h : a ≤ ws.length
      · rw [Nat.min_eq_left h]
      · rw [Nat.min_eq_right (by omega), List.drop_of_length_le (Nat.le_refl _), List.drop_of_length_le (by omega)]
    cases hi with
    | none =>
      simp only [Option.map_none, Option.map_some, HT.sIx_none]
      rw [show HT.sIx ws.length 0 (some (Int.ofNat a)) = min a ws.length from HT.sIx_nat _ _ _, dr]
      exact List.take_of_length_le (by rw [List.length_drop]; omega)
    | some b =>
      simp only [Option.map_some]
      rw [show HT.sIx ws.length 0 (some (Int.ofNat a)) = min a ws.length from HT.sIx_nat _ _ _, show HT.sIx ws.length ws.length (some (Int.ofNat b)) = min b ws.length from HT.sIx_nat _ _ _, dr]
      by_cases h : b ≤ ws.length
      · rw [Nat.min_eq_left h]
        by_cases h' : a ≤ ws.length
        · rw [Nat.min_eq_left h']
        · rw [List.drop_of_length_le (by omega), List.take_nil, List.take_nil]
      · rw [Nat.min_eq_right (by omega)]
        rw [List.take_of_length_le (by rw [List.length_drop]; omega), List.take_of_length_le (by rw [List.length_drop]; omega)]
theorem All.cut {ws : List V} (a : All e F ws xs) (lo hi : Option Nat) : All e F (cutT ws lo hi) (cutT xs lo hi) := by
  cases lo <;> cases hi
  · exact a
  · exact a.take _
  · exact a.drop _
  · exact (a.drop _).take _
/-- the two ends of a slice -/
def Part (tl : TO) (σ : L2.St) (H : Hp) (o : Option Nat) : Prop := ∀ Q : Option Int → Hp → Prop, Q (o.map Int.ofNat) H → tl σ H Q
theorem po_n : Part tNoPart σ H none := fun _ k => k
theorem po_s (h : Val te σ H (.int (n : Int))) : Part (tPart te) σ H (some n) := fun _ k => h _ ⟨_, rfl, k⟩
theorem n_cutX {lo hi : Option Nat} (r : (pL e).r F v xs) (hv : Val te σ H v) (h1 : Part tl σ H lo) (h2 : Part th σ H hi) (w : Wf F0 H0 F H) (k : ∀ p H', H p = none → Wf F H F H' → XL e H0 F H' p (cutT xs lo hi) → Q (.ref p) H') : tSl (rSlL K) te tl th σ H Q := by
  obtain ⟨p, vs, rfl, hp, a⟩ := r
  exact hv _ (h1 _ (h2 _ ⟨p, vs, rfl, SqL.of (w.f _ _ hp), fun l hl => by
    rw [cutV_T]
    exact k l _ hl (Wf.newX w.f hl) ⟨_, Xc.mk' w hl, a.cut lo hi⟩⟩))
theorem n_cutS {lo hi : Option Nat} {zs : List Int} (r : (pScr K).r F v zs) (hv : Val te σ H v) (h1 : Part tl σ H lo) (h2 : Part th σ H hi) (w : Wf F0 H0 F H) (k : ∀ p H', H p = none → Wf F H F H' → XL pI H0 F H' p (cutT zs lo hi) → Q (.ref p) H') : tSl (rSlL K) te tl th σ H Q := by
  obtain ⟨p, rfl, s⟩ := (pScr K).mono w.f r
  exact hv _ (h1 _ (h2 _ ⟨p, _, rfl, s, fun l hl => by
    rw [cutV_T]
    exact k l _ hl (Wf.newX w.f hl) ⟨_, Xc.mk' w hl, (All.ofInts (xs := zs)).cut lo hi⟩⟩))
end
end Wk

namespace Wk
open PySem L2
section
variable {α β γ : Type} {e : Rep α} {f : Rep β} {g : Rep γ} {K : PySem.W.Frag} {σ : L2.St} {F0 H0 F F' H H' : Hp} {te ta tb to : TE} {tt : TT} {tA : TA} {Q : VK} {v w u : V} {xs ys : List α} {p q : Addr} {i : Nat} {D : Ends} {pr : Prop} {ti : TIp} {x y : V}
theorem if_t {A B : Prop} (h : A) : if true = true then A else B := by rw [if_pos rfl]; exact h
theorem if_f {A B : Prop} (h : B) : if false = true then A else B := by rw [if_neg (by simp)]; exact h
theorem b_ifn {p : Prop} [Decidable p] {A B : Prop} (h1 : p → B) (h2 : ¬ p → A) : if (!decide p) = true then A else B := by
  by_cases hp : p
  · rw [decide_eq_true hp, if_neg (by simp)]; exact h1 hp
  · rw [decide_eq_false hp, if_pos (by rfl)]; exact h2 hp
theorem bb_ifn {b : Bool} {A B : Prop} (h1 : b = true → B) (h2 : ¬ b = true → A) : if (!b) = true then A else B := by
  cases b with
  | true => rw [if_neg (by simp)]; exact h1 rfl
  | false => rw [if_pos (by rfl)]; exact h2 (by simp)
theorem nx_v {P : V → Prop} (h : v = w) (q : P v) : P w := h ▸ q
theorem nx_set {P : L2.St → Hp → Prop} {σ : L2.St} {i : Nat} {H : Hp} (h : v = w) (q : P (σ.set i (some v)) H) : P (σ.set i (some w)) H := h ▸ q
theorem g_name {R : L2.St → Hp → Prop} (h : R (σ.set i (some v)) H) : gName i v σ H R := h
theorem set_same {σ : L2.St} {i : Nat} {v : V} (h : σ[i]? = some (some v)) : σ.set i (some v) = σ := by
  refine List.ext_getElem? fun j => ?_
  rw [List.getElem?_set]
  split
  · rename_i h1
    subst h1
    split
    · exact h.symm
    · rename_i h2
      rw [List.getElem?_eq_none (by omega)] at h; cases h
  · rfl
theorem a_ifAsg [Decidable pr] (h : Ans tt σ H (decide pr)) (h1 : pr → Val te σ H v) (h2 : ¬ pr → σ[i]? = some (some v)) (q : D.nx (σ.set i (some v)) H) : tIfS tt (tAsg te (gName i)) tNext D σ H := h _ (b_if (fun hp => h1 hp _ q) fun hp => by
  have e := set_same (h2 hp)
  rw [e] at q
  exact q)
theorem a_ifAug [Decidable pr] (h : Ans tt σ H (decide pr)) (hx : σ[i]? = some (some x)) (hy : Val te σ H y) (h1 : pr → Val (tOp ti (tC x) (tC y)) [] H v) (h2 : ¬ pr → σ[i]? = some (some v)) (q : D.nx (σ.set i (some v)) H) : tIfS tt (tAug i te ti) tNext D σ H := h _ (b_if (fun hp => ⟨x, hx, hy _ (h1 hp _ q)⟩) fun hp => by
  have e := set_same (h2 hp)
  rw [e] at q
  exact q)
theorem n_tup3 {x : α} {y : β} {z : γ} (a : e.r F v x) (b : f.r F w y) (c : g.r F u z) (h : Wf F0 H0 F H) (k : ∀ p F' H', Wf F H F' H' → (pT3 e f g).r F' (.ref p) (x, y, z) → Q (.ref p) H') :
    kTup Q [v, w, u] H := ⟨Nat.le_of_lt (small_len (n := 3) (by decide)), fun p hp => k p _ _ (Wf.new h.f hp) ⟨p, v, w, u, rfl, upd_same, e.mono (Ex.new (h.f.non hp)) a, f.mono (Ex.new (h.f.non hp)) b, g.mono (Ex.new (h.f.non hp)) c⟩⟩
theorem n_tupL {vs : List V} (a : All e F vs xs) (hl : xs.length < 1000000) (w : Wf F0 H0 F H) (k : ∀ p F' H', Wf F H F' H' → (pTL e).r F' (.ref p) xs → Q (.ref p) H') :
    kTup Q vs H := ⟨by rw [a.len]; exact Nat.le_of_lt (small_len hl), fun p hp => k p _ _ (Wf.new w.f hp) ⟨p, vs, rfl, upd_same, a.mono (Ex.new (w.f.non hp))⟩⟩
theorem m_list {r : V → List V → Hp → VK → Prop} (z : XL e H0 F H p xs) (ho : Val to σ H (.ref p)) (k : tA σ H fun vs H2 => r (.ref p) vs H2 Q) : tBM K "list" r to tA σ H Q := ho _ ⟨let ⟨_, a, _⟩ := z.x; Or.inl ⟨rfl, _, Or.inl (Or.inl a.h)⟩, k⟩
theorem a_clr (x : XL e H0 F H p xs) (w : Wf F0 H0 F H) (k : ∀ H', Wf F0 H0 F H' → XL e H0 F H' p [] → (∀ q o, H q = some o → q ≠ p → H' q = some o) → Q .non H') : rClear (.ref p) [] H Q := by
  obtain ⟨vs, a, b⟩ := x.x
  exact ⟨p, vs, rfl, rfl, a.h, k _ (w.set a) ⟨_, a.set, trivial⟩ fun q o h hq => by rw [upd_ne hq]; exact h⟩
theorem a_ext (x : XL e H0 F H p xs) (r : (pL e).r F v ys) (w : Wf F0 H0 F H) (hl : xs.length + ys.length < 1000000) (k : ∀ H', Wf F0 H0 F H' → XL e H0 F H' p (xs ++ ys) → (∀ q o, H q = some o → q ≠ p → H' q = some o) → Q .non H') : rExtend (.ref p) [v] H Q := by
  obtain ⟨vs, a, b⟩ := x.x
  obtain ⟨q, us, rfl, hq, c⟩ := r
  exact ⟨p, q, vs, us, rfl, rfl, a.h, w.f _ _ hq, by rw [b.len, c.len]; exact Nat.le_of_lt (small_len hl), k _ (w.set a) ⟨_, a.set, b.app c⟩ fun q o h hq => by rw [upd_ne hq]; exact h⟩
end
end Wk

namespace Wk
open PySem L2
/-! ### dicts: their pairs in order, keys numbers or texts -/
class KeyT (κ : Type) where
  k : κ → Key
  inj : ∀ {a b : κ}, k a = k b → a = b
instance : KeyT Nat := ⟨fun n => .inl (n : Int), fun h => by have := Sum.inl.inj h; omega⟩
instance : KeyT Int := ⟨fun n => .inl n, fun h => Sum.inl.inj h⟩
instance : KeyT Str := ⟨fun n => .inr n, fun h => Sum.inr.inj h⟩
section
variable {κ α : Type} [DecidableEq κ] [KeyT κ]
def valT (m : List (κ × α)) (j : κ) : Option α := (m.find? fun q => decide (q.1 = j)).map (·.2)
def hasT (m : List (κ × α)) (j : κ) : Bool := (valT m j).isSome
def putT (m : List (κ × α)) (j : κ) (x : α) : List (κ × α) := if hasT m j = true then m.map (fun q => if q.1 = j then (q.1, x) else q) else m ++ [(j, x)]
def DA (e : Rep α) (F : Hp) : List (Key × V) → List (κ × α) → Prop
  | [], [] => True
  | p :: r, q :: s => p.1 = KeyT.k q.1 ∧ e.r F p.2 q.2 ∧ DA e F r s
  | _, _ => False
variable {e : Rep α} {F F' : Hp}
omit [DecidableEq κ] in
theorem DA.mono (h : Ex F F') : ∀ {kvs : List (Key × V)} {m : List (κ × α)}, DA e F kvs m → DA e F' kvs m
  | [], [], _ => trivial
  | _ :: _, _ :: _, ⟨a, b, c⟩ => ⟨a, e.mono h b, DA.mono h c⟩
  | [], _ :: _, q => q.elim
  | _ :: _, [], q => q.elim
theorem DA.len : ∀ {kvs : List (Key × V)} {m : List (κ × α)}, DA e F kvs m → kvs.length = m.length
  | [], [], _ => rfl
  | _ :: _, _ :: _, ⟨_, _, c⟩ => by rw [List.length_cons, List.length_cons, DA.len c]
  | [], _ :: _, q => q.elim
  | _ :: _, [], q => q.elim
theorem valT_cons {q : κ × α} {m : List (κ × α)} {j : κ} : valT (q :: m) j = if q.1 = j then some q.2 else valT m j := by
  unfold valT
  rw [List.find?_cons]
  by_cases h : q.1 = j
  · rw [if_pos h, decide_eq_true h]; rfl
  · rw [if_neg h, decide_eq_false h]
theorem DA.get : ∀ {kvs : List (Key × V)} {m : List (κ × α)} (j : κ), DA e F kvs m → (∀ x, valT m j = some x → ∃ v, valV kvs (KeyT.k j) = some v ∧ e.r F v x) ∧ (valT m j = none → valV kvs (KeyT.k j) = none)
  | [], [], _, _ => ⟨fun x h => (by cases h), fun _ => rfl⟩
  | p :: r, q :: s, j, ⟨a, b, c⟩ => by
    obtain ⟨ih1, ih2⟩ := DA.get j c
    rw [valT_cons]
    by_cases h : q.1 = j
    · rw [if_pos h]
      have e1 : p.1 = KeyT.k j := by rw [a, h]
      exact ⟨fun x hx => ⟨p.2, valV_pos e1, by cases hx; exact b⟩, fun z => by cases z⟩
    · rw [if_neg h]
      have e1 : ¬ p.1 = KeyT.k j := fun z => h (KeyT.inj (a.symm.trans z))
      rw [valV_neg e1]
      exact ⟨ih1, ih2⟩
  | [], _ :: _, _, q => q.elim
  | _ :: _, [], _, q => q.elim
theorem DA.has {kvs : List (Key × V)} {m : List (κ × α)} (j : κ) (d : DA e F kvs m) : (valV kvs (KeyT.k j)).isSome = hasT m j := by
  obtain ⟨h1, h2⟩ := d.get j
  unfold hasT
  cases q : valT m j with
  | none => rw [h2 q]; rfl
  | some x => obtain ⟨v, h, _⟩ := h1 x q; rw [h]; rfl
theorem DA.app : ∀ {kvs : List (Key × V)} {m : List (κ × α)} {kvs' : List (Key × V)} {m' : List (κ × α)}, DA e F kvs m → DA e F kvs' m' → DA e F (kvs ++ kvs') (m ++ m')
  | [], [], _, _, _, h => h
  | _ :: _, _ :: _, _, _, ⟨a, b, c⟩, h => ⟨a, b, DA.app c h⟩
  | [], _ :: _, _, _, q, _ => q.elim
  | _ :: _, [], _, _, q, _ => q.elim
theorem DA.upd {v : V} {x : α} {j : κ} (r : e.r F v x) : ∀ {kvs : List (Key × V)} {m : List (κ × α)}, DA e F kvs m → DA e F (kvs.map fun kv => if kv.1 = KeyT.k j then (kv.1, v) else kv) (m.map fun q => if q.1 = j then (q.1, x) else q)
  | [], [], _ => trivial
  | p :: _, q :: _, ⟨a, b, c⟩ => by
    rw [List.map_cons, List.map_cons]
    refine ⟨?_, ?_, DA.upd r c⟩
    · by_cases h : q.1 = j
      · rw [if_pos h, if_pos (by rw [a, h])]; exact a
      · rw [if_neg h, if_neg (fun z => h (KeyT.inj (a.symm.trans z)))]; exact a
    · by_cases h : q.1 = j
      · rw [if_pos h, if_pos (by rw [a, h])]; exact r
      · rw [if_neg h, if_neg (fun z => h (KeyT.inj (a.symm.trans z)))]; exact b
  | [], _ :: _, q => q.elim
  | _ :: _, [], q => q.elim
theorem DA.put {v : V} {x : α} {j : κ} {kvs : List (Key × V)} {m : List (κ × α)} (d : DA e F kvs m) (r : e.r F v x) : DA e F (putK kvs (KeyT.k j) v) (putT m j x) := by
  unfold putK putT
  rw [valV_any, d.has j]
  by_cases h : hasT m j = true
  · rw [if_pos h, if_pos h]; exact d.upd r
  · rw [if_neg h, if_neg h]; exact d.app ⟨rfl, r, trivial⟩
end
def pD {κ α : Type} [KeyT κ] (e : Rep α) : Rep (List (κ × α)) := ⟨fun F v m => ∃ p kvs, v = .ref p ∧ F p = some (.dK kvs) ∧ DA e F kvs m, fun h ⟨p, kvs, a, b, c⟩ => ⟨p, kvs, a, h _ _ b, c.mono h⟩⟩
structure XD {κ α : Type} [KeyT κ] (e : Rep α) (H0 F H : Hp) (p : Addr) (m : List (κ × α)) : Prop where
  x : ∃ kvs, Xc H0 F H p (.dK kvs) ∧ DA e F kvs m
section
variable {κ α : Type} [DecidableEq κ] [KeyT κ] {e : Rep α} {K : PySem.W.Frag} {σ : L2.St} {F0 H0 F F' H H' : Hp} {te td ty tx tv : TE} {Q : VK} {v w y z : V} {m : List (κ × α)} {p q : Addr} {j : κ} {x : α} {D : Ends}
theorem XD.step (x : XD e H0 F H p m) (w : Wf F H F' H') : XD e H0 F' H' p m := let ⟨vs, a, b⟩ := x.x; ⟨vs, a.step w, b.mono w.g⟩
theorem XD.ne (x : XD e H0 F H p m) (h : H q = none) : p ≠ q := let ⟨_, a, _⟩ := x.x; a.ne h
theorem XD.zero (x : XD e H0 F H p m) : H0 p = none := let ⟨_, a, _⟩ := x.x; a.z
theorem XD.base (x : XD e H F' H' p m) (w : Wf F0 H0 F H) : XD e H0 F' H' p m := let ⟨vs, a, b⟩ := x.x; ⟨vs, ⟨w.h.non a.z, a.n, a.h⟩, b⟩
theorem XD.kept (x : XD e H0 F H q m) (h : ∀ q o, H q = some o → q ≠ p → H' q = some o) (hq : q ≠ p) : XD e H0 F H' q m := let ⟨vs, a, b⟩ := x.x; ⟨vs, a.kept h hq, b⟩
theorem XD.frzO (x : XD e H0 F H q m) (h : ∀ q o, Xc H0 F H q o → q ≠ p → Xc H0 F' H q o) (hq : q ≠ p) (g : Ex F F') : XD e H0 F' H q m := let ⟨vs, a, b⟩ := x.x; ⟨vs, h _ _ a hq, b.mono g⟩
theorem XD.frzE (x : XD e H0 F H p m) (w : Wf F0 H0 F H) : ∃ F', Wf F0 H0 F' H ∧ Ex F F' ∧ (pD e).r F' (.ref p) m ∧ (∀ q o, Xc H0 F H q o → q ≠ p → Xc H0 F' H q o) := by
  obtain ⟨vs, a, b⟩ := x.x
  exact ⟨_, w.freeze a, Ex.new a.n, ⟨p, vs, rfl, upd_same, b.mono (Ex.new a.n)⟩, fun q o z h => z.frz a h⟩
theorem XD.lend (x : XD e H0 F H p m) (w : Wf F0 H0 F H) : ∃ F', Ex F' H ∧ Ex F F' ∧ (pD e).r F' (.ref p) m := let ⟨F', a, b, c, _⟩ := x.frzE w; ⟨F', a.f, b, c⟩
theorem XD.rd (x : XD e H0 F H p m) : ∃ kvs, H p = some (.dK kvs) ∧ DA e F kvs m := let ⟨vs, a, b⟩ := x.x; ⟨vs, a.h, b⟩
theorem D_rd (r : (pD e).r F v m) (f : Ex F H) : ∃ p kvs, v = .ref p ∧ H p = some (.dK kvs) ∧ DA e F kvs m := let ⟨p, vs, a, b, c⟩ := r; ⟨p, vs, a, f _ _ b, c⟩
/-- {} -/
theorem n_dict (w : Wf F0 H0 F H) (k : ∀ p H', H p = none → Wf F H F H' → XD e H0 F H' p ([] : List (κ × α)) → Q (.ref p) H') : tDNewK σ H Q := fun p hp => k p _ hp (Wf.newX w.f hp) ⟨[], Xc.mk' w hp, trivial⟩
/-! reading -/
theorem in_D (r : (pD e).r F v m) (f : Ex F H) (hy : Val ty σ H (kV (KeyT.k j))) (hd : Val td σ H v) : Val (tDIn ty td) σ H (.bl (hasT m j)) := by
  obtain ⟨p, kvs, rfl, hp, a⟩ := D_rd r f
  exact fun Q k => hy _ (hd _ ⟨p, _, rfl, DGet.k hp, by rw [a.has j]; exact k⟩)
theorem in_XD (r : XD e H0 F H p m) (hy : Val ty σ H (kV (KeyT.k j))) (hd : Val td σ H (.ref p)) : Val (tDIn ty td) σ H (.bl (hasT m j)) := by
  obtain ⟨kvs, hp, a⟩ := r.rd
  exact fun Q k => hy _ (hd _ ⟨p, _, rfl, DGet.k hp, by rw [a.has j]; exact k⟩)
theorem nin_D (r : (pD e).r F v m) (f : Ex F H) (hy : Val ty σ H (kV (KeyT.k j))) (hd : Val td σ H v) : Val (tDNotIn ty td) σ H (.bl (!hasT m j)) := by
  obtain ⟨p, kvs, rfl, hp, a⟩ := D_rd r f
  exact fun Q k => hy _ (hd _ ⟨p, _, rfl, DGet.k hp, by rw [a.has j]; exact k⟩)
theorem nin_XD (r : XD e H0 F H p m) (hy : Val ty σ H (kV (KeyT.k j))) (hd : Val td σ H (.ref p)) : Val (tDNotIn ty td) σ H (.bl (!hasT m j)) := by
  obtain ⟨kvs, hp, a⟩ := r.rd
  exact fun Q k => hy _ (hd _ ⟨p, _, rfl, DGet.k hp, by rw [a.has j]; exact k⟩)
theorem ix_D (r : (pD e).r F v m) (f : Ex F H) (hx : valT m j = some x) : ∃ w, e.r F w x ∧ ∀ ⦃σ td ty⦄, Val td σ H v → Val ty σ H (kV (KeyT.k j)) → Val (tDGet td ty) σ H w := by
  obtain ⟨p, kvs, rfl, hp, a⟩ := D_rd r f
  obtain ⟨w, h1, h2⟩ := (a.get j).1 x hx
  exact ⟨w, h2, fun _ _ _ hd hy Q k => hd _ (hy _ ⟨p, w, rfl, by rw [← h1]; exact DGet.k hp, k⟩)⟩
theorem ix_XD (r : XD e H0 F H p m) (hx : valT m j = some x) : ∃ w, e.r F w x ∧ ∀ ⦃σ td ty⦄, Val td σ H (.ref p) → Val ty σ H (kV (KeyT.k j)) → Val (tDGet td ty) σ H w := by
  obtain ⟨kvs, hp, a⟩ := r.rd
  obtain ⟨w, h1, h2⟩ := (a.get j).1 x hx
  exact ⟨w, h2, fun _ _ _ hd hy Q k => hd _ (hy _ ⟨p, w, rfl, by rw [← h1]; exact DGet.k hp, k⟩)⟩
/-- d.get(k, x) -/
theorem get_XD (r : XD e H0 F H p m) (hz : e.r F z x) : ∃ w, e.r F w ((valT m j).getD x) ∧ ∀ ⦃σ td ty tx⦄, Val td σ H (.ref p) → Val ty σ H (kV (KeyT.k j)) → Val tx σ H z → Val (tDGet2 td ty tx) σ H w := by
  obtain ⟨kvs, hp, a⟩ := r.rd
  obtain ⟨h1, h2⟩ := a.get j
  have isd : IsD H p := .inl ⟨kvs, .inl hp⟩
  cases q : valT m j with
  | none => exact ⟨z, hz, fun _ _ _ _ hd hy hx Q k => hd _ ⟨p, rfl, isd, hy _ (hx _ ⟨none, by rw [← h2 q]; exact DGet.k hp, k⟩)⟩⟩
  | some x' =>
    obtain ⟨w, h3, h4⟩ := h1 x' q
    exact ⟨w, h4, fun _ _ _ _ hd hy hx Q k => hd _ ⟨p, rfl, isd, hy _ (hx _ ⟨some w, by rw [← h3]; exact DGet.k hp, k⟩)⟩⟩
theorem get_D (r : (pD e).r F v m) (f : Ex F H) (hz : e.r F z x) : ∃ w, e.r F w ((valT m j).getD x) ∧ ∀ ⦃σ td ty tx⦄, Val td σ H v → Val ty σ H (kV (KeyT.k j)) → Val tx σ H z → Val (tDGet2 td ty tx) σ H w := by
  obtain ⟨p, kvs, rfl, hp, a⟩ := D_rd r f
  obtain ⟨h1, h2⟩ := a.get j
  have isd : IsD H p := .inl ⟨kvs, .inl hp⟩
  cases q : valT m j with
  | none => exact ⟨z, hz, fun _ _ _ _ hd hy hx Q k => hd _ ⟨p, rfl, isd, hy _ (hx _ ⟨none, by rw [← h2 q]; exact DGet.k hp, k⟩)⟩⟩
  | some x' =>
    obtain ⟨w, h3, h4⟩ := h1 x' q
    exact ⟨w, h4, fun _ _ _ _ hd hy hx Q k => hd _ ⟨p, rfl, isd, hy _ (hx _ ⟨some w, by rw [← h3]; exact DGet.k hp, k⟩)⟩⟩
/-- d[k] = v, v evaluated -/
theorem d_put (r : XD e H0 F H p m) (w : Wf F0 H0 F H) (hl : m.length < 1000000) (rv : e.r F v x) (hd : Val td σ H (.ref p)) (hy : Val ty σ H (kV (KeyT.k j))) (k : ∀ H', Wf F0 H0 F H' → XD e H0 F H' p (putT m j x) → (∀ q o, H q = some o → q ≠ p → H' q = some o) → D.nx σ H') :
    (fun v H1 => td σ H1 fun x H2 => ty σ H2 fun y H3 => ∃ a H4, x = .ref a ∧ DPut H3 a y v H4 ∧ D.nx σ H4) v H := by
  obtain ⟨kvs, a, b⟩ := r.x
  exact hd _ (hy _ ⟨p, _, rfl, DPut.k a.h (by rw [b.len]; exact small_len hl), k _ (w.set a) ⟨_, a.set, b.put rv⟩ fun q o h hq => by rw [upd_ne hq]; exact h⟩)
theorem e_dput (h : tv σ H fun v H1 => td σ H1 fun x H2 => ty σ H2 fun y H3 => ∃ a H4, x = .ref a ∧ DPut H3 a y v H4 ∧ D.nx σ H4) : sDPut td ty tv D σ H := h
end
/-! ### ways of a test or a truth that meet -/
section
variable {S : Type} {σ : L2.St} {H : Hp} {te ta tb : TE} {tt tu : TT} {Q : VK} {k : Bool → Prop}
theorem e_jnT {f : (Bool → Prop) → Prop} {Qt : Bool → Hp → Prop} (hW : jn f k) (Inv : Bool → Hp → Hp → Prop)
    (h1 : ∀ N : Bool → Hp → Prop, (∀ b F' H', Inv b F' H' → k b → N b H') → f k → tt σ H N) (h2 : ∀ b F' H', Inv b F' H' → k b → Qt b H') : tt σ H Qt :=
  h1 Qt (fun b F' H' q n => h2 b F' H' q n) hW
theorem e_jnV {f : (Bool → Prop) → Prop} (hW : jn f k) (Inv : Bool → Hp → Hp → Prop)
    (h1 : ∀ N : VK, (∀ b F' H', Inv b F' H' → k b → N (.bl b) H') → f k → te σ H N) (h2 : ∀ b F' H', Inv b F' H' → k b → Q (.bl b) H') : te σ H Q :=
  h1 Q (fun b F' H' q n => h2 b F' H' q n) hW
theorem e_tAnd {Qt : Bool → Hp → Prop} (h : tt σ H fun c H1 => if c = true then tu σ H1 Qt else Qt false H1) : tAnd tt tu σ H Qt := h
theorem e_tOr {Qt : Bool → Hp → Prop} (h : tt σ H fun c H1 => if c = true then Qt true H1 else tu σ H1 Qt) : tOr tt tu σ H Qt := h
theorem e_AndV (h : ta σ H fun x H1 => ∃ c, x = .bl c ∧ if c = true then tb σ H1 Q else Q (.bl false) H1) : tAndV ta tb σ H Q := h
theorem e_OrV (h : ta σ H fun x H1 => ∃ c, x = .bl c ∧ if c = true then Q (.bl true) H1 else tb σ H1 Q) : tOrV ta tb σ H Q := h
theorem e_NotV (h : ta σ H fun x H1 => ∃ c, x = .bl c ∧ Q (.bl (!c)) H1) : tNotV ta σ H Q := h
theorem bl_if {b : Bool} {A B : Prop} (h : if b = true then A else B) : ∃ c, V.bl b = .bl c ∧ if c = true then A else B := ⟨b, rfl, h⟩
theorem bl_v {b : Bool} {A : Bool → Prop} (h : A b) : ∃ c, V.bl b = .bl c ∧ A c := ⟨b, rfl, h⟩
end
end Wk

namespace Wk
theorem dec_nt {b : Bool} : (!b) = decide (¬ (b = true)) := by cases b <;> rfl
end Wk

namespace Wk.LR
open PySem PyProof.Rows L2
section
variable {prog : Program} {w : World} {A : Around} {E : Value → Shared → Prop} {s : Shared}
theorem extend_rev {R : Result → Shared → Prop} {it l : Addr} {items : Array Value} (hh : A.handled = none) (hit : s.heap.IsRevIter it l ((items.size : Int) - 1)) (hl : s.heap.IsList l items) (hne : l ≠ it) (hn : items.size ≤ sizeLine) (S : Addr) (res : Value) {c₀ : Nat} (hS : s.heap.get? S = some { cls := .type "list", data := .seq #[] c₀ })
    (hSl : S ≠ l)
    (hR : ∀ h' tk acc' c', (∀ b o, b ≠ S → b ≠ it → s.heap.get? b = some o → h'.get? b = some o) → h'.get? S = some { cls := .type "list", dict := none, data := .seq acc' c', slots := #[] } →
      ItemsOf (fun i v => items[items.size - 1 - i]? = some v) acc' items.size → R (.ok (.ret res)) { s with heap := h', toks := tk }) :
    wpAny (model prog w) A.in1 (Builtin.List.listExtendWith (.ref S) (.ref it) res)
      (fun fin s' => match fin with | .done f => R (.ok f) s' | .again c' => c'.quiet = true ∧ codeAny (model prog w) A c' R s') (fun e s' => R (.error e) s') s := by
  have hT : s.TypeIs (.ref it) "list_reverseiterator" := Heap.IsRevIter.typeIs hit
  have hSi : S ≠ it := fun e => by
    obtain ⟨o, ho, hc⟩ := hT
    rw [← e, hS] at ho; cases ho
    simp at hc
  have W := (Walks.listRev (prog := prog) (w := w) (A := A.in1) hh it l hne items).toS
  have hSf : S ∉ [it, l] := fun hm => by
    rcases List.mem_cons.mp hm with e | hm
    · exact hSi e
    · exact hSl (List.mem_singleton.mp hm)
  have h1 : Builtin.List.listSameRef (.ref S) (.ref it) = false := by simp [Builtin.List.listSameRef, hSi]
  unfold Builtin.List.listExtendWith
  refine wpAny_bind (wpAny_typeOf hT ?_)
  rw [if_neg (by rw [h1]; decide)]
  refine wpAny_bind (wpAny_pyIter_revIter hit ?_)
  refine wpAny_bind (wpAny_holding ?_)
  unfold Builtin.List.listLengthHint
  refine wpAny_bind (wpAny_specialOf hT RT.nolen_lri ?_)
  show wpAny _ A.in1 (specialOf (Value.ref it) (Str.ofString "__length_hint__") >>= _) _ _ _
  refine wpAny_bind (wpAny_specialOf hT RT.hint_lri ?_)
  generalize hid : ("list_reverseiterator.__length_hint__" : String) = id0
  wp_delta
  rw [show splitId id0 = some ("list_reverseiterator", "__length_hint__") from by subst hid; decide +kernel]
  subst hid
  refine wpAny_bind (wpAny_isInstance (b := true) hT (by rw [isSubtype_type]; kernel_rfl) ?_)
  refine wpAny_pure ?_
  rw [if_neg (by decide)]
  have e0 : ((items.size : Nat) : Int) - 1 - ((0 : Nat) : Int) = (items.size : Int) - 1 := by omega
  refine wpAny_pure ⟨plainId_quiet F.plain_extend_loop _, codeAny_extend_loopS W hn _ hSf _ items.size 0 _ _ _ rfl (Nat.zero_le _) ⟨Nat.zero_le _, by rw [e0]; exact hit, hl⟩ hS (ItemsOf.nil _) fun s' acc' c' hm hS' hacc => ?_⟩
  rw [Moved.eq_with hm]
  refine hR s'.heap s'.toks acc' c' (fun b o hb hb2 e => hm.heap b o (fun hmem => ?_) e) hS' hacc
  rcases List.mem_cons.mp hmem with e' | hmem
  · exact hb e'
  · exact hb2 (List.mem_singleton.mp hmem)
theorem call_list_rev {Q : Value → Shared → Prop} {it l : Addr} {items : Array Value} (hh : A.handled = none) (hit : s.heap.IsRevIter it l ((items.size : Int) - 1)) (hl : s.heap.IsList l items) (hne : l ≠ it) (hn : items.size ≤ sizeLine)
    (hQ : ∀ h' tk acc' c', (∀ b o, b ≠ it → s.heap.get? b = some o → h'.get? b = some o) →
      h'.get? s.heap.objs.size = some { cls := .type "list", dict := none, data := .seq acc' c', slots := #[] } → ItemsOf (fun i v => items[items.size - 1 - i]? = some v) acc' items.size → Q (.ref s.heap.objs.size) { s with heap := h', toks := tk }) :
    wpAny (model prog w) A (call (.type "list") [.ref it]) Q E s := by
  refine callType_codes (Q₁ := fun obj s₁ => obj = .ref s.heap.objs.size ∧ s₁ = { s with heap := s.heap.push { cls := .type "list", data := .seq #[] } }) F.called_list (F.typeCall_list_1 _) F.entry_list_init
    (code_list_new _ ⟨rfl, rfl⟩) fun obj s₁ h₁ => ?_
  obtain ⟨rfl, rfl⟩ := h₁
  have hS : (s.heap.push { cls := .type "list", data := .seq #[] }).get? s.heap.objs.size = some { cls := .type "list", data := .seq #[] } := Heap.get?_push_size _ rfl
  have hlt : l < s.heap.objs.size := let ⟨o, e, _⟩ := hl; Heap.lt_size e
  have hSl : s.heap.objs.size ≠ l := fun e => by rw [← e] at hlt; exact Nat.lt_irrefl _ hlt
  refine ⟨⟨_, hS, rfl⟩, F.args_list_init_2 _ _, ?_⟩
  show wpAny _ _ (do let old ← Builtin.List.listItems (.ref s.heap.objs.size); Builtin.List.listUpdate (.ref s.heap.objs.size) (fun _ => #[]); letGo old.toList.reverse; Builtin.List.listExtendWith (.ref s.heap.objs.size) (.ref it) .none) _ _ _
  refine wpAny_bind ?_
  unfold Builtin.List.listItems
  refine wpAny_bind (wpAny_seqItems hS rfl (wpAny_pure ?_))
  show wpAny _ _ (updateSeq s.heap.objs.size (fun _ => #[]) >>= fun _ => letGo (#[] : Array Value).toList.reverse >>= fun _ => Builtin.List.listExtendWith (.ref s.heap.objs.size) (.ref it) .none) _ _ _
  refine wpAny_bind (wpAny_updateSeq hS rfl ?_)
  obtain ⟨c₂, hS₂⟩ : ∃ c, ((s.heap.push { cls := .type "list", data := .seq #[] }).update s.heap.objs.size (Obj.mapSeq (fun _ => (#[] : Array Value)))).get? s.heap.objs.size = some { cls := .type "list", data := .seq #[] c } := ⟨_, Heap.get?_update_self (Obj.mapSeq (fun _ => (#[] : Array Value))) hS rfl⟩
  have oth : ∀ b o, b ≠ s.heap.objs.size → s.heap.get? b = some o → ((s.heap.push { cls := .type "list", data := .seq #[] }).update s.heap.objs.size (Obj.mapSeq (fun _ => (#[] : Array Value)))).get? b = some o :=
    fun b o hb e => (Heap.get?_update_other _ _ (Ne.symm hb)).trans (Heap.get?_push_of_some _ e)
  have oth2 : ∀ b o, s.heap.get? b = some o → ((s.heap.push { cls := .type "list", data := .seq #[] }).update s.heap.objs.size (Obj.mapSeq (fun _ => (#[] : Array Value)))).get? b = some o := fun b o e => oth b o (Nat.ne_of_lt (Heap.lt_size e)) e
  refine wpAny_bind (wpAny_letGo ?_)
  refine extend_rev (A := A.in1) (prog := prog) (w := w) (R := wants (fun r s₂ => r = Value.none ∧ Q (Value.ref s.heap.objs.size) s₂) E) (s := { s with heap := (s.heap.push { cls := .type "list", data := .seq #[] }).update s.heap.objs.size (Obj.mapSeq (fun _ => (#[] : Array Value))) }) (c₀ := c₂) hh (hit.at fun o e => oth2 _ _ e) (hl.at fun o e => oth2 _ _ e) hne hn _ .none hS₂ hSl fun h' tk acc' c' hk hS' hacc => ?_
  exact ⟨rfl, hQ h' tk acc' c' (fun b o hb e => hk b o (Nat.ne_of_lt (Heap.lt_size e)) hb (oth2 b o e)) hS' hacc⟩
end
end Wk.LR
namespace Wk
open PySem L2 PyProof.Rows
def rLstRev (K : PySem.W.Frag) (Q : VK) (v : V) (H1 : Hp) : Prop := ∃ (a : Addr) (xs : List V), v = .ref a ∧ SqL K H1 a xs ∧ ∀ q, H1 q = none → Q (.ref q) (upd H1 q (.lst xs.reverse))
def tLstRev (K : PySem.W.Frag) (te : TE) : TE := fun σ H Q => te σ H (rLstRev K Q)
theorem All.rev {α : Type} {e : Rep α} {F : Hp} : ∀ {vs : List V} {xs : List α}, All e F vs xs → All e F vs.reverse xs.reverse
  | [], [], _ => trivial
  | _ :: _, _ :: _, ⟨a, b⟩ => by rw [List.reverse_cons, List.reverse_cons]; exact (All.rev b).snoc a
  | [], _ :: _, q => q.elim
  | _ :: _, [], q => q.elim
theorem e_lrev {K : PySem.W.Frag} {te : TE} {σ : L2.St} {H : Hp} {Q : VK} (h : te σ H (rLstRev K Q)) : tLstRev K te σ H Q := h
theorem n_lrevX {α : Type} {e : Rep α} {K : PySem.W.Frag} {F0 H0 F H : Hp} {v : V} {xs : List α} {Q : VK} (r : (pL e).r F v xs) (w : Wf F0 H0 F H) (k : ∀ p H', H p = none → Wf F H F H' → XL e H0 F H' p xs.reverse → Q (.ref p) H') : rLstRev K Q v H := by
  obtain ⟨p, vs, rfl, hp, a⟩ := r
  exact ⟨p, vs, rfl, SqL.of (w.f _ _ hp), fun l hl => k l _ hl (Wf.newX w.f hl) ⟨vs.reverse, Xc.mk' w hl, a.rev⟩⟩
theorem n_lrevXX {α : Type} {e : Rep α} {K : PySem.W.Frag} {F0 H0 F H : Hp} {q : Addr} {xs : List α} {Q : VK} (r : XL e H0 F H q xs) (w : Wf F0 H0 F H) (k : ∀ p H', H p = none → Wf F H F H' → XL e H0 F H' p xs.reverse → Q (.ref p) H') : rLstRev K Q (.ref q) H := by
  obtain ⟨vs, hp, a⟩ := r.rd
  exact ⟨q, vs, rfl, SqL.of hp, fun l hl => k l _ hl (Wf.newX w.f hl) ⟨vs.reverse, Xc.mk' w hl, a.rev⟩⟩
section
variable {X : Cx}
theorem pe_lstRev {e : Expr} {te : TE} {p p2 pos pos2 : Pos} (hc : X.calm = true) (hg : Gl X "list") (hm : X.mg "list" = none) (hg2 : Gl X "reversed") (hm2 : X.mg "reversed" = none) (he : PE X e te)
    (hs : starEach [e] X.env = (false, eval e X.env) :: starEach [] X.env := by rfl)
    (hs2 : starEach [.Call (.Name "reversed" p2) [e] [] pos2] X.env = (false, eval (.Call (.Name "reversed" p2) [e] [] pos2) X.env) :: starEach [] X.env := by rfl) :
    PE X (.Call (.Name "list" p) [.Call (.Name "reversed" p2) [e] [] pos2] [] pos) (tLstRev X.K te) := by
  refine ⟨fun pins s σ H Q I h => ?_⟩
  refine Call_ (ld_blt I hg hm PyProof.Rows.boot_list (PyProof.Rows.callWith_type1 (args_cons (Call_ (ld_blt I hg2 hm2 PyProof.Rows.boot_reversed (PyProof.Rows.callWith_type1 (args_cons (thn (he.run pins s σ H _ I h) fun u s1 ⟨v, H1, I1, r1, q1⟩ => args_nil ?_) hs) hs rfl))) hs2) hs2 rfl))
  obtain ⟨a, xs, ev, hq, q⟩ := q1
  subst ev
  obtain rfl : u = Value.ref a := r1
  obtain ⟨its, rv, p', hz⟩ := I1.list hq
  refine call_reversed_list p'.isList (args_nil ?_)
  have k0 : ∀ b o, s1.heap.get? b = some o → (s1.heap.push (revObj a ((its.toArray.size : Int) - 1))).get? b = some o := fun b o e => Heap.get?_push_of_some _ e
  have hl := p'.isList
  obtain ⟨ol, hol, _⟩ := id hl
  have hne : a ≠ s1.heap.objs.size := Nat.ne_of_lt (Heap.lt_size hol)
  have hn : its.toArray.size ≤ sizeLine := by rw [List.size_toArray, ← rv.length]; exact hz
  refine LR.call_list_rev (s := { s1 with heap := s1.heap.push (revObj a ((its.toArray.size : Int) - 1)) }) (I1.ok.hd hc) ⟨_, Heap.get?_push_size _ rfl, rfl, rfl⟩ (hl.push _) hne hn fun h' tk acc c' hk hS hi => ?_
  have hsz : (s1.heap.push (revObj a ((its.toArray.size : Int) - 1))).objs.size = s1.heap.objs.size + 1 := Heap.size_push _ _
  rw [hsz] at hS
  exact ⟨.ref (s1.heap.objs.size + 1), upd H1 (s1.heap.objs.size + 1) (.lst xs.reverse), I1.laid (t' := tk) (fun b u e => hk b u (Nat.ne_of_lt (Heap.lt_size e)) (k0 b u e)) (Nat.le_succ _) (show ObjOk X.prog X.w _ _ _ (.lst xs.reverse) from
    ⟨by rw [List.length_reverse]; exact hz, acc.toList, c', RT.vals_rev rv hi, by rw [Array.toArray_toList]; exact hS⟩), congrArg Value.ref hsz, q _ (I1.hok.fresh (Nat.le_succ _))⟩
end
end Wk
/-! Pl: plain lemmas that no law owns. -/
namespace Wk
section
variable {α β S : Type}
theorem forW_ind {xs : List α} {s : S} {body : α → S → (S → Prop) → (S → Prop) → Prop} {k : S → Prop} (P : List α → S → Prop) (h0 : P [] s)
    (hb : ∀ pre x post s nx bk, xs = pre ++ x :: post → P pre s → (∀ s', P (pre ++ [x]) s' → nx s') → (∀ s', k s' → bk s') → body x s nx bk)
    (hk : ∀ s, P xs s → k s) : forW xs s body k := by
  suffices h : ∀ (post pre : List α) (s : S), xs = pre ++ post → P pre s → forW post s body k from h xs [] s rfl h0
  intro post
  induction post with
  | nil => intro pre s e p; rw [List.append_nil] at e; subst e; exact hk s p
  | cons x post ih => intro pre s e p; exact hb pre x post s _ _ e p (fun s' p' => ih (pre ++ [x]) s' (by rw [e, List.append_assoc]; rfl) p') (fun _ h => h)
theorem forW_foldI {xs : List α} {s : S} {body : α → S → (S → Prop) → (S → Prop) → Prop} {k : S → Prop} (f : S → α → S) (I : S → Prop) (h0 : I s)
    (hb : ∀ x ∈ xs, ∀ s nx bk, I s → (I (f s x) → nx (f s x)) → body x s nx bk) (hi : ∀ x ∈ xs, ∀ s, I s → I (f s x))
    (hk : I (xs.foldl f s) → k (xs.foldl f s)) : forW xs s body k := by
  induction xs generalizing s with
  | nil => exact hk h0
  | cons x xs ih =>
    refine hb x (List.mem_cons_self ..) s _ _ h0 fun h1 => ih (s := f s x) h1 (fun y hy => hb y (List.mem_cons_of_mem _ hy)) (fun y hy => hi y (List.mem_cons_of_mem _ hy)) hk
theorem forW_fold {xs : List α} {s : S} {body : α → S → (S → Prop) → (S → Prop) → Prop} {k : S → Prop} (f : S → α → S)
    (hb : ∀ x ∈ xs, ∀ s nx bk, nx (f s x) → body x s nx bk) (hk : k (xs.foldl f s)) : forW xs s body k :=
  forW_foldI f (fun _ => True) trivial (fun x hx s nx bk _ h => hb x hx s nx bk (h trivial)) (fun _ _ _ _ => trivial) fun _ => hk
theorem forW_unit {xs : List α} {body : α → Unit → (Unit → Prop) → (Unit → Prop) → Prop} {k : Unit → Prop}
    (hb : ∀ x ∈ xs, ∀ nx bk, nx () → body x () nx bk) (hk : k ()) : forW xs () body k :=
  forW_fold (fun s _ => s) (fun x hx _ nx bk h => hb x hx nx bk h) hk
theorem compG_fm {xs : List α} {acc : List β} {b : α → (Option β → Prop) → Prop} {k : List β → Prop} (f : α → Option β) (hb : ∀ x ∈ xs, ∀ kk, kk (f x) → b x kk) (hk : k (acc ++ xs.filterMap f)) : compG xs acc b k := by
  induction xs generalizing acc with
  | nil => simpa [compG] using hk
  | cons x xs ih =>
    refine hb x (List.mem_cons_self ..) _ (ih (fun y hy => hb y (List.mem_cons_of_mem _ hy)) ?_)
    rw [List.filterMap_cons] at hk
    cases h : f x with
    | none => rw [h] at hk; simpa using hk
    | some y => rw [h] at hk; simpa using hk
theorem compW_fm {xs : List α} {b : α → (Option β → Prop) → Prop} {k : List β → Prop} (f : α → Option β) (hb : ∀ x ∈ xs, ∀ kk, kk (f x) → b x kk) (hk : k (xs.filterMap f)) : compW xs b k :=
  compG_fm f hb (by simpa using hk)
theorem compW_map {xs : List α} {b : α → (Option β → Prop) → Prop} {k : List β → Prop} (f : α → β) (hb : ∀ x ∈ xs, ∀ kk, kk (some (f x)) → b x kk) (hk : k (xs.map f)) : compW xs b k :=
  compW_fm (fun x => some (f x)) hb (by rw [show (fun x => some (f x)) = some ∘ f from rfl, List.filterMap_eq_map]; exact hk)
theorem compW_filter {xs : List α} {b : α → (Option α → Prop) → Prop} {k : List α → Prop} (p : α → Bool) (hb : ∀ x ∈ xs, ∀ kk, (p x = true → kk (some x)) → (p x = false → kk none) → b x kk) (hk : k (xs.filter p)) : compW xs b k :=
  compW_fm (fun x => if p x = true then some x else none) (fun x hx kk h => hb x hx kk (fun e => by simpa [e] using h) (fun e => by simpa [e] using h)) (by
    have : (fun x => if p x = true then some x else none) = Option.guard (fun x => p x) := by funext x; by_cases h : p x = true <;> simp [Option.guard, h]
    rw [this, List.filterMap_eq_filter]; exact hk)
theorem whileW_of {test : S → (Bool → Prop) → Prop} {body : S → (S → Prop) → (S → Prop) → Prop} {s : S} {k : S → Prop} (I : S → Prop) (μ : S → Nat) (h0 : I s)
    (hb : ∀ s, I s → test s fun b => if b = true then body s (fun s' => (μ s' < μ s ∧ I s')) k else k s) (hm : ∀ {s p q}, (∀ x, p x → q x) → (test s fun b => if b = true then body s p k else k s) → (test s fun b => if b = true then body s q k else k s)) : whileW test body s k :=
  ⟨fun m s => m = μ s ∧ I s, ⟨_, rfl, h0⟩, fun m s ⟨e, h⟩ => hm (fun s' ⟨a, b⟩ => ⟨μ s', by rw [e]; exact a, rfl, b⟩) (hb s h)⟩
theorem forW_append {xs ys : List α} {s : S} {body : α → S → (S → Prop) → (S → Prop) → Prop} {k : S → Prop} : forW (xs ++ ys) s body k = forW xs s (fun x s nx bk => body x s nx k) (fun s => forW ys s body k) := by
  induction xs generalizing s with
  | nil => rfl
  | cons x xs ih =>
    show body x s (fun s' => forW (xs ++ ys) s' body k) k = body x s (fun s' => forW xs s' _ _) k
    simp only [ih]
/-- a comprehension whose turns are told by what they may give -/
def CR (P : α → Option β → Prop) : List α → List β → Prop
  | [], ys => ys = []
  | x :: xs, ys => ∃ o ys', P x o ∧ ys = o.toList ++ ys' ∧ CR P xs ys'
theorem compG_rel {xs : List α} {acc : List β} {b : α → (Option β → Prop) → Prop} {k : List β → Prop} (P : α → Option β → Prop) (hb : ∀ x ∈ xs, ∀ kk, (∀ o, P x o → kk o) → b x kk) (hk : ∀ ys, CR P xs ys → k (acc ++ ys)) : compG xs acc b k := by
  induction xs generalizing acc with
  | nil => have := hk [] rfl; rwa [List.append_nil] at this
  | cons x xs ih =>
    refine hb x (List.mem_cons_self ..) _ fun o ho => ih (fun y hy => hb y (List.mem_cons_of_mem _ hy)) fun ys hy => ?_
    rw [List.append_assoc]
    exact hk _ ⟨o, ys, ho, rfl, hy⟩
theorem compW_rel {xs : List α} {b : α → (Option β → Prop) → Prop} {k : List β → Prop} (P : α → Option β → Prop) (hb : ∀ x ∈ xs, ∀ kk, (∀ o, P x o → kk o) → b x kk) (hk : ∀ ys, CR P xs ys → k ys) : compW xs b k := compG_rel P hb fun ys h => by rw [List.nil_append]; exact hk ys h
theorem jnI {f : (S → Prop) → Prop} {k : S → Prop} (h : f k) : jn f k := h
/-- a while loop without a measure that must be told -/
theorem whileW_ind {test : S → (Bool → Prop) → Prop} {body : S → (S → Prop) → (S → Prop) → Prop} {s : S} {k : S → Prop} (I : S → Prop) (μ : S → Nat) (h0 : I s)
    (hb : ∀ s (nx : S → Prop), I s → (∀ s', I s' → μ s' < μ s → nx s') → test s fun b => if b = true then body s nx k else k s) : whileW test body s k :=
  ⟨fun m s => m = μ s ∧ I s, ⟨_, rfl, h0⟩, fun m s ⟨e, h⟩ => hb s _ h fun s' h' hl => ⟨μ s', by rw [e]; exact hl, rfl, h'⟩⟩
end
end Wk
/-! Bt: masks as sets of bits. -/
namespace Wk
theorem halfBit (n i : Nat) : (n / 2).testBit i = n.testBit (i + 1) := by rw [Nat.testBit_add_one]
theorem half_xor (a b : Nat) : (a ^^^ b) / 2 = a / 2 ^^^ b / 2 := Nat.eq_of_testBit_eq fun i => by rw [Nat.testBit_xor, halfBit, halfBit, halfBit, Nat.testBit_xor]
theorem half_and (a b : Nat) : (a &&& b) / 2 = a / 2 &&& b / 2 := Nat.eq_of_testBit_eq fun i => by rw [Nat.testBit_and, halfBit, halfBit, halfBit, Nat.testBit_and]
/-- is the number of bits odd? -/
def par (n : Nat) : Bool := if h : n = 0 then false else xor (n.testBit 0) (par (n / 2))
termination_by n
decreasing_by omega
theorem par_zero : par 0 = false := by rw [par]; simp
theorem par_step (n : Nat) : par n = xor (n.testBit 0) (par (n / 2)) := by
  by_cases h : n = 0
  · subst h; simp [par_zero]
  · rw [par, dif_neg h]
theorem par_xor : ∀ a b : Nat, par (a ^^^ b) = xor (par a) (par b) := by
  intro a
  induction a using Nat.strongRecOn with
  | ind a ih =>
    intro b
    by_cases h : a = 0
    · subst h; simp [par_zero]
    · rw [par_step (a ^^^ b), par_step a, par_step b, half_xor, ih (a / 2) (by omega), Nat.testBit_xor]
      cases a.testBit 0 <;> cases b.testBit 0 <;> cases par (a / 2) <;> cases par (b / 2) <;> rfl
theorem par_two_pow (k : Nat) : par (2 ^ k) = true := by
  induction k with
  | zero => rw [par_step]; simp [par_zero]
  | succ k ih =>
    rw [par_step, Nat.testBit_two_pow]
    have e : 2 ^ (k + 1) / 2 = 2 ^ k := by rw [Nat.pow_succ]; omega
    rw [e, ih]; simp
/-- the places of the bits below k -/
def bl (k n : Nat) : List Nat := (List.range k).filter n.testBit
theorem mem_bl {k n j : Nat} : j ∈ bl k n ↔ j < k ∧ n.testBit j = true := by simp [bl, List.mem_filter, List.mem_range]
theorem bl_len (k n : Nat) : (bl k n).length ≤ k := by
  have := List.length_filter_le n.testBit (List.range k)
  rw [List.length_range] at this; exact this
theorem bl_nodup (k n : Nat) : (bl k n).Nodup := (List.nodup_range).filter _
theorem bl_snoc (k n : Nat) : bl (k + 1) n = bl k n ++ if n.testBit k = true then [k] else [] := by
  unfold bl
  rw [List.range_succ, List.filter_append]
  by_cases h : n.testBit k = true
  · rw [if_pos h, List.filter_cons_of_pos h]; rfl
  · rw [if_neg h, List.filter_cons_of_neg h]; rfl
theorem bl_more {p k n : Nat} (h : p ≤ k) (z : n >>> p = 0) : bl k n = bl p n := by
  induction k with
  | zero => have : p = 0 := by omega
            subst this; rfl
  | succ k ih =>
    by_cases e : p = k + 1
    · subst e; rfl
    · rw [bl_snoc, ih (by omega)]
      have : n.testBit k = false := by
        have a : (n >>> p).testBit (k - p) = n.testBit (p + (k - p)) := Nat.testBit_shiftRight ..
        rw [z, Nat.zero_testBit] at a
        rw [show p + (k - p) = k by omega] at a
        exact a.symm
      simp [this]
theorem par_bl {k : Nat} : ∀ {n : Nat}, n < 2 ^ k → par n = decide ((bl k n).length % 2 = 1) := by
  induction k with
  | zero => intro n h; have : n = 0 := by simpa using h
            subst this; simp [par_zero, bl]
  | succ k ih =>
    intro n h
    have e : (bl (k + 1) n).length = (n.testBit 0).toNat + (bl k (n / 2)).length := by
      unfold bl
      rw [List.range_succ_eq_map, List.filter_cons]
      have m : (List.map Nat.succ (List.range k)).filter n.testBit = ((List.range k).filter (n / 2).testBit).map Nat.succ := by
        rw [List.filter_map]
        congr 1
        refine List.filter_congr fun x _ => ?_
        show n.testBit (x + 1) = (n / 2).testBit x
        rw [halfBit]
      rw [m]
      cases n.testBit 0 <;> simp [List.length_map] <;> omega
    rw [par_step, ih (n := n / 2) (by rw [Nat.pow_succ] at h; omega), e]
    cases n.testBit 0
    · simp
    · simp only [Bool.toNat_true]
      by_cases q : (bl k (n / 2)).length % 2 = 1
      · simp [q]; omega
      · simp [q]; omega
/-- the mask of places, each as often as it stands there -/
def mofI (m : Nat) (ps : List Nat) : Nat := ps.foldl (fun m p => m ^^^ 2 ^ p) m
def mof (ps : List Nat) : Nat := mofI 0 ps
theorem mofI_bit (ps : List Nat) (m j : Nat) : (mofI m ps).testBit j = xor (m.testBit j) (decide (ps.count j % 2 = 1)) := by
  induction ps generalizing m with
  | nil => simp [mofI]
  | cons p ps ih =>
    show (mofI (m ^^^ 2 ^ p) ps).testBit j = _
    rw [ih, Nat.testBit_xor, Nat.testBit_two_pow, List.count_cons]
    by_cases h : p = j
    · subst h
      by_cases q : ps.count p % 2 = 1
      · simp [q]; cases m.testBit p <;> simp <;> omega
      · simp [q]; cases m.testBit p <;> simp <;> omega
    · simp [h]
theorem mof_bit (ps : List Nat) (j : Nat) : (mof ps).testBit j = decide (ps.count j % 2 = 1) := by
  unfold mof; rw [mofI_bit, Nat.zero_testBit, Bool.false_xor]
theorem mofI_xor (ps : List Nat) (m : Nat) : mofI m ps = m ^^^ mof ps := Nat.eq_of_testBit_eq fun j => by rw [mofI_bit, Nat.testBit_xor, mof_bit]
theorem mof_append (ps qs : List Nat) : mof (ps ++ qs) = mof ps ^^^ mof qs := Nat.eq_of_testBit_eq fun j => by
  rw [Nat.testBit_xor, mof_bit, mof_bit, mof_bit, List.count_append]
  by_cases a : ps.count j % 2 = 1 <;> by_cases b : qs.count j % 2 = 1 <;> simp [a, b] <;> omega
theorem mof_reverse (ps : List Nat) : mof ps.reverse = mof ps := Nat.eq_of_testBit_eq fun j => by rw [mof_bit, mof_bit, List.count_reverse]
theorem testBit_big {n k j : Nat} (h : n < 2 ^ k) (hj : k ≤ j) : n.testBit j = false := Nat.testBit_lt_two_pow (Nat.lt_of_lt_of_le h (Nat.pow_le_pow_right (by decide) hj))
theorem count_bl {k n j : Nat} : (bl k n).count j = if j < k ∧ n.testBit j = true then 1 else 0 := by
  by_cases h : j < k ∧ n.testBit j = true
  · rw [if_pos h]
    exact Nat.le_antisymm (List.nodup_iff_count.mp (bl_nodup k n) j) (List.count_pos_iff.mpr (mem_bl.mpr h))
  · rw [if_neg h]
    exact List.count_eq_zero.mpr fun z => h (mem_bl.mp z)
theorem mof_bl {k n : Nat} (h : n < 2 ^ k) : mof (bl k n) = n := Nat.eq_of_testBit_eq fun j => by
  rw [mof_bit, count_bl]
  by_cases a : j < k
  · by_cases b : n.testBit j = true <;> simp [a, b]
  · have : n.testBit j = false := testBit_big h (Nat.le_of_not_lt a)
    simp [a, this]
/-! dicts -/
section
variable {κ α : Type} [DecidableEq κ] [KeyT κ]
theorem valT_nil (j : κ) : valT ([] : List (κ × α)) j = none := rfl
theorem valT_app {m : List (κ × α)} {j i : κ} {x : α} (h : hasT m j = false) : valT (m ++ [(j, x)]) i = if j = i then some x else valT m i := by
  induction m with
  | nil => show valT [(j, x)] i = _; rw [valT_cons]
  | cons q m ih =>
    have h' : q.1 ≠ j ∧ hasT m j = false := by
      unfold hasT at h ⊢
      rw [valT_cons] at h
      by_cases e : q.1 = j
      · rw [if_pos e] at h; cases h
      · rw [if_neg e] at h; exact ⟨e, h⟩
    rw [List.cons_append, valT_cons, valT_cons, ih h'.2]
    by_cases e : q.1 = i
    · rw [if_pos e, if_pos e, if_neg]
      intro z; exact h'.1 (e.trans z.symm)
    · rw [if_neg e, if_neg e]
theorem valT_map {m : List (κ × α)} {j i : κ} {x : α} : valT (m.map fun q => if q.1 = j then (q.1, x) else q) i = if j = i ∧ hasT m j = true then some x else valT m i := by
  induction m with
  | nil => show none = _; rw [if_neg (fun z => by cases z.2)]; rfl
  | cons q m ih =>
    rw [List.map_cons, valT_cons, valT_cons, ih]
    have hh : hasT (q :: m) j = if q.1 = j then true else hasT m j := by
      unfold hasT; rw [valT_cons]
      by_cases e : q.1 = j
      · rw [if_pos e, if_pos e]; rfl
      · rw [if_neg e, if_neg e]
    rw [hh]
    by_cases e : q.1 = j
    · rw [if_pos e, if_pos e]
      by_cases f : q.1 = i
      · rw [if_pos f, if_pos ⟨e.symm.trans f, rfl⟩]
      · rw [if_neg f, if_neg (fun z => f (e.trans z.1)), if_neg (fun z => f (e.trans z.1)), if_neg f]
    · rw [if_neg e, if_neg e]
      by_cases f : q.1 = i
      · rw [if_pos f, if_neg (fun z => e (f.trans z.1.symm))]
        rw [if_pos f]
      · rw [if_neg f, if_neg f]
theorem valT_putT {m : List (κ × α)} {j i : κ} {x : α} : valT (putT m j x) i = if j = i then some x else valT m i := by
  unfold putT
  cases h : hasT m j with
  | true =>
    rw [if_pos rfl, valT_map]
    by_cases e : j = i
    · rw [if_pos ⟨e, h⟩, if_pos e]
    · rw [if_neg (fun z => e z.1), if_neg e]
  | false => rw [if_neg (by simp), valT_app h]
theorem hasT_putT {m : List (κ × α)} {j i : κ} {x : α} : hasT (putT m j x) i = (decide (j = i) || hasT m i) := by
  unfold hasT; rw [valT_putT]
  by_cases e : j = i
  · rw [if_pos e, decide_eq_true e]; rfl
  · rw [if_neg e, decide_eq_false e]; rfl
theorem hasT_iff {m : List (κ × α)} {j : κ} : hasT m j = true ↔ j ∈ m.map (·.1) := by
  induction m with
  | nil => exact ⟨fun h => (by cases h), fun h => (by cases h)⟩
  | cons q m ih =>
    unfold hasT at ih ⊢
    rw [valT_cons, List.map_cons, List.mem_cons]
    by_cases e : q.1 = j
    · rw [if_pos e]; exact ⟨fun _ => .inl e.symm, fun _ => rfl⟩
    · rw [if_neg e, ih]; exact ⟨.inr, fun h => h.resolve_left fun z => e z.symm⟩
theorem putT_len {m : List (κ × α)} {j : κ} {x : α} : (putT m j x).length ≤ m.length + 1 := by
  unfold putT
  by_cases h : hasT m j = true
  · rw [if_pos h, List.length_map]; omega
  · rw [if_neg h, List.length_append]; exact Nat.le_refl _
end
theorem NDiv_pow {k : Nat} (h : k < 9000) : NDiv (2 ^ k) := ⟨Nat.two_pow_pos k, by rw [Nat.log2_two_pow]; exact h⟩
end Wk
/-! Gf: sums of masks. -/
namespace Wk
/-! the size of a number -/
theorem bits_zero : bits 0 = 0 := rfl
theorem bits_le {n k : Nat} : bits n ≤ k ↔ n < 2 ^ k := by
  unfold bits
  by_cases h : n = 0
  · subst h; simp [Nat.two_pow_pos]
  · rw [if_neg h]
    exact ⟨fun z => (Nat.log2_lt h).mp (Nat.lt_of_succ_le z), fun z => Nat.succ_le_of_lt ((Nat.log2_lt h).mpr z)⟩
theorem lt_bits (n : Nat) : n < 2 ^ bits n := bits_le.mp (Nat.le_refl _)
theorem bits_pos {n : Nat} (h : n ≠ 0) : 0 < bits n := by unfold bits; rw [if_neg h]; exact Nat.succ_pos _
theorem bits_eq_zero {n : Nat} : bits n = 0 ↔ n = 0 := ⟨fun h => by
  by_cases e : n = 0
  · exact e
  · have := bits_pos e; omega, fun h => by subst h; rfl⟩
theorem bits_ge {n k : Nat} (h : n.testBit k = true) : k < bits n := by
  refine Nat.lt_of_not_le fun z => ?_
  rw [testBit_big (bits_le.mp z) (Nat.le_refl _)] at h; cases h
theorem bits_bit {n : Nat} (h : n ≠ 0) : n.testBit (bits n - 1) = true := by
  have hp := bits_pos h
  have h1 : n < 2 ^ (bits n - 1 + 1) := by rw [Nat.sub_add_cancel hp]; exact lt_bits n
  have h2 : 2 ^ (bits n - 1) ≤ n := by
    refine Nat.le_of_not_lt fun z => ?_
    have := bits_le.mpr z
    omega
  rw [Nat.testBit_eq_decide_div_mod_eq, decide_eq_true_iff]
  have h3 : n / 2 ^ (bits n - 1) = 1 := by
    refine Nat.le_antisymm ?_ ?_
    · refine Nat.le_of_lt_succ (Nat.div_lt_of_lt_mul ?_)
      rw [Nat.pow_succ] at h1; exact h1
    · exact (Nat.one_le_div_iff (Nat.two_pow_pos _)).mpr h2
  rw [h3]
theorem bits_of_bit {n k : Nat} (h : n.testBit k = true) (h2 : n < 2 ^ (k + 1)) : bits n = k + 1 := Nat.le_antisymm (bits_le.mpr h2) (bits_ge h)
theorem bits_xor_ne {u l : Nat} (h : bits u < bits l) : bits (u ^^^ l) = bits l := by
  have hl : l ≠ 0 := fun z => by subst z; rw [bits_zero] at h; omega
  have hp := bits_pos hl
  have e : bits l - 1 + 1 = bits l := Nat.sub_add_cancel hp
  rw [← e]
  refine bits_of_bit ?_ ?_
  · rw [Nat.testBit_xor, bits_bit hl, testBit_big (lt_bits u) (by omega)]; rfl
  · rw [e]; exact Nat.xor_lt_two_pow (Nat.lt_trans (lt_bits u) (Nat.pow_lt_pow_right (by decide) h)) (lt_bits l)
theorem bits_xor_max {u l : Nat} (h : bits u ≠ bits l) : bits (u ^^^ l) = max (bits u) (bits l) := by
  rcases Nat.lt_or_gt_of_ne h with q | q
  · rw [bits_xor_ne q, Nat.max_eq_right (Nat.le_of_lt q)]
  · rw [Nat.xor_comm, bits_xor_ne q, Nat.max_eq_left (Nat.le_of_lt q)]
theorem bits_xor_eq {u l : Nat} (h : bits u = bits l) (hu : u ≠ 0) : bits (u ^^^ l) < bits u := by
  have hl : l ≠ 0 := fun z => by subst z; rw [bits_zero] at h; exact hu (bits_eq_zero.mp h)
  have hp := bits_pos hu
  refine Nat.lt_of_le_of_ne (bits_le.mpr (Nat.xor_lt_two_pow (lt_bits u) (by rw [h]; exact lt_bits l))) fun z => ?_
  have n0 : u ^^^ l ≠ 0 := fun q => by rw [q, bits_zero] at z; omega
  have := bits_bit n0
  rw [z, Nat.testBit_xor, bits_bit hu, h, bits_bit hl] at this
  cases this
theorem xor0 {a b : Nat} (h : a ^^^ b = 0) : a = b := by
  have e : (a ^^^ b) ^^^ b = b := by rw [h, Nat.zero_xor]
  rw [Nat.xor_assoc, Nat.xor_self, Nat.xor_zero] at e; exact e
/-! sums of rows -/
def comb : List Nat → Nat → Nat
  | [], _ => 0
  | r :: rs, S => (if S.testBit 0 = true then r else 0) ^^^ comb rs (S / 2)
theorem comb_xor : ∀ (rs : List Nat) (S T : Nat), comb rs (S ^^^ T) = comb rs S ^^^ comb rs T
  | [], _, _ => by simp [comb]
  | r :: rs, S, T => by
    show (if (S ^^^ T).testBit 0 = true then r else 0) ^^^ comb rs ((S ^^^ T) / 2) = _
    rw [half_xor, comb_xor rs, Nat.testBit_xor]
    show _ = ((if S.testBit 0 = true then r else 0) ^^^ comb rs (S / 2)) ^^^ ((if T.testBit 0 = true then r else 0) ^^^ comb rs (T / 2))
    generalize comb rs (S / 2) = a
    generalize comb rs (T / 2) = b
    cases S.testBit 0 <;> cases T.testBit 0
    · simp
    · simp only [Bool.false_xor, if_true, Bool.false_eq_true, if_false, Nat.zero_xor]
      rw [← Nat.xor_assoc, ← Nat.xor_assoc, Nat.xor_comm a r]
    · simp only [Bool.xor_false, if_true, Bool.false_eq_true, if_false, Nat.zero_xor]
      rw [Nat.xor_assoc]
    · simp only [Bool.xor_self, if_true, Bool.false_eq_true, if_false, Nat.zero_xor]
      rw [Nat.xor_comm r b, ← Nat.xor_assoc, Nat.xor_assoc (r ^^^ a), ]
      rw [Nat.xor_comm r a, Nat.xor_assoc a r, ← Nat.xor_assoc r b r, Nat.xor_comm r b, Nat.xor_assoc b r r, Nat.xor_self, Nat.xor_zero]
theorem comb_zero : ∀ rs : List Nat, comb rs 0 = 0
  | [] => rfl
  | r :: rs => by show (if Nat.testBit 0 0 = true then r else 0) ^^^ comb rs (0 / 2) = 0; rw [Nat.zero_div, comb_zero rs]; simp
theorem comb_ext : ∀ {rs : List Nat} {S T : Nat}, (∀ j, j < rs.length → S.testBit j = T.testBit j) → comb rs S = comb rs T
  | [], _, _, _ => rfl
  | r :: rs, S, T, h => by
    show (if S.testBit 0 = true then r else 0) ^^^ comb rs (S / 2) = (if T.testBit 0 = true then r else 0) ^^^ comb rs (T / 2)
    rw [h 0 (by simp), comb_ext (rs := rs) (S := S / 2) (T := T / 2) fun j hj => by
      rw [halfBit, halfBit]; exact h (j + 1) (by simpa using hj)]
theorem comb_snoc : ∀ (rs : List Nat) (r S : Nat), comb (rs ++ [r]) S = comb rs S ^^^ if S.testBit rs.length = true then r else 0
  | [], r, S => by simp [comb]
  | q :: rs, r, S => by
    show (if S.testBit 0 = true then q else 0) ^^^ comb (rs ++ [r]) (S / 2) = _
    rw [comb_snoc rs, halfBit]
    show _ = ((if S.testBit 0 = true then q else 0) ^^^ comb rs (S / 2)) ^^^ _
    rw [← Nat.xor_assoc]; rfl
theorem comb_lt : ∀ {rs : List Nat} {S k : Nat}, (∀ r ∈ rs, r < 2 ^ k) → comb rs S < 2 ^ k
  | [], _, _, _ => Nat.two_pow_pos _
  | r :: rs, S, k, h => by
    refine Nat.xor_lt_two_pow ?_ (comb_lt fun x hx => h x (List.mem_cons_of_mem _ hx))
    by_cases q : S.testBit 0 = true
    · rw [if_pos q]; exact h r (List.mem_cons_self ..)
    · rw [if_neg q]; exact Nat.two_pow_pos _
theorem comb_pow_len (rs : List Nat) : comb rs (2 ^ rs.length) = 0 := by
  rw [← comb_zero rs]
  refine comb_ext fun j hj => ?_
  rw [Nat.testBit_two_pow, Nat.zero_testBit, decide_eq_false (by omega)]
theorem comb_map (f : Nat → Nat) (h0 : f 0 = 0) (hf : ∀ a b, f (a ^^^ b) = f a ^^^ f b) : ∀ (vs : List Nat) (S : Nat), comb (vs.map f) S = f (comb vs S)
  | [], _ => h0.symm
  | v :: vs, S => by
    show (if S.testBit 0 = true then f v else 0) ^^^ comb (vs.map f) (S / 2) = f ((if S.testBit 0 = true then v else 0) ^^^ comb vs (S / 2))
    rw [comb_map f h0 hf vs, hf]
    by_cases q : S.testBit 0 = true
    · rw [if_pos q, if_pos q]
    · rw [if_neg q, if_neg q, h0]
/-- the sums of the rows -/
def Span (vs : List Nat) (v : Nat) : Prop := ∃ S, comb vs S = v
theorem Span.zero (vs : List Nat) : Span vs 0 := ⟨0, comb_zero vs⟩
theorem Span.xor {vs : List Nat} {u v : Nat} : Span vs u → Span vs v → Span vs (u ^^^ v) := fun ⟨S, a⟩ ⟨T, b⟩ => ⟨S ^^^ T, by rw [comb_xor, a, b]⟩
theorem Span.low {vs : List Nat} {v : Nat} : Span vs v → ∃ S, S < 2 ^ vs.length ∧ comb vs S = v := fun ⟨S, a⟩ => ⟨S % 2 ^ vs.length, Nat.mod_lt _ (Nat.two_pow_pos _), by
  rw [← a]
  refine comb_ext fun j hj => ?_
  rw [Nat.testBit_mod_two_pow, decide_eq_true hj, Bool.true_and]⟩
theorem Span.snoc {vs : List Nat} {r v : Nat} : Span (vs ++ [r]) v ↔ Span vs v ∨ Span vs (v ^^^ r) := by
  constructor
  · rintro ⟨S, h⟩
    rw [comb_snoc] at h
    by_cases q : S.testBit vs.length = true
    · rw [if_pos q] at h
      exact .inr ⟨S, by rw [← h, Nat.xor_assoc, Nat.xor_self, Nat.xor_zero]⟩
    · rw [if_neg q, Nat.xor_zero] at h
      exact .inl ⟨S, h⟩
  · rintro (h | h)
    · obtain ⟨S, hl, e⟩ := h.low
      exact ⟨S, by rw [comb_snoc, testBit_big hl (Nat.le_refl _), e]; simp⟩
    · obtain ⟨S, hl, e⟩ := h.low
      refine ⟨S ^^^ 2 ^ vs.length, ?_⟩
      rw [comb_snoc, comb_xor, comb_pow_len, e, Nat.testBit_xor, testBit_big hl (Nat.le_refl _), Nat.testBit_two_pow, decide_eq_true rfl]
      simp [Nat.xor_assoc]
theorem Span.nil {v : Nat} : Span [] v ↔ v = 0 := ⟨fun ⟨_, h⟩ => h.symm, fun h => by subst h; exact Span.zero _⟩
theorem Span.inj {vs : List Nat} {k : Nat} (f : Nat → Nat) (h0 : f 0 = 0) (hf : ∀ a b, f (a ^^^ b) = f a ^^^ f b) (hi : ∀ a, a < 2 ^ k → f a = 0 → a = 0) (hv : ∀ v ∈ vs, v < 2 ^ k) {v : Nat} (hk : v < 2 ^ k) : Span (vs.map f) (f v) ↔ Span vs v := by
  constructor
  · rintro ⟨S, h⟩
    rw [comb_map f h0 hf] at h
    refine ⟨S, ?_⟩
    have : comb vs S ^^^ v = 0 := hi _ (Nat.xor_lt_two_pow (comb_lt hv) hk) (by rw [hf, h, Nat.xor_self])
    exact xor0 this
  · rintro ⟨S, h⟩
    exact ⟨S, by rw [comb_map f h0 hf, h]⟩
/-- masks with unlike highest bits, rising -/
def Incr (ws : List Nat) : Prop := ws.Pairwise (fun a b => bits a < bits b) ∧ ∀ w ∈ ws, w ≠ 0
theorem Incr.snoc {ws : List Nat} {w : Nat} (h : Incr ws) (hb : ∀ x ∈ ws, bits x < bits w) (h0 : w ≠ 0) : Incr (ws ++ [w]) := ⟨List.pairwise_append.mpr ⟨h.1, List.pairwise_singleton _ _, fun a ha b hb' => by rw [List.mem_singleton.mp hb']; exact hb a ha⟩, fun x hx => by
  rcases List.mem_append.mp hx with q | q
  · exact h.2 x q
  · rw [List.mem_singleton.mp q]; exact h0⟩
theorem comb_snoc_bits {ws : List Nat} {w S : Nat} (hb : ∀ x ∈ ws, bits x < bits w) : bits (comb ws S) < bits w ∨ w = 0 := by
  by_cases h : w = 0
  · exact .inr h
  · left
    have hp := bits_pos h
    refine Nat.lt_of_le_of_lt (bits_le.mpr (comb_lt (k := bits w - 1) fun x hx => ?_)) (by omega)
    have := hb x hx
    exact bits_le.mp (by omega)
theorem Incr.inj : ∀ {ws : List Nat} {S : Nat}, Incr ws → S < 2 ^ ws.length → comb ws S = 0 → S = 0 := by
  intro ws
  induction hn : ws.length generalizing ws with
  | zero => intro S _ hS _; simpa using hS
  | succ n ih =>
    intro S hI hS h
    obtain ⟨us, w, rfl⟩ : ∃ us w, ws = us ++ [w] := ⟨ws.dropLast, ws.getLast (by intro z; subst z; cases hn), (List.dropLast_concat_getLast _).symm⟩
    have hl : us.length = n := by rw [List.length_append] at hn; simpa using hn
    obtain ⟨hp, h0⟩ := hI
    rw [List.pairwise_append] at hp
    have hw : w ≠ 0 := h0 w (List.mem_append_right _ (List.mem_singleton_self _))
    have hb : ∀ x ∈ us, bits x < bits w := fun x hx => hp.2.2 x hx w (List.mem_singleton_self _)
    rw [comb_snoc, hl] at h
    by_cases q : S.testBit n = true
    · rw [if_pos q] at h
      have e := xor0 h
      rcases comb_snoc_bits (S := S) hb with z | z
      · rw [e] at z; exact absurd z (Nat.lt_irrefl _)
      · exact absurd z hw
    · rw [if_neg q, Nat.xor_zero] at h
      have hS' : S < 2 ^ n := by
        refine Nat.lt_pow_two_of_testBit _ fun j hj => ?_
        by_cases e : j = n
        · subst e; simpa using q
        · exact testBit_big hS (by omega)
      exact ih (ws := us) hl ⟨hp.1, fun x hx => h0 x (List.mem_append_left _ hx)⟩ hS' h
/-- the places of rows that are no sums of rows ahead -/
noncomputable def fndP (rs : List Nat) : List Nat := open Classical in (List.range rs.length).filter fun j => decide (¬ Span (rs.take j) (rs.getD j 0))
theorem fndP_nil : fndP [] = [] := rfl
theorem fndP_snoc (rs : List Nat) (r : Nat) : fndP (rs ++ [r]) = fndP rs ++ open Classical in if Span rs r then [] else [rs.length] := by
  classical
  unfold fndP
  rw [List.length_append, List.length_singleton, List.range_succ, List.filter_append]
  congr 1
  · refine List.filter_congr fun j hj => ?_
    have hj' := List.mem_range.mp hj
    rw [List.take_append_of_le_length (Nat.le_of_lt hj'), List.getD_eq_getElem?_getD, List.getD_eq_getElem?_getD, List.getElem?_append_left hj']
  · have e1 : (rs ++ [r]).take rs.length = rs := by rw [List.take_append_of_le_length (Nat.le_refl _), List.take_length]
    have e2 : (rs ++ [r]).getD rs.length 0 = r := by rw [List.getD_eq_getElem?_getD, List.getElem?_append_right (Nat.le_refl _), Nat.sub_self]; rfl
    by_cases q : Span rs r
    · rw [if_pos q, List.filter_cons_of_neg (by rw [e1, e2]; simpa using q)]; rfl
    · rw [if_neg q, List.filter_cons_of_pos (by rw [e1, e2]; simpa using q)]; rfl
theorem fndP_len (rs : List Nat) : (fndP rs).length ≤ rs.length := by
  unfold fndP
  have := List.length_filter_le (fun j => open Classical in decide (¬ Span (rs.take j) (rs.getD j 0))) (List.range rs.length)
  rw [List.length_range] at this; exact this
theorem fndP_congr {rs qs : List Nat} (hl : rs.length = qs.length) (h : ∀ j, j < rs.length → (Span (rs.take j) (rs.getD j 0) ↔ Span (qs.take j) (qs.getD j 0))) : fndP rs = fndP qs := by
  classical
  unfold fndP
  rw [← hl]
  refine List.filter_congr fun j hj => ?_
  rw [decide_eq_decide, h j (List.mem_range.mp hj)]
theorem fndP_map {rs : List Nat} {k : Nat} (f : Nat → Nat) (h0 : f 0 = 0) (hf : ∀ a b, f (a ^^^ b) = f a ^^^ f b) (hi : ∀ a, a < 2 ^ k → f a = 0 → a = 0) (hv : ∀ v ∈ rs, v < 2 ^ k) : fndP (rs.map f) = fndP rs := by
  refine fndP_congr (List.length_map _) fun j hj => ?_
  rw [List.length_map] at hj
  rw [← List.map_take]
  have e : (rs.map f).getD j 0 = f (rs.getD j 0) := by
    rw [List.getD_eq_getElem?_getD, List.getD_eq_getElem?_getD, List.getElem?_map, List.getElem?_eq_getElem hj]; rfl
  rw [e]
  have hm : rs.getD j 0 ∈ rs := by rw [List.getD_eq_getElem?_getD, List.getElem?_eq_getElem hj]; exact List.getElem_mem hj
  exact Span.inj f h0 hf hi (fun v hv' => hv v (List.mem_of_mem_take hv')) (hv _ hm)
/-- numbers below k, none twice: at most k of them -/
theorem nodup_len : ∀ {k : Nat} {l : List Nat}, l.Nodup → (∀ x ∈ l, x < k) → l.length ≤ k
  | 0, l, _, h => by cases l with
    | nil => exact Nat.le_refl _
    | cons x l => exact absurd (h x (List.mem_cons_self ..)) (Nat.not_lt_zero _)
  | k + 1, l, hn, h => by
    have h1 : (l.erase k).length ≤ k := nodup_len (hn.erase k) fun x hx => by
      have hm := List.mem_of_mem_erase hx
      have := h x hm
      have hk : x ≠ k := fun z => by subst z; exact (List.Nodup.not_mem_erase hn) hx
      omega
    have h2 : l.length ≤ (l.erase k).length + 1 := by
      by_cases q : k ∈ l
      · rw [List.length_erase_of_mem q]; omega
      · rw [List.erase_of_not_mem q]; omega
    omega
end Wk
/-! Po: polynomials over two elements, as masks. -/
namespace Wk
def pm (a b : Nat) : Nat := if h : b = 0 then 0 else (if b.testBit 0 = true then a else 0) ^^^ pm (2 * a) (b / 2)
termination_by b
decreasing_by omega
theorem pm_zero (a : Nat) : pm a 0 = 0 := by rw [pm]; simp
theorem pm_step (a b : Nat) : pm a b = (if b.testBit 0 = true then a else 0) ^^^ pm (2 * a) (b / 2) := by
  by_cases h : b = 0
  · subst h; simp [pm_zero]
  · rw [pm, dif_neg h]
theorem two_xor (a b : Nat) : 2 * (a ^^^ b) = 2 * a ^^^ 2 * b := Nat.eq_of_testBit_eq fun i => by
  rw [Nat.testBit_xor]
  cases i with
  | zero => simp [Nat.testBit_zero]
  | succ i => rw [Nat.testBit_add_one, Nat.testBit_add_one, Nat.testBit_add_one]; simp [Nat.testBit_xor]
theorem ifx {c : Bool} {a b : Nat} : (if c = true then a ^^^ b else 0) = (if c = true then a else 0) ^^^ (if c = true then b else 0) := by cases c <;> simp
theorem xor_swap (a b c d : Nat) : (a ^^^ b) ^^^ (c ^^^ d) = (a ^^^ c) ^^^ (b ^^^ d) := by
  rw [Nat.xor_assoc, ← Nat.xor_assoc b c d, Nat.xor_comm b c, Nat.xor_assoc c b d, ← Nat.xor_assoc]
theorem pm_xor_r (b : Nat) : ∀ a c : Nat, pm a (b ^^^ c) = pm a b ^^^ pm a c := by
  induction b using Nat.strongRecOn with
  | ind b ih =>
    intro a c
    by_cases h : b = 0
    · subst h; rw [Nat.zero_xor, pm_zero, Nat.zero_xor]
    · rw [pm_step a (b ^^^ c), pm_step a b, pm_step a c, half_xor, ih (b / 2) (by omega), Nat.testBit_xor, xor_swap]
      congr 1
      cases b.testBit 0 <;> cases c.testBit 0 <;> simp
theorem pm_xor_l (c : Nat) : ∀ a b : Nat, pm (a ^^^ b) c = pm a c ^^^ pm b c := by
  induction c using Nat.strongRecOn with
  | ind c ih =>
    intro a b
    by_cases h : c = 0
    · subst h; simp [pm_zero]
    · rw [pm_step (a ^^^ b), pm_step a c, pm_step b c, two_xor, ih (c / 2) (by omega), ifx, xor_swap]
theorem pm_dbl (b : Nat) : ∀ a, pm (2 * a) b = 2 * pm a b := by
  induction b using Nat.strongRecOn with
  | ind b ih =>
    intro a
    by_cases h : b = 0
    · subst h; simp [pm_zero]
    · rw [pm_step (2 * a), pm_step a, ih (b / 2) (by omega), two_xor]
      congr 1
      cases b.testBit 0 <;> simp
theorem pm_half (a b : Nat) : pm a b = (if b.testBit 0 = true then a else 0) ^^^ 2 * pm a (b / 2) := by rw [pm_step, pm_dbl]
theorem pm_zero_l (b : Nat) : pm 0 b = 0 := by
  induction b using Nat.strongRecOn with
  | ind b ih =>
    by_cases h : b = 0
    · subst h; exact pm_zero 0
    · rw [pm_half, ih (b / 2) (by omega)]; simp
theorem pm_one_l (b : Nat) : pm 1 b = b := by
  induction b using Nat.strongRecOn with
  | ind b ih =>
    by_cases h : b = 0
    · subst h; exact pm_zero 1
    · rw [pm_half, ih (b / 2) (by omega), Nat.testBit_zero]
      rcases Nat.mod_two_eq_zero_or_one b with e | e
      · rw [if_neg (by simp [e]), Nat.zero_xor]; omega
      · rw [if_pos (by simp [e])]
        have : 1 ^^^ 2 * (b / 2) = 2 * (b / 2) + 1 := Nat.eq_of_testBit_eq fun i => by
          rw [Nat.testBit_xor]
          cases i with
          | zero => simp [Nat.testBit_zero]
          | succ i =>
            rw [Nat.testBit_add_one, Nat.testBit_add_one, Nat.testBit_add_one]
            have a : (2 * (b / 2) + 1) / 2 = 2 * (b / 2) / 2 := by omega
            rw [a]; simp
        rw [this]; omega
theorem dbl_half (b : Nat) : b = (if b.testBit 0 = true then 1 else 0) ^^^ 2 * (b / 2) := by
  have := pm_half 1 b
  rw [pm_one_l, pm_one_l] at this; exact this
theorem pm_comm (b : Nat) : ∀ a, pm a b = pm b a := by
  induction b using Nat.strongRecOn with
  | ind b ih =>
    intro a
    by_cases h : b = 0
    · subst h; rw [pm_zero, pm_zero_l]
    · rw [pm_half a b, ih (b / 2) (by omega)]
      conv => rhs; rw [dbl_half b]
      rw [pm_xor_l, pm_dbl]
      congr 1
      cases b.testBit 0 <;> simp [pm_one_l, pm_zero_l]
theorem pm_assoc (c : Nat) : ∀ a b, pm (pm a b) c = pm a (pm b c) := by
  induction c using Nat.strongRecOn with
  | ind c ih =>
    intro a b
    by_cases h : c = 0
    · subst h; simp [pm_zero]
    · rw [pm_half (pm a b) c, pm_half b c, pm_xor_r, ih (c / 2) (by omega)]
      congr 1
      · cases c.testBit 0 <;> simp [pm_zero]
      · rw [pm_comm (2 * pm b (c / 2)), pm_dbl, pm_comm a]
theorem pm_pow (a k : Nat) : pm a (2 ^ k) = a <<< k := by
  induction k with
  | zero => rw [Nat.pow_zero, pm_comm, pm_one_l, Nat.shiftLeft_zero]
  | succ k ih =>
    rw [pm_half, Nat.testBit_two_pow, decide_eq_false (by omega), Nat.pow_succ, Nat.mul_div_cancel _ (by decide), ih]
    simp [Nat.shiftLeft_eq, Nat.pow_succ, Nat.mul_comm, Nat.mul_left_comm]
theorem bits_shl {a : Nat} (h : a ≠ 0) (k : Nat) : bits (a <<< k) = bits a + k := by
  have hp := bits_pos h
  have e : bits a + k = (bits a - 1 + k) + 1 := by omega
  rw [e]
  refine bits_of_bit ?_ ?_
  · rw [Nat.testBit_shiftLeft, decide_eq_true (by omega), Bool.true_and, show bits a - 1 + k - k = bits a - 1 by omega]
    exact bits_bit h
  · rw [Nat.shiftLeft_eq, show bits a - 1 + k + 1 = bits a + k by omega, Nat.pow_add]
    exact Nat.mul_lt_mul_of_pos_right (lt_bits a) (Nat.two_pow_pos k)
theorem bits_pm (b : Nat) : ∀ a, a ≠ 0 → b ≠ 0 → bits (pm a b) + 1 = bits a + bits b := by
  induction b using Nat.strongRecOn with
  | ind b ih =>
    intro a ha hb
    have hp := bits_pos hb
    have hpa := bits_pos ha
    generalize hk : bits b - 1 = k
    have tb : b.testBit k = true := by rw [← hk]; exact bits_bit hb
    have e : b = (b ^^^ 2 ^ k) ^^^ 2 ^ k := by rw [Nat.xor_assoc, Nat.xor_self, Nat.xor_zero]
    have bp : bits (2 ^ k) = k + 1 := bits_of_bit (by rw [Nat.testBit_two_pow]; simp) (Nat.pow_lt_pow_right (by decide) (Nat.lt_succ_self _))
    have lt : bits (b ^^^ 2 ^ k) < bits b := bits_xor_eq (by rw [bp]; omega) hb
    have ltn : b ^^^ 2 ^ k < b := by
      have h1 : b ^^^ 2 ^ k < 2 ^ k := bits_le.mp (by omega)
      have h2 : 2 ^ k ≤ b := by
        refine Nat.le_of_not_lt fun z => ?_
        have := bits_le.mpr z
        omega
      omega
    have e1 : pm a b = pm a (b ^^^ 2 ^ k) ^^^ a <<< k := by
      conv => lhs; rw [e]
      rw [pm_xor_r, pm_pow]
    have s := bits_shl ha k
    have l2 : bits (pm a (b ^^^ 2 ^ k)) < bits (a <<< k) := by
      by_cases z : b ^^^ 2 ^ k = 0
      · rw [z, pm_zero, bits_zero, s]; omega
      · have := ih _ ltn a ha z
        rw [s]; omega
    rw [e1, bits_xor_ne l2, s]; omega
theorem pm_ne {a b : Nat} (ha : a ≠ 0) (hb : b ≠ 0) : pm a b ≠ 0 := fun z => by
  have := bits_pm b a ha hb
  rw [z, bits_zero] at this
  have := bits_pos ha
  have := bits_pos hb
  omega
theorem bits_pm_le (a b : Nat) : bits (pm a b) ≤ bits a + bits b := by
  by_cases ha : a = 0
  · subst ha; rw [pm_zero_l, bits_zero]; omega
  · by_cases hb : b = 0
    · subst hb; rw [pm_zero, bits_zero]; omega
    · have := bits_pm b a ha hb; omega
/-- d goes into a -/
def Dv (d a : Nat) : Prop := ∃ q, pm q d = a
theorem Dv.zero (d : Nat) : Dv d 0 := ⟨0, pm_zero_l d⟩
theorem Dv.rfl' (d : Nat) : Dv d d := ⟨1, pm_one_l d⟩
theorem Dv.xor {d a b : Nat} : Dv d a → Dv d b → Dv d (a ^^^ b) := fun ⟨q, h⟩ ⟨r, k⟩ => ⟨q ^^^ r, by rw [pm_xor_l, h, k]⟩
theorem Dv.mul {d a : Nat} (c : Nat) : Dv d a → Dv d (pm a c) := fun ⟨q, h⟩ => ⟨pm q c, by rw [pm_assoc, pm_comm d, ← pm_assoc, h]⟩
theorem Dv.mul' {d a : Nat} (c : Nat) (h : Dv d a) : Dv d (pm c a) := by rw [pm_comm]; exact h.mul c
theorem Dv.tr {a b c : Nat} : Dv a b → Dv b c → Dv a c := fun ⟨q, h⟩ ⟨r, k⟩ => ⟨pm r q, by rw [pm_assoc, h, k]⟩
theorem Dv.le {d a : Nat} (h : Dv d a) (ha : a ≠ 0) : bits d ≤ bits a ∧ d ≠ 0 := by
  obtain ⟨q, rfl⟩ := h
  have hq : q ≠ 0 := fun z => ha (by rw [z, pm_zero_l])
  have hd : d ≠ 0 := fun z => ha (by rw [z, pm_zero])
  have := bits_pm d q hq hd
  have := bits_pos hq
  exact ⟨by omega, hd⟩
theorem Dv.eq {d a : Nat} (h : Dv d a) (hb : bits a ≤ bits d) : a = d ∨ a = 0 := by
  by_cases ha : a = 0
  · exact .inr ha
  · left
    obtain ⟨q, rfl⟩ := h
    have hq : q ≠ 0 := fun z => ha (by rw [z, pm_zero_l])
    have hd : d ≠ 0 := fun z => ha (by rw [z, pm_zero])
    have := bits_pm d q hq hd
    have q1 : bits q ≤ 1 := by omega
    have : q < 2 := bits_le.mp q1
    have : q = 1 := by omega
    rw [this, pm_one_l]
theorem Dv.anti {a b : Nat} (h : Dv a b) (k : Dv b a) : a = b := by
  by_cases hb : b = 0
  · subst hb
    obtain ⟨q, h⟩ := k
    rw [← h, pm_zero]
  · have ha : a ≠ 0 := (h.le hb).2
    rcases h.eq (k.le ha).1 with e | e
    · exact e.symm
    · exact absurd e hb
/-- the rest is one alone -/
theorem rest_one {o q r q' r' : Nat} (hr : bits r < bits o) (hr' : bits r' < bits o) (e : pm q o ^^^ r = pm q' o ^^^ r') : q = q' ∧ r = r' := by
  have e1 : pm (q ^^^ q') o = r ^^^ r' := by
    rw [pm_xor_l]
    have : (pm q o ^^^ r) ^^^ (pm q' o ^^^ r') = 0 := by rw [e, Nat.xor_self]
    rw [xor_swap] at this
    exact xor0 this
  have ho : o ≠ 0 := fun z => by rw [z, bits_zero] at hr; omega
  have hl : bits (r ^^^ r') < bits o := by
    have h1 : r < 2 ^ (bits o - 1) := bits_le.mp (by omega)
    have h2 : r' < 2 ^ (bits o - 1) := bits_le.mp (by omega)
    have := bits_le.mpr (Nat.xor_lt_two_pow h1 h2)
    omega
  by_cases hq : q ^^^ q' = 0
  · have := xor0 hq
    subst this
    rw [Nat.xor_self, pm_zero_l] at e1
    exact ⟨rfl, xor0 e1.symm⟩
  · have := bits_pm o _ hq ho
    rw [e1] at this
    have := bits_pos hq
    omega
end Wk
/-! Ob: walks of any kind, objects with fields, things that are only read. -/
namespace Wk
open PySem L2
section
variable {α β S : Type} {K : PySem.W.Frag} {σ : L2.St} {F0 H0 F F' H H' : Hp} {te tl ta tb to : TE} {tt tc : TT} {tA : TA} {Q : VK} {v w u : V} {xs ys : List α} {x y : α} {D : Ends} {tu : TS} {p q : Addr} {n : Nat} {i : Int} {g : TG} {J : It} {e : Rep α} {b : Rep β} {zs : List β} {o : HO}
/-! ### walks -/
def kFor (g : TG) (tu : TS) (D : Ends) (σ : L2.St) (J : It) (H : Hp) : Prop := ∃ W : Nat → Nat → L2.St → Hp → Prop, (∃ m, W 0 m σ H) ∧ ∀ i m σ H, W i m σ H →
  (J.stop i H ∧ D.nx σ H) ∨ (J.go i H ∧ ∃ N : L2.St → Hp → Prop, (∀ σ' H', N σ' H' → ∃ m', m' < m ∧ W (i + 1) m' σ' H') ∧ ∀ x H', J.yld i H x H' → g x σ H' fun σ2 H2 => tu { D with nx := N, ct := N, bk := D.nx } σ2 H2)
def kCp (g : TG) (tc : TT) (te : TE) (vs : List Nat) (σ : L2.St) (Q : VK) (J : It) (H : Hp) : Prop := ∀ D, H D = none → ∃ W : Nat → Nat → Hp → Prop, (∃ m, W 0 m (upd H D (.lst []))) ∧ ∀ i m H, W i m H →
  (J.stop i H ∧ Q (.ref D) H) ∨ (J.go i H ∧ ∃ Nx : Hp → Prop, (∀ H', Nx H' → ∃ m', m' < m ∧ W (i + 1) m' H') ∧ ∀ x H', J.yld i H x H' → g x (wipe σ vs) H' fun σ2 H2 => wipe σ2 vs = wipe σ vs ∧ tc σ2 H2 fun b H3 =>
    if b = true then te σ2 H3 fun y H4 => ∃ acc, H4 D = some (.lst acc) ∧ acc.length < sizeLine ∧ Nx (upd H4 D (.lst (acc ++ [y]))) else Nx H3)
/-- a walk over frozen things: its turns give the items of zs -/
def TWk (J : It) (F : Hp) (b : Rep β) (zs : List β) : Prop := ∃ G Y, Walk J zs.length G Y ∧ (∀ F' H', Ex F F' → Ex F' H' → G H') ∧
  ∀ i H x H' F', i < zs.length → Ex F F' → Ex F' H → Y i H x H' → ∃ z F1, zs[i]? = some z ∧ Wf F' H F1 H' ∧ b.r F1 x z
theorem f_J {wi : TI} (h : wi σ H (kFor g tu D σ)) : tFor wi g tu D σ H := h
theorem c_J {wi : TI} {vs : List Nat} (h : wi σ H (kCp g tc te vs σ Q)) : tLc wi g tc te vs σ H Q := h
theorem w_forG {s0 : S} {k : S → Prop} {body : β → S → (S → Prop) → (S → Prop) → Prop} (T : TWk J F b zs) (Inv : S → L2.St → Hp → Hp → Prop) (hW : forW zs s0 body k) (h0 : Inv s0 σ F H)
    (ex : ∀ s σ' F' H', Inv s σ' F' H' → Ex F F' ∧ Ex F' H') (f : Ex F H)
    (turn : ∀ (N Bk : L2.St → Hp → Prop) x u s σ' F' H' F1 H1 (nx bk : S → Prop), Inv s σ' F' H' → x ∈ zs → Wf F' H' F1 H1 → b.r F1 u x → body x s nx bk → (∀ s' σ2 F2 H2, Inv s' σ2 F2 H2 → nx s' → N σ2 H2) → (∀ s' σ2 F2 H2, Inv s' σ2 F2 H2 → bk s' → Bk σ2 H2) →
      g u σ' H1 fun σ2 H2 => tu { D with nx := N, ct := N, bk := Bk } σ2 H2)
    (done : ∀ s σ' F' H', Inv s σ' F' H' → k s → D.nx σ' H') : kFor g tu D σ J H := by
  obtain ⟨G, Y, wk, hG, hY⟩ := T
  refine for_it wk (fun i σ' H' => ∃ s F', Inv s σ' F' H' ∧ forW (zs.drop i) s body k) ⟨s0, F, h0, hW⟩ (fun i σ' H' _ ⟨s, F', hI, _⟩ => hG F' H' (ex _ _ _ _ hI).1 (ex _ _ _ _ hI).2) ?_ ?_
  · rintro i u σ' H' H1 hi ⟨s, F', hI, hw⟩ hy
    obtain ⟨x, F1, hx, q, rx⟩ := hY i H' u H1 F' hi (ex _ _ _ _ hI).1 (ex _ _ _ _ hI).2 hy
    have e : zs.drop i = x :: zs.drop (i + 1) := by
      obtain ⟨h1, h2⟩ := List.getElem?_eq_some_iff.mp hx
      rw [← h2]; exact List.drop_eq_getElem_cons h1
    rw [e] at hw
    exact turn _ _ x u s σ' F' H' F1 H1 _ _ hI (List.mem_of_getElem? hx) q rx hw (fun s' σ2 F2 H2 q n => ⟨s', F2, q, n⟩) (fun s' σ2 F2 H2 q n => done s' σ2 F2 H2 q n)
  · rintro σ' H' ⟨s, F', hI, hw⟩
    rw [List.drop_of_length_le (Nat.le_refl _)] at hw
    exact done _ _ _ _ hI hw
theorem w_compG {vs : List Nat} {bd : β → (Option α → Prop) → Prop} {kk : List α → Prop} (T : TWk J F b zs) (w : Wf F0 H0 F H) (hn : zs.length < 1000000) (hW : compW zs bd kk)
    (turn : ∀ (Qy : V → Hp → Prop) (Qn : Hp → Prop) x u F1 H1 (R : Option α → Prop), Wf F H F1 H1 → x ∈ zs → b.r F1 u x → bd x R → (∀ y z F2 H2, Wf F1 H1 F2 H2 → e.r F2 y z → R (some z) → Qy y H2) → (∀ F2 H2, Wf F1 H1 F2 H2 → R none → Qn H2) →
      g u (wipe σ vs) H1 fun σ2 H2 => wipe σ2 vs = wipe σ vs ∧ tc σ2 H2 fun b H3 => if b = true then te σ2 H3 Qy else Qn H3)
    (done : ∀ p ys F' H', H p = none → Wf F H F' H' → XL e H0 F' H' p ys → kk ys → Q (.ref p) H') : kCp g tc te vs σ Q J H := by
  obtain ⟨G, Y, wk, hG, hY⟩ := T
  intro D hD
  refine lc_it wk (fun i H' => ∃ F' ac ys, Wf F H F' H' ∧ Xc H F' H' D (.lst ac) ∧ All e F' ac ys ∧ ys.length ≤ i ∧ compG (zs.drop i) ys bd kk)
    ⟨F, [], [], Wf.newX w.f hD, Xc.mk' (Wf.id w.f) hD, trivial, Nat.le_refl _, hW⟩ (fun i H' _ ⟨F', ac, ys, q, _⟩ => hG F' H' q.g q.f) ?_ ?_
  · rintro i u H' H1 hi ⟨F', ac, ys, q, xc, al, hl, hw⟩ hy
    obtain ⟨x, F1, hx, q1, rx⟩ := hY i H' u H1 F' hi q.g q.f hy
    have e' : zs.drop i = x :: zs.drop (i + 1) := by
      obtain ⟨h1, h2⟩ := List.getElem?_eq_some_iff.mp hx
      rw [← h2]; exact List.drop_eq_getElem_cons h1
    rw [e'] at hw
    have xc1 := xc.step q1
    have al1 := al.mono q1.g
    refine turn _ _ x u F1 H1 _ (q.tr q1) (List.mem_of_getElem? hx) rx hw (fun y z F2 H2 s ry hR => ?_) (fun F2 H2 s hR => ?_)
    · have xc2 := xc1.step s
      exact ⟨ac, xc2.h, by rw [al.len]; exact small_len (by omega), F2, ac ++ [y], ys ++ [z], ((q.tr q1).tr s).set xc2, xc2.set, (al1.mono s.g).snoc ry, by rw [List.length_append]; exact Nat.succ_le_succ hl, hR⟩
    · exact ⟨F2, ac, ys, (q.tr q1).tr s, xc1.step s, al1.mono s.g, Nat.le_succ_of_le hl, by simpa using hR⟩
  · rintro H' ⟨F', ac, ys, q, xc, al, hl, hw⟩
    rw [List.drop_of_length_le (Nat.le_refl _)] at hw
    exact done D ys F' H' hD q ⟨ac, ⟨w.h.non hD, xc.n, xc.h⟩, al⟩ hw
/-! sources -/
theorem TWk.pairs {γ δ : Type} {c : Rep γ} {d : Rep δ} {G : Hp → Prop} {X Y : Nat → Option V} {us : List (γ × δ)} (wk : Walk J us.length G (YPair X Y)) (hG : ∀ F' H', Ex F F' → Ex F' H' → G H')
    (hx : ∀ i F' x, Ex F F' → i < us.length → X i = some x → ∃ z, (us[i]?.map Prod.fst) = some z ∧ c.r F' x z) (hy : ∀ i F' x, Ex F F' → i < us.length → Y i = some x → ∃ z, (us[i]?.map Prod.snd) = some z ∧ d.r F' x z) : TWk J F (pT2 c d) us := by
  refine ⟨G, _, wk, hG, fun i H v H' F' hi f g hy' => ?_⟩
  obtain ⟨T, x, y, rfl, hT, rfl, h1, h2⟩ := hy'
  obtain ⟨z1, e1, r1⟩ := hx i F' x f hi h1
  obtain ⟨z2, e2, r2⟩ := hy i F' y f hi h2
  have e : us[i]? = some (z1, z2) := by
    cases q : us[i]? with
    | none => rw [q] at e1; cases e1
    | some t =>
      rw [q] at e1 e2
      have a : t.1 = z1 := Option.some.inj e1
      have b : t.2 = z2 := Option.some.inj e2
      rw [← a, ← b]
  exact ⟨(z1, z2), _, e, Wf.new g hT, ⟨T, x, y, rfl, upd_same, c.mono (Ex.new (g.non hT)) r1, d.mono (Ex.new (g.non hT)) r2⟩⟩
def enumT (xs : List α) : List (Nat × α) := (List.range xs.length).zip xs
theorem enumT_len (xs : List α) : (enumT xs).length = xs.length := by unfold enumT; rw [List.length_zip, List.length_range]; exact Nat.min_self _
theorem enumT_get (xs : List α) (i : Nat) : (enumT xs)[i]? = xs[i]?.map fun x => (i, x) := by
  show ((List.range xs.length).zip xs)[i]? = _
  by_cases h : i < xs.length
  · have h2 : i < ((List.range xs.length).zip xs).length := by rw [List.length_zip, List.length_range]; omega
    rw [List.getElem?_eq_getElem h2, List.getElem?_eq_getElem h, List.getElem_zip, List.getElem_range]; rfl
  · rw [List.getElem?_eq_none (by rw [List.length_zip, List.length_range]; omega), List.getElem?_eq_none (by omega)]; rfl
/-- enumerate(xs) -/
theorem src_enum {R : It → Hp → Prop} (r : (pL e).r F v xs) (f : Ex F H) (k : ∀ a, TWk (Ite K a) F (pT2 pN e) (enumT xs) → R (Ite K a) H) : ∃ a ws, [v] = [V.ref a] ∧ SqL K H a ws ∧ R (Ite K a) H := by
  obtain ⟨p, vs, rfl, hp, a⟩ := r
  refine ⟨p, vs, rfl, SqL.of (f _ _ hp), k p ?_⟩
  refine TWk.pairs (G := fun H => SqL K H p vs) (X := fun i => some (.int (i : Nat))) (Y := fun i => vs[i]?) (by rw [enumT_len, ← a.len]; exact walk_enum) (fun F' H' h1 h2 => SqL.of (h2 _ _ (h1 _ _ hp))) ?_ ?_
  · intro i F' x _ hi hx
    rw [enumT_len] at hi
    rw [enumT_get, List.getElem?_eq_getElem hi]
    exact ⟨i, rfl, (Option.some.inj hx).symm⟩
  · intro i F' x h1 hi hx
    obtain ⟨z, hz, rz⟩ := a.got hx
    rw [enumT_get, hz]
    exact ⟨z, rfl, e.mono h1 rz⟩
/-- zip(xs, ys) -/
theorem src_zip {γ : Type} {c : Rep γ} {us : List γ} {R : It → Hp → Prop} (r : (pL e).r F v xs) (s : (pL c).r F w us) (f : Ex F H) (k : ∀ a b, TWk (Itz K a b) F (pT2 e c) (xs.zip us) → R (Itz K a b) H) : ∃ a b ws us, [v, w] = [V.ref a, V.ref b] ∧ SqL K H a ws ∧ SqL K H b us ∧ R (Itz K a b) H := by
  obtain ⟨p, vs, rfl, hp, a⟩ := r
  obtain ⟨q, ws, rfl, hq, b⟩ := s
  refine ⟨p, q, vs, ws, rfl, SqL.of (f _ _ hp), SqL.of (f _ _ hq), k p q ?_⟩
  refine TWk.pairs (G := fun H => SqL K H p vs ∧ SqL K H q ws) (X := fun i => vs[i]?) (Y := fun i => ws[i]?) (walk_zip (by rw [List.length_zip, a.len, b.len])) (fun F' H' h1 h2 => ⟨SqL.of (h2 _ _ (h1 _ _ hp)), SqL.of (h2 _ _ (h1 _ _ hq))⟩) ?_ ?_
  · intro i F' x h1 hi hx
    obtain ⟨z, hz, rz⟩ := a.got hx
    obtain ⟨u, hu⟩ : ∃ u, us[i]? = some u := ⟨_, List.getElem?_eq_getElem (by rw [List.length_zip] at hi; omega)⟩
    exact ⟨z, by rw [(List.getElem?_zip_eq_some (z := (z, u))).mpr ⟨hz, hu⟩]; rfl, e.mono h1 rz⟩
  · intro i F' x h1 hi hx
    obtain ⟨u, hu, ru⟩ := b.got hx
    obtain ⟨z, hz⟩ : ∃ z, xs[i]? = some z := ⟨_, List.getElem?_eq_getElem (by rw [List.length_zip] at hi; omega)⟩
    exact ⟨u, by rw [(List.getElem?_zip_eq_some (z := (z, u))).mpr ⟨hz, hu⟩]; rfl, c.mono h1 ru⟩
/-- a tuple -/
theorem src_tup {R : It → Hp → Prop} (r : (pTL e).r F v xs) (f : Ex F H) (k : ∀ a, TWk (Itt K a) F e xs → R (Itt K a) H) : ∃ a, v = .ref a ∧ (∃ ws, SqT K H a ws) ∧ R (Itt K a) H := by
  obtain ⟨p, vs, rfl, hp, a⟩ := r
  refine ⟨p, rfl, ⟨vs, SqT.of (f _ _ hp)⟩, k p ⟨_, _, by rw [← a.len]; exact walk_tup, fun F' H' h1 h2 => SqT.of (h2 _ _ (h1 _ _ hp)), fun i H v H' F' hi h1 h2 hy => ?_⟩⟩
  obtain ⟨rfl, hv⟩ := hy
  obtain ⟨z, hz, rz⟩ := a.got hv
  exact ⟨z, F', hz, Wf.id h2, e.mono h1 rz⟩
/-- range(i, j) -/
theorem src_range2 {R : It → Hp → Prop} {i j : Nat} (hj : j < 1000000) (hi : i < 1000000) (k : TWk (Itr (i : Int) ((j : Int) - (i : Int)).toNat) F pN (List.range' i (j - i)) → R (Itr (i : Int) ((j : Int) - (i : Int)).toNat) H) : ∃ i' j' : Int, [V.int (i : Int), V.int (j : Int)] = [.int i', .int j'] ∧ (-(2 ^ 62) ≤ i' ∧ i' < 2 ^ 62 ∧ -(2 ^ 62) ≤ j' ∧ j' < 2 ^ 62) ∧ R (Itr i' (j' - i').toNat) H := by
  refine ⟨i, j, rfl, ⟨by omega, by omega, by omega, by omega⟩, k ⟨fun _ => True, YFn fun m => .int ((i : Int) + (m : Nat)), ?_, fun _ _ _ _ => trivial, fun m H x H' F' hm h1 h2 hy => ?_⟩⟩
  · have : ((j : Int) - (i : Int)).toNat = (List.range' i (j - i)).length := by rw [List.length_range']; omega
    rw [this]; exact walk_range
  · obtain ⟨rfl, rfl⟩ := hy
    rw [List.length_range'] at hm
    exact ⟨i + m, F', by rw [List.getElem?_range' hm]; simp, Wf.id h2, by show V.int _ = V.int _; congr 1⟩
/-! ### objects -/
theorem lk_ne {k g : Str} {v : V} {r : List (Str × V)} (h : (k == g) = false) : List.lookup k ((g, v) :: r) = List.lookup k r := by simp only [List.lookup, h]
theorem lk_eq {k : Str} {v : V} {r : List (Str × V)} : List.lookup k ((k, v) :: r) = some v := by
  have e : (k == k) = true := beq_self_eq_true k
  simp only [List.lookup, e]
/-- an instance of C that stays as it is: its fields, all told by Fs -/
def pOb (C : Addr) (Fs : Hp → List (Str × V) → α → Prop) (mono : ∀ {F F' : Hp} {fs : List (Str × V)} {x : α}, Ex F F' → Fs F fs x → Fs F' fs x) : Rep α :=
  ⟨fun F v x => ∃ p dx fs, v = .ref p ∧ F p = some (.ins C dx fs) ∧ Fs F fs x, fun h ⟨p, dx, fs, a, b, c⟩ => ⟨p, dx, fs, a, h _ _ b, mono h c⟩⟩
def F1s {α : Type} (n : Str) (e : Rep α) (F : Hp) (fs : List (Str × V)) (x : α) : Prop := ∃ u, fs = [(n, u)] ∧ e.r F u x
def F2s {α β : Type} (n m : Str) (e : Rep α) (f : Rep β) (F : Hp) (fs : List (Str × V)) (x : α × β) : Prop := ∃ u w, fs = [(n, u), (m, w)] ∧ e.r F u x.1 ∧ f.r F w x.2
def F3s {α β γ : Type} (n m l : Str) (e : Rep α) (f : Rep β) (g : Rep γ) (F : Hp) (fs : List (Str × V)) (x : α × β × γ) : Prop := ∃ u w y, fs = [(n, u), (m, w), (l, y)] ∧ e.r F u x.1 ∧ f.r F w x.2.1 ∧ g.r F y x.2.2
theorem F1s.mono {α : Type} {n : Str} {e : Rep α} {F F' : Hp} {fs : List (Str × V)} {x : α} (h : Ex F F') : F1s n e F fs x → F1s n e F' fs x := fun ⟨u, a, b⟩ => ⟨u, a, e.mono h b⟩
theorem F2s.mono {α β : Type} {n m : Str} {e : Rep α} {f : Rep β} {F F' : Hp} {fs : List (Str × V)} {x : α × β} (h : Ex F F') : F2s n m e f F fs x → F2s n m e f F' fs x := fun ⟨u, w, a, b, c⟩ => ⟨u, w, a, e.mono h b, f.mono h c⟩
theorem F3s.mono {α β γ : Type} {n m l : Str} {e : Rep α} {f : Rep β} {g : Rep γ} {F F' : Hp} {fs : List (Str × V)} {x : α × β × γ} (h : Ex F F') : F3s n m l e f g F fs x → F3s n m l e f g F' fs x := fun ⟨u, w, y, a, b, c, d⟩ => ⟨u, w, y, a, e.mono h b, f.mono h c, g.mono h d⟩
def pO1 {α : Type} (C : Addr) (n : Str) (e : Rep α) : Rep α := pOb C (F1s n e) F1s.mono
def pO2 {α β : Type} (C : Addr) (n m : Str) (e : Rep α) (f : Rep β) : Rep (α × β) := pOb C (F2s n m e f) F2s.mono
def pO3 {α β γ : Type} (C : Addr) (n m l : Str) (e : Rep α) (f : Rep β) (g : Rep γ) : Rep (α × β × γ) := pOb C (F3s n m l e f g) F3s.mono
section
variable {γ : Type} {C : Addr} {a b c : Str} {f : Rep β} {g' : Rep γ} {s : α} {t : α × β} {z : α × β × γ}
/-- reading o.f -/
theorem fl_11 (cl : Cls K C) (na : NoAttr K C a) (r : (pO1 C a e).r F v s) (h : Ex F H) : ∃ w, e.r F w s ∧ ∀ ⦃σ ta⦄, Val ta σ H v → Val (tFld K ta a) σ H w := by
  obtain ⟨p, dx, fs, rfl, hp, u, rfl, r1⟩ := r
  exact ⟨u, r1, fun _ _ ha Q k => ha _ ⟨p, C, dx, _, u, rfl, h _ _ hp, cl, na, lk_eq, k⟩⟩
theorem fl_21 (cl : Cls K C) (na : NoAttr K C a) (r : (pO2 C a b e f).r F v t) (h : Ex F H) : ∃ w, e.r F w t.1 ∧ ∀ ⦃σ ta⦄, Val ta σ H v → Val (tFld K ta a) σ H w := by
  obtain ⟨p, dx, fs, rfl, hp, u, w, rfl, r1, r2⟩ := r
  exact ⟨u, r1, fun _ _ ha Q k => ha _ ⟨p, C, dx, _, u, rfl, h _ _ hp, cl, na, lk_eq, k⟩⟩
theorem fl_22 (cl : Cls K C) (na : NoAttr K C b) (r : (pO2 C a b e f).r F v t) (h : Ex F H) (h1 : (b == a) = false := by decide +kernel) : ∃ w, f.r F w t.2 ∧ ∀ ⦃σ ta⦄, Val ta σ H v → Val (tFld K ta b) σ H w := by
  obtain ⟨p, dx, fs, rfl, hp, u, w, rfl, r1, r2⟩ := r
  exact ⟨w, r2, fun _ _ ha Q k => ha _ ⟨p, C, dx, _, w, rfl, h _ _ hp, cl, na, (lk_ne h1).trans lk_eq, k⟩⟩
theorem fl_31 (cl : Cls K C) (na : NoAttr K C a) (r : (pO3 C a b c e f g').r F v z) (h : Ex F H) : ∃ w, e.r F w z.1 ∧ ∀ ⦃σ ta⦄, Val ta σ H v → Val (tFld K ta a) σ H w := by
  obtain ⟨p, dx, fs, rfl, hp, u, w, y, rfl, r1, r2, r3⟩ := r
  exact ⟨u, r1, fun _ _ ha Q k => ha _ ⟨p, C, dx, _, u, rfl, h _ _ hp, cl, na, lk_eq, k⟩⟩
theorem fl_32 (cl : Cls K C) (na : NoAttr K C b) (r : (pO3 C a b c e f g').r F v z) (h : Ex F H) (h1 : (b == a) = false := by decide +kernel) : ∃ w, f.r F w z.2.1 ∧ ∀ ⦃σ ta⦄, Val ta σ H v → Val (tFld K ta b) σ H w := by
  obtain ⟨p, dx, fs, rfl, hp, u, w, y, rfl, r1, r2, r3⟩ := r
  exact ⟨w, r2, fun _ _ ha Q k => ha _ ⟨p, C, dx, _, w, rfl, h _ _ hp, cl, na, (lk_ne h1).trans lk_eq, k⟩⟩
theorem fl_33 (cl : Cls K C) (na : NoAttr K C c) (r : (pO3 C a b c e f g').r F v z) (h : Ex F H) (h1 : (c == a) = false := by decide +kernel) (h2 : (c == b) = false := by decide +kernel) : ∃ w, g'.r F w z.2.2 ∧ ∀ ⦃σ ta⦄, Val ta σ H v → Val (tFld K ta c) σ H w := by
  obtain ⟨p, dx, fs, rfl, hp, u, w, y, rfl, r1, r2, r3⟩ := r
  exact ⟨y, r3, fun _ _ ha Q k => ha _ ⟨p, C, dx, _, y, rfl, h _ _ hp, cl, na, (lk_ne h1).trans ((lk_ne h2).trans lk_eq), k⟩⟩
/-- the object of a method's call -/
theorem me_1 {m : Str} (r : (pO1 C a e).r F v s) (h : Ex F H) (h1 : (m == a) = false := by decide +kernel) : ∃ p dx fs, v = .ref p ∧ H p = some (.ins C dx fs) ∧ fs.lookup m = none := by
  obtain ⟨p, dx, fs, rfl, hp, u, rfl, _⟩ := r
  exact ⟨p, dx, _, rfl, h _ _ hp, (lk_ne h1).trans rfl⟩
theorem me_2 {m : Str} (r : (pO2 C a b e f).r F v t) (h : Ex F H) (h1 : (m == a) = false := by decide +kernel) (h2 : (m == b) = false := by decide +kernel) : ∃ p dx fs, v = .ref p ∧ H p = some (.ins C dx fs) ∧ fs.lookup m = none := by
  obtain ⟨p, dx, fs, rfl, hp, u, w, rfl, _⟩ := r
  exact ⟨p, dx, _, rfl, h _ _ hp, (lk_ne h1).trans ((lk_ne h2).trans rfl)⟩
theorem me_3 {m : Str} (r : (pO3 C a b c e f g').r F v z) (h : Ex F H) (h1 : (m == a) = false := by decide +kernel) (h2 : (m == b) = false := by decide +kernel) (h3 : (m == c) = false := by decide +kernel) : ∃ p dx fs, v = .ref p ∧ H p = some (.ins C dx fs) ∧ fs.lookup m = none := by
  obtain ⟨p, dx, fs, rfl, hp, u, w, y, rfl, _⟩ := r
  exact ⟨p, dx, _, rfl, h _ _ hp, (lk_ne h1).trans ((lk_ne h2).trans ((lk_ne h3).trans rfl))⟩
end
/-! one's own object, while it is made -/
/-- the heap without p -/
def wo (H : Hp) (p : Addr) : Hp := fun a => if a = p then none else H a
theorem wo_same {H : Hp} {p : Addr} : wo H p p = none := if_pos rfl
theorem wo_ne {H : Hp} {p q : Addr} (h : q ≠ p) : wo H p q = H q := if_neg h
theorem Wf.start (f : Ex F H) (n : F p = none) : Wf F (wo H p) F H := ⟨fun a o h => by
    by_cases q : a = p
    · subst q; rw [wo_same] at h; cases h
    · rw [wo_ne q] at h; exact h, f, Ex.rfl', fun a o h h0 => by rw [h] at h0; cases h0⟩
theorem Xc.start (n : F p = none) (h : H p = some o) : Xc (wo H p) F H p o := ⟨wo_same, n, h⟩
/-- behind the making of x -/
theorem Wf.made {x dx : Addr} {o u : HO} (nx : H x = none) (nd : H dx = none) (w : Wf F (wo (upd (upd H dx o) x u) x) F' H') : Wf F H F' H' := by
  have e : Ex H (wo (upd (upd H dx o) x u) x) := fun a v h => by
    have h1 : a ≠ x := ne_of_none h nx
    have h2 : a ≠ dx := ne_of_none h nd
    rw [wo_ne h1, upd_ne h1, upd_ne h2]; exact h
  exact ⟨e.tr w.h, w.f, w.g, fun a o h h0 => e.non (w.n a o h h0)⟩
theorem Ex.made {x dx : Addr} {o u : HO} (f : Ex F H) (nx : H x = none) (nd : H dx = none) : Ex F (upd (upd H dx o) x u) := fun a v h => by
  have h' := f a v h
  rw [upd_ne (ne_of_none h' nx), upd_ne (ne_of_none h' nd)]; exact h'
theorem Xc.frzO {u : HO} (x : Xc H0 F H q u) (h : ∀ q o, Xc H0 F H q o → q ≠ p → Xc H0 F' H q o) (hq : q ≠ p) (g : Ex F F') : Xc H0 F' H q u := h _ _ x hq
/-- self.f = v -/
theorem a_fld {C dx : Addr} {fs : List (Str × V)} {a : Str} (cl : Cls K C) (na : NoAttr K C a) (x : Xc H0 F H p (.ins C dx fs)) (w : Wf F0 H0 F H) (hl : fs.length < 1000) (ho : Val to σ H (.ref p))
    (k : ∀ H', Wf F0 H0 F H' → Xc H0 F H' p (.ins C dx (putF a v fs)) → (∀ q o, H q = some o → q ≠ p → H' q = some o) → D.nx σ H') :
    (fun y H1 => to σ H1 fun x H2 => ∃ a' C' dx' fs', x = .ref a' ∧ H2 a' = some (.ins C' dx' fs') ∧ Cls K C' ∧ NoAttr K C' a ∧ fs'.length < 1000 ∧ D.nx σ (upd H2 a' (.ins C' dx' (putF a y fs')))) v H :=
  ho _ ⟨p, C, dx, fs, rfl, x.h, cl, na, hl, k _ (w.set x) x.set fun q o h hq => by rw [upd_ne hq]; exact h⟩
theorem e_fld {tv : TE} {a : Str} (h : tv σ H fun y H1 => to σ H1 fun x H2 => ∃ a' C' dx' fs', x = .ref a' ∧ H2 a' = some (.ins C' dx' fs') ∧ Cls K C' ∧ NoAttr K C' a ∧ fs'.length < 1000 ∧ D.nx σ (upd H2 a' (.ins C' dx' (putF a y fs')))) : sFld K to tv a D σ H := h
/-- reading a field of one's own object -/
theorem fl_X {C dx : Addr} {fs : List (Str × V)} {a : Str} (cl : Cls K C) (na : NoAttr K C a) (x : Xc H0 F H p (.ins C dx fs)) (hl : fs.lookup a = some u) (ho : Val to σ H (.ref p)) : Val (tFld K to a) σ H u :=
  fun Q k => ho _ ⟨p, C, dx, fs, u, rfl, x.h, cl, na, hl, k⟩
/-- it is made: it changes no more -/
theorem Xc.frzE {o : HO} (x : Xc H0 F H p o) (w : Wf F0 H0 F H) : ∃ F', Wf F0 H0 F' H ∧ Ex F F' ∧ F' p = some o := ⟨_, w.freeze x, Ex.new x.n, upd_same⟩
/-! ### borrowed lists and dicts: read only, their place not told -/
structure BL {α : Type} (e : Rep α) (F H : Hp) (p : Addr) (xs : List α) : Prop where
  x : ∃ vs, H p = some (.lst vs) ∧ All e F vs xs
structure BD {κ α : Type} [KeyT κ] (e : Rep α) (F H : Hp) (p : Addr) (m : List (κ × α)) : Prop where
  x : ∃ kvs, H p = some (.dK kvs) ∧ DA e F kvs m
theorem BL.step (x : BL e F H p xs) (w : Wf F H F' H') : BL e F' H' p xs := let ⟨vs, a, b⟩ := x.x; ⟨vs, w.h _ _ a, b.mono w.g⟩
theorem BL.ne (x : BL e F H p xs) (h : H q = none) : p ≠ q := let ⟨_, a, _⟩ := x.x; ne_of_none a h
theorem BL.frzO {X : Prop} (x : BL e F H q xs) (h : X) (hq : q ≠ p) (g : Ex F F') : BL e F' H q xs := let ⟨vs, a, b⟩ := x.x; ⟨vs, a, b.mono g⟩
theorem BL.kept (x : BL e F H q xs) (h : ∀ q o, H q = some o → q ≠ p → H' q = some o) (hq : q ≠ p) : BL e F H' q xs := let ⟨vs, a, b⟩ := x.x; ⟨vs, h _ _ a hq, b⟩
theorem XL.bw (x : XL e H0 F H p xs) : BL e F H p xs := let ⟨vs, a, b⟩ := x.x; ⟨vs, a.h, b⟩
end
section
variable {κ α : Type} [DecidableEq κ] [KeyT κ] {e : Rep α} {K : PySem.W.Frag} {σ : L2.St} {F0 H0 F F' H H' : Hp} {te td ty tx tv : TE} {Q : VK} {v w y z : V} {m : List (κ × α)} {p q : Addr} {j : κ} {x : α} {D : Ends}
omit [DecidableEq κ] in
theorem BD.step (x : BD e F H p m) (w : Wf F H F' H') : BD e F' H' p m := let ⟨vs, a, b⟩ := x.x; ⟨vs, w.h _ _ a, b.mono w.g⟩
omit [DecidableEq κ] in
theorem BD.ne (x : BD e F H p m) (h : H q = none) : p ≠ q := let ⟨_, a, _⟩ := x.x; ne_of_none a h
omit [DecidableEq κ] in
theorem BD.frzO {X : Prop} (x : BD e F H q m) (h : X) (hq : q ≠ p) (g : Ex F F') : BD e F' H q m := let ⟨vs, a, b⟩ := x.x; ⟨vs, a, b.mono g⟩
omit [DecidableEq κ] in
theorem BD.kept (x : BD e F H q m) (h : ∀ q o, H q = some o → q ≠ p → H' q = some o) (hq : q ≠ p) : BD e F H' q m := let ⟨vs, a, b⟩ := x.x; ⟨vs, h _ _ a hq, b⟩
omit [DecidableEq κ] in
theorem XD.bw (x : XD e H0 F H p m) : BD e F H p m := let ⟨vs, a, b⟩ := x.x; ⟨vs, a.h, b⟩
omit [DecidableEq κ] in
theorem D_bw (r : (pD e).r F v m) (f : Ex F H) : ∃ p, v = .ref p ∧ BD e F H p m := let ⟨p, vs, a, b, c⟩ := r; ⟨p, a, ⟨vs, f _ _ b, c⟩⟩
theorem in_BD (r : BD e F H p m) (hy : Val ty σ H (kV (KeyT.k j))) (hd : Val td σ H (.ref p)) : Val (tDIn ty td) σ H (.bl (hasT m j)) := by
  obtain ⟨kvs, hp, a⟩ := r.x
  exact fun Q k => hy _ (hd _ ⟨p, _, rfl, DGet.k hp, by rw [a.has j]; exact k⟩)
theorem ix_BD (r : BD e F H p m) (hx : valT m j = some x) : ∃ w, e.r F w x ∧ ∀ ⦃σ td ty⦄, Val td σ H (.ref p) → Val ty σ H (kV (KeyT.k j)) → Val (tDGet td ty) σ H w := by
  obtain ⟨kvs, hp, a⟩ := r.x
  obtain ⟨w, h1, h2⟩ := (a.get j).1 x hx
  exact ⟨w, h2, fun _ _ _ hd hy Q k => hd _ (hy _ ⟨p, w, rfl, by rw [← h1]; exact DGet.k hp, k⟩)⟩
/-- list(d) -/
def keyC (κ : Type) [KeyT κ] (b : Rep κ) : Prop := ∀ (F : Hp) (k : κ), b.r F (kV (KeyT.k k)) k
theorem keyN : keyC Nat pN := fun _ _ => rfl
theorem keyI : keyC Int pI := fun _ _ => rfl
theorem keyS : keyC Str pS := fun _ _ => rfl
omit [DecidableEq κ] in
theorem DA.keys {b : Rep κ} (hb : keyC κ b) : ∀ {kvs : List (Key × V)} {m : List (κ × α)}, DA e F kvs m → All b F (kvs.map fun kv => kV kv.1) (m.map (·.1))
  | [], [], _ => trivial
  | p :: r, q :: s, ⟨a, _, c⟩ => ⟨by show b.r F (kV p.1) q.1; rw [a]; exact hb F q.1, DA.keys hb c⟩
  | [], _ :: _, q => q.elim
  | _ :: _, [], q => q.elim
def rListD : List V → Hp → VK → Prop := fun xs H Q => ∃ (a : Addr) (kvs : List (Key × V)), xs = [.ref a] ∧ Rd H a (.dK kvs) ∧ ∀ p, H p = none → Q (.ref p) (upd H p (.lst (kvs.map fun kv => kV kv.1)))
omit [DecidableEq κ] in
theorem n_listD {b : Rep κ} (hb : keyC κ b) (r : (pD e).r F v m) (w : Wf F0 H0 F H) (k : ∀ p H', H p = none → Wf F H F H' → XL b H0 F H' p (m.map (·.1)) → Q (.ref p) H') : rListD [v] H Q := by
  obtain ⟨p, kvs, rfl, hp, a⟩ := r
  exact ⟨p, kvs, rfl, .inl (w.f _ _ hp), fun l hl => k l _ hl (Wf.newX w.f hl) ⟨_, Xc.mk' w hl, a.keys hb⟩⟩
theorem n_listXD {b : Rep κ} (hb : keyC κ b) (r : XD e H0 F H q m) (w : Wf F0 H0 F H) (k : ∀ p H', H p = none → Wf F H F H' → XL b H0 F H' p (m.map (·.1)) → Q (.ref p) H') : rListD [.ref q] H Q := by
  obtain ⟨kvs, hp, a⟩ := r.rd
  exact ⟨q, kvs, rfl, .inl hp, fun l hl => k l _ hl (Wf.newX w.f hl) ⟨_, Xc.mk' w hl, a.keys hb⟩⟩
end
/-- a method that may be called -/
structure Md (P : Program) (w : World) (K : PySem.W.Frag) (mg : Str → Option Value) (base : Heap) (CX : CXT) (k : Nat) (C : Addr) (m : Str) (ps : List Str) (sp : Sp) : Prop where
  ex : ∃ f fd, FnOk P w K mg base CX k f fd ps sp ∧ Meth K C m f ∧ Binds K fd ps []
/-- a class that makes -/
structure Nw (P : Program) (w : World) (K : PySem.W.Frag) (mg : Str → Option Value) (base : Heap) (CX : CXT) (k : Nat) (C : Addr) (x : Str) (ps : List Str) (sp : Sp) : Prop where
  ex : ∃ f fd, FnOk P w K mg base CX k f fd ps sp ∧ Mk K C f ∧ mg x = some (.ref C) ∧ Binds K fd ps []
section
variable {X : Cx} {k : Nat} {C : Addr} {x m : Str} {ps : List Str} {sp : Sp} {o e : Expr} {es : List Expr} {p pos apos : Pos} {ta : TE} {t : TA} {pl : Sem Bool}
theorem pe_md (M : Md X.prog X.w X.K X.mg X.base CX0 k C m ps sp) (cl : Cls X.K C) (hr : Room k X.A) (he : PE X o ta) (ha : PA X (e :: es) t)
    (hst : starEach (e :: es) X.env = (false, eval e X.env) :: starEach es X.env := by rfl) (hpl : (backTo pos (starEach es X.env)).any (·.1) = false := by rfl)
    (ht : eval (.Call (.Attribute o m apos) (e :: es) [] pos) X.env = (do
      let ov ← eval o X.env
      standAt apos.atName
      let (f, first) ← holding [ov] (getMethod ov m pl)
      callWith pos f first (backTo pos (starEach (e :: es) X.env)) (backToKw pos (keywordEach [] X.env))) := by rfl) :
    PE X (.Call (.Attribute o m apos) (e :: es) [] pos) (tMeth C m sp [] E0 ta t) := by
  obtain ⟨f, fd, F, hm, hb⟩ := M.ex
  exact pe_meth he cl hm F hr hb .nil pass0 ha hst hpl ht
theorem pe_md0 (M : Md X.prog X.w X.K X.mg X.base CX0 k C m ps sp) (cl : Cls X.K C) (hr : Room k X.A) (he : PE X o ta)
    (ht : eval (.Call (.Attribute o m apos) [] [] pos) X.env = (do
      let ov ← eval o X.env
      standAt apos.atName
      let (f, first) ← holding [ov] (getMethod ov m pl)
      callWith pos f first (backTo pos (starEach [] X.env)) (backToKw pos (keywordEach [] X.env))) := by rfl) :
    PE X (.Call (.Attribute o m apos) [] [] pos) (tMeth C m sp [] E0 ta tNil) := by
  obtain ⟨f, fd, F, hm, hb⟩ := M.ex
  exact pe_meth0 he cl hm F hr hb .nil pass0 ht
theorem pe_nw (M : Nw X.prog X.w X.K X.mg X.base CX0 k C x ps sp) (hr : Room (k + 1) X.A) (hg : Gl X x) (ha : PA X (e :: es) t) (hdb : (x == ("__debug__" : Str)) = false := by decide)
    (he : starEach (e :: es) X.env = (false, eval e X.env) :: starEach es X.env := by rfl) (hpl : (backTo pos (starEach es X.env)).any (·.1) = false := by rfl) : PE X (.Call (.Name x p) (e :: es) [] pos) (tMake C sp [] E0 t) := by
  obtain ⟨f, fd, F, hk, hm, hb⟩ := M.ex
  exact pe_make hk F hr hg hm hb .nil pass0 ha hdb he hpl
end
section
variable {σ : L2.St} {H : Hp} {C : Addr} {m : Str} {sp : Sp} {E : XK} {ta : TE} {t : TA} {Q : VK} {v : V} {p dx : Addr} {fs : List (Str × V)} {vs : List V}
theorem e_md (h : ta σ H fun x H1 => ∃ a dx fs, x = .ref a ∧ H1 a = some (.ins C dx fs) ∧ fs.lookup m = none ∧ t σ H1 fun vs H2 => sp (x :: vs) H2 Q E) : tMeth C m sp [] E ta t σ H Q := by
  show ta σ H fun x H1 => ∃ a dx fs, x = .ref a ∧ H1 a = some (.ins C dx fs) ∧ fs.lookup m = none ∧ t σ H1 fun vs H2 => sp (x :: (vs ++ [])) H2 Q E
  simpa only [List.append_nil] using h
theorem e_nw (h : t σ H fun vs H1 => ∀ x dx, H1 x = none → H1 dx = none → dx ≠ x → sp (.ref x :: vs) (upd (upd H1 dx (.own x)) x (.ins C dx [])) (fun v H2 => v = .non ∧ Q (.ref x) H2) E) : tMake C sp [] E t σ H Q := by
  show t σ H fun vs H1 => ∀ x dx, H1 x = none → H1 dx = none → dx ≠ x → sp (.ref x :: (vs ++ [])) (upd (upd H1 dx (.own x)) x (.ins C dx [])) (fun v H2 => v = .non ∧ Q (.ref x) H2) E
  simpa only [List.append_nil] using h
end
/-- an object of which only the fields are read -/
structure BO (C : Addr) (F H : Hp) (p dx : Addr) (fs : List (Str × V)) : Prop where
  h : H p = some (.ins C dx fs)
section
variable {α β γ : Type} {K : PySem.W.Frag} {σ : L2.St} {C p q dx : Addr} {fs : List (Str × V)} {H0 F F' H H' : Hp} {to ta : TE} {Q : VK} {a b c m : Str} {u v : V} {o : HO}
theorem BO.step (x : BO C F H p dx fs) (w : Wf F H F' H') : BO C F' H' p dx fs := ⟨w.h _ _ x.h⟩
theorem BO.ne (x : BO C F H p dx fs) (h : H q = none) : p ≠ q := ne_of_none x.h h
theorem BO.frzO {X : Prop} (x : BO C F H q dx fs) (h : X) (hq : q ≠ p) (g : Ex F F') : BO C F' H q dx fs := ⟨x.h⟩
theorem BO.kept (x : BO C F H q dx fs) (h : ∀ q o, H q = some o → q ≠ p → H' q = some o) (hq : q ≠ p) : BO C F H' q dx fs := ⟨h _ _ x.h hq⟩
theorem fl_B (na : NoAttr K C a) (cl : Cls K C) (x : BO C F H p dx fs) (hl : fs.lookup a = some u) (ho : Val to σ H (.ref p)) : Val (tFld K to a) σ H u :=
  fun Q k => ho _ ⟨p, C, dx, fs, u, rfl, x.h, cl, na, hl, k⟩
def kFld (K : PySem.W.Frag) (a : Str) (Q : VK) (x : V) (H1 : Hp) : Prop := ∃ a' C dx fs v, x = .ref a' ∧ H1 a' = some (.ins C dx fs) ∧ Cls K C ∧ NoAttr K C a ∧ fs.lookup a = some v ∧ Q v H1
theorem e_tfld (h : ta σ H (kFld K a Q)) : tFld K ta a σ H Q := h
theorem fl_val (h : Val (tFld K (tC v) a) [] H u) (q : Q u H) : kFld K a Q v H := h Q q
theorem put_ne {f g : Str} {v x : V} {r : List (Str × V)} (h : ¬ g = f) : putF f v ((g, x) :: r) = (g, x) :: putF f v r := if_neg h
theorem put_eq {f : Str} {v x : V} {r : List (Str × V)} : putF f v ((f, x) :: r) = (f, v) :: r := if_pos rfl
theorem Xc.cast {fs' : List (Str × V)} (x : Xc H0 F H p (.ins C dx fs)) (e : fs = fs') : Xc H0 F H p (.ins C dx fs') := e ▸ x
/-- the first field, a dict, as it is borrowed -/
theorem st_bw {κ : Type} [KeyT κ] {e : Rep α} {f : Rep β} {g : Rep γ} {z : List (κ × α) × β × γ} (r : (pO3 C a b c (pD e) f g).r F v z) (h : Ex F H) (h1 : (m == a) = false := by decide +kernel) (h2 : (m == b) = false := by decide +kernel) (h3 : (m == c) = false := by decide +kernel) :
    ∃ p dx fs d, v = .ref p ∧ H p = some (.ins C dx fs) ∧ fs.lookup a = some (.ref d) ∧ BD e F H d z.1 ∧ fs.lookup m = none := by
  obtain ⟨p, dx, fs, rfl, hp, u, w, y, rfl, r1, r2, r3⟩ := r
  obtain ⟨d, rfl, bd⟩ := D_bw r1 h
  exact ⟨p, dx, _, d, rfl, h _ _ hp, lk_eq, bd, (lk_ne h1).trans ((lk_ne h2).trans ((lk_ne h3).trans rfl))⟩
end
section
variable {κ α : Type} [KeyT κ] {e : Rep α} {σ : L2.St} {F0 H0 F H : Hp} {tk tv : TE} {Q : VK} {v : V} {j : κ} {x : α}
/-- {k: v} -/
theorem n_disp1 (hk : ∀ H, Val tk σ H (kV (KeyT.k j))) (hv : ∀ H, Val tv σ H v) (r : e.r F v x) (w : Wf F0 H0 F H) (k : ∀ p H', H p = none → Wf F H F H' → XD e H0 F H' p [(j, x)] → Q (.ref p) H') : tDisp [(tk, tv)] σ H Q := fun p hp => by
  refine hk _ _ (hv _ _ ⟨upd_same, [(KeyT.k j, v)], rfl, (show 1 ≤ 15 by decide), ?_⟩)
  rw [upd_upd]
  exact k p _ hp (Wf.newX w.f hp) ⟨[(KeyT.k j, v)], Xc.mk' w hp, rfl, r, trivial⟩
end
theorem m_list0 {α : Type} {e : Rep α} {K : PySem.W.Frag} {σ : L2.St} {H0 F H : Hp} {p : Addr} {xs : List α} {to : TE} {Q : VK} {r : V → List V → Hp → VK → Prop} (z : XL e H0 F H p xs) (ho : Val to σ H (.ref p)) (k : r (.ref p) [] H Q) : tBM0 K "list" r to σ H Q := ho _ ⟨let ⟨_, a, _⟩ := z.x; Or.inl ⟨rfl, _, Or.inl (Or.inl a.h)⟩, k⟩
end Wk

namespace Wk
open PySem L2
section
variable {K : PySem.W.Frag} {σ : L2.St} {F0 H0 F H H' : Hp} {ta to : TE} {Q : VK} {v : V} {xs : List Nat} {p q : Addr} {x : Nat}
theorem nats_eq {vs : List V} {F : Hp} (a : All pN F vs xs) : vs = (xs.map Int.ofNat).map V.int := a.nats
def maxT (xs : List Nat) : Nat := xs.foldl max 0
theorem maxT_aux : ∀ (xs : List Nat) (a : Nat), a ≤ xs.foldl max a ∧ (∀ y ∈ xs, y ≤ xs.foldl max a) ∧ (xs.foldl max a = a ∨ xs.foldl max a ∈ xs)
  | [], a => ⟨Nat.le_refl _, fun y h => (by cases h), .inl rfl⟩
  | x :: xs, a => by
    obtain ⟨h1, h2, h3⟩ := maxT_aux xs (max a x)
    refine ⟨Nat.le_trans (Nat.le_max_left a x) h1, fun y hy => ?_, ?_⟩
    · rcases List.mem_cons.mp hy with e | m
      · subst e; exact Nat.le_trans (Nat.le_max_right a y) h1
      · exact h2 y m
    · show xs.foldl max (max a x) = a ∨ xs.foldl max (max a x) ∈ x :: xs
      rcases h3 with e | m
      · rw [e]
        rcases Nat.le_total a x with o | o
        · rw [Nat.max_eq_right o]; exact .inr (List.mem_cons_self ..)
        · rw [Nat.max_eq_left o]; exact .inl rfl
      · exact .inr (List.mem_cons_of_mem _ m)
theorem maxT_le {y : Nat} (h : y ∈ xs) : y ≤ maxT xs := (maxT_aux xs 0).2.1 y h
theorem maxT_mem (h : 0 < xs.length) : maxT xs ∈ xs := by
  rcases (maxT_aux xs 0).2.2 with e | m
  · obtain ⟨y, hy⟩ : ∃ y, y ∈ xs := by cases xs with
      | nil => exact absurd h (Nat.lt_irrefl _)
      | cons y _ => exact ⟨y, List.mem_cons_self ..⟩
    have := maxT_le hy
    have e2 : maxT xs = 0 := e
    rw [e2] at this ⊢
    have : y = 0 := by omega
    subst this; exact hy
  · exact m
/-- max(xs) -/
theorem vn_max (r : (pL pN).r F v xs) (f : Ex F H) (hl : 0 < xs.length) (ha : Val ta σ H v) : Val (tCB (L2.rMax K) (tCons ta tNil)) σ H (.int ((maxT xs : Nat) : Int)) := by
  obtain ⟨p, vs, rfl, hp, a⟩ := L_rd r f
  rw [nats_eq a] at hp
  refine v_cb1 ha fun Q k => ⟨p, _, rfl, SqL.of hp, by rw [List.length_map]; exact hl, fun m hm hle => ?_⟩
  have : m = ((maxT xs : Nat) : Int) := by
    obtain ⟨n, hn, rfl⟩ := List.mem_map.mp hm
    have h1 := maxT_le hn
    have h2 := hle _ (List.mem_map.mpr ⟨_, maxT_mem hl, rfl⟩)
    simp only [Int.ofNat_eq_natCast] at h2 ⊢
    omega
  rw [this]; exact k
theorem vn_maxX (r : XL pN H0 F H p xs) (hl : 0 < xs.length) (ha : Val ta σ H (.ref p)) : Val (tCB (L2.rMax K) (tCons ta tNil)) σ H (.int ((maxT xs : Nat) : Int)) := by
  obtain ⟨vs, hp, a⟩ := r.rd
  rw [nats_eq a] at hp
  refine v_cb1 ha fun Q k => ⟨p, _, rfl, SqL.of hp, by rw [List.length_map]; exact hl, fun m hm hle => ?_⟩
  have : m = ((maxT xs : Nat) : Int) := by
    obtain ⟨n, hn, rfl⟩ := List.mem_map.mp hm
    have h1 := maxT_le hn
    have h2 := hle _ (List.mem_map.mpr ⟨_, maxT_mem hl, rfl⟩)
    simp only [Int.ofNat_eq_natCast] at h2 ⊢
    omega
  rw [this]; exact k
theorem sum_nats : ∀ xs : List Nat, (xs.map Int.ofNat).sum = ((xs.sum : Nat) : Int)
  | [] => rfl
  | x :: xs => by rw [List.map_cons, List.sum_cons, List.sum_cons, sum_nats xs]; simp
/-- sum(xs) -/
theorem vn_sum (r : (pL pN).r F v xs) (f : Ex F H) (ha : Val ta σ H v) : Val (tCB (L2.rSum K) (tCons ta tNil)) σ H (.int ((xs.sum : Nat) : Int)) := by
  obtain ⟨p, vs, rfl, hp, a⟩ := L_rd r f
  rw [nats_eq a] at hp
  exact v_cb1 ha fun Q k => ⟨p, _, rfl, SqL.of hp, by rw [sum_nats]; exact k⟩
theorem vn_sumX (r : XL pN H0 F H p xs) (ha : Val ta σ H (.ref p)) : Val (tCB (L2.rSum K) (tCons ta tNil)) σ H (.int ((xs.sum : Nat) : Int)) := by
  obtain ⟨vs, hp, a⟩ := r.rd
  rw [nats_eq a] at hp
  exact v_cb1 ha fun Q k => ⟨p, _, rfl, SqL.of hp, by rw [sum_nats]; exact k⟩
/-- xs.remove(x) -/
theorem first_of {x : Nat} : ∀ {xs : List Nat}, x ∈ xs → ∃ j, xs[j]? = some x ∧ (∀ m, m < j → xs[m]? ≠ some x) ∧ xs.eraseIdx j = xs.erase x
  | [], h => by cases h
  | y :: xs, h => by
    by_cases e : y = x
    · subst e
      exact ⟨0, rfl, fun m hm => absurd hm (Nat.not_lt_zero _), by simp⟩
    · obtain ⟨j, h1, h2, h3⟩ := first_of (xs := xs) ((List.mem_cons.mp h).resolve_left fun z => e z.symm)
      refine ⟨j + 1, by simpa using h1, fun m hm => ?_, ?_⟩
      · cases m with
        | zero => simpa using e
        | succ m => simpa using h2 m (by omega)
      · rw [List.eraseIdx_cons_succ, h3, List.erase_cons_tail (by simpa using e)]
theorem erase_map {α β : Type} (f : α → β) : ∀ (xs : List α) (j : Nat), (xs.map f).eraseIdx j = (xs.eraseIdx j).map f
  | [], _ => rfl
  | _ :: _, 0 => rfl
  | x :: xs, j + 1 => by rw [List.map_cons, List.eraseIdx_cons_succ, List.eraseIdx_cons_succ, List.map_cons, erase_map f xs j]
theorem a_rem (z : XL pN H0 F H p xs) (w : Wf F0 H0 F H) (hx : x ∈ xs) (k : ∀ H', Wf F0 H0 F H' → XL pN H0 F H' p (xs.erase x) → (∀ q o, H q = some o → q ≠ p → H' q = some o) → Q .non H') : L2.rRemI (.ref p) [.int (x : Int)] H Q := by
  obtain ⟨vs, a, b⟩ := z.x
  have e := nats_eq b
  obtain ⟨j, h1, h2, h3⟩ := first_of hx
  have hh := a.h
  rw [e] at hh
  refine ⟨p, _, _, j, rfl, rfl, hh, by rw [List.getElem?_map, h1]; rfl, fun m hm z => h2 m hm ?_, ?_⟩
  · rw [List.getElem?_map] at z
    cases q : xs[m]? with
    | none => rw [q] at z; cases z
    | some y =>
      rw [q] at z
      have : Int.ofNat y = (x : Int) := Option.some.inj z
      have : y = x := by simp only [Int.ofNat_eq_natCast] at this; omega
      rw [this]
  · refine k _ (w.set a) ⟨_, a.set, ?_⟩ fun q o h hq => by rw [upd_ne hq]; exact h
    have e4 : ((xs.map Int.ofNat).eraseIdx j).map V.int = ((xs.erase x).map Int.ofNat).map V.int := by
      rw [← h3, erase_map]
    rw [e4]
    have go : ∀ ys : List Nat, All pN F ((ys.map Int.ofNat).map V.int) ys := by
      intro ys
      induction ys with
      | nil => trivial
      | cons y ys ih => exact ⟨rfl, ih⟩
    exact go _
/-- sorted(d), the keys numbers -/
def rSortedDI : List V → Hp → VK → Prop := fun xs H Q => ∃ (a : Addr) (kvs : List (Key × V)) (ks : List Int), xs = [.ref a] ∧ Rd H a (.dK kvs) ∧ kvs.map (·.1) = ks.map Sum.inl ∧ ks.length < 64 ∧ ∀ (ys : List Int) (p : Addr), ys.Perm ks → ys.Pairwise (· ≤ ·) → H p = none → Q (.ref p) (upd H p (.lst (ys.map V.int)))
theorem DA.nkeys {α : Type} {e : Rep α} {F : Hp} : ∀ {kvs : List (Key × V)} {m : List (Nat × α)}, DA e F kvs m → kvs.map (·.1) = ((m.map (·.1)).map Int.ofNat).map Sum.inl
  | [], [], _ => rfl
  | p :: r, q :: s, ⟨a, _, c⟩ => by rw [List.map_cons, List.map_cons, List.map_cons, List.map_cons, DA.nkeys c, a]; rfl
  | [], _ :: _, q => q.elim
  | _ :: _, [], q => q.elim
theorem n_sortD {α : Type} {e : Rep α} {m : List (Nat × α)} (r : (pD e).r F v m) (w : Wf F0 H0 F H) (hl : m.length < 64) (k : ∀ (ys : List Nat) p H', ys.Perm (m.map (·.1)) → ys.Pairwise (· ≤ ·) → H p = none → Wf F H F H' → XL pN H0 F H' p ys → Q (.ref p) H') : rSortedDI [v] H Q := by
  obtain ⟨p, kvs, rfl, hp, a⟩ := r
  refine ⟨p, kvs, (m.map (·.1)).map Int.ofNat, rfl, .inl (w.f _ _ hp), a.nkeys, by rw [List.length_map, List.length_map]; exact hl, fun ys q hperm hs hq => ?_⟩
  have e1 : ys = (ys.map Int.toNat).map Int.ofNat := by
    rw [List.map_map]
    have : ys.map (Int.ofNat ∘ Int.toNat) = ys.map id := List.map_congr_left fun y hy => by
      obtain ⟨n, _, rfl⟩ := List.mem_map.mp (hperm.mem_iff.mp hy)
      rfl
    rw [this, List.map_id]
  have e2 : (ys.map Int.toNat).Perm (m.map (·.1)) := by
    have := hperm.map Int.toNat
    rw [List.map_map (l := m.map (·.1))] at this
    have z : (m.map (·.1)).map (Int.toNat ∘ Int.ofNat) = (m.map (·.1)).map id := List.map_congr_left fun y _ => rfl
    rw [z, List.map_id] at this
    exact this
  have e3 : (ys.map Int.toNat).Pairwise (· ≤ ·) := List.pairwise_map.mpr (hs.imp fun h => Int.toNat_le_toNat h)
  have go : ∀ zs : List Nat, All pN F ((zs.map Int.ofNat).map V.int) zs := by
    intro zs
    induction zs with
    | nil => trivial
    | cons y zs ih => exact ⟨rfl, ih⟩
  have a2 := go (ys.map Int.toNat)
  rw [← e1] at a2
  exact k _ q _ e2 e3 hq (Wf.newX w.f hq) ⟨_, Xc.mk' w hq, a2⟩
end
end Wk

namespace Wk
open PySem L2
/-- one of two kinds -/
def pAlt {α β : Type} (e : Rep α) (f : Rep β) : Rep (Sum α β) := ⟨fun F v x => match x with | .inl a => e.r F v a | .inr b => f.r F v b, fun {_ _ _ x} h q => by cases x with | inl a => exact e.mono h q | inr b => exact f.mono h q⟩
theorem alt_n {α : Type} {e : Rep α} {F : Hp} {v : V} {x : Sum α Nat} {y : Nat} (r : (pAlt e pN).r F v x) (h : x = Sum.inr y) : v = .int ((y : Nat) : Int) := by subst h; exact r
theorem alt_l {α β : Type} {e : Rep α} {f : Rep β} {F : Hp} {v : V} {x : Sum α β} {y : α} (r : (pAlt e f).r F v x) (h : x = Sum.inl y) : e.r F v y := by subst h; exact r
def rLenD : List V → Hp → VK → Prop := fun xs H Q => ∃ (p : Addr) (kvs : List (Key × V)), xs = [.ref p] ∧ H p = some (.dK kvs) ∧ Q (.int kvs.length) H
theorem len_D {κ α : Type} [DecidableEq κ] [KeyT κ] {e : Rep α} {F H : Hp} {v : V} {m : List (κ × α)} {σ : L2.St} {ta : TE} (r : (pD e).r F v m) (f : Ex F H) (ha : Val ta σ H v) : Val (tCB rLenD (tCons ta tNil)) σ H (.int ((m.length : Nat) : Int)) := by
  obtain ⟨p, kvs, rfl, hp, a⟩ := D_rd r f
  exact v_cb1 ha fun Q k => ⟨p, kvs, rfl, hp, by rw [a.len]; exact k⟩
end Wk
/-! SrtD: sorted(d) of a dict whose keys are numbers, however many (after the rule for fewer than 64, with the sort of SortInts). -/
namespace Wk
open PySem PySem.Spec PyProof.Rows L2
/-- sorted(d), any number of keys -/
def rSortedDX : List V → Hp → VK → Prop := fun xs H Q => ∃ (a : Addr) (kvs : List (Key × V)) (ks : List Int), xs = [.ref a] ∧ Rd H a (.dK kvs) ∧ kvs.map (·.1) = ks.map Sum.inl ∧ ks.length < 1000000 ∧ ∀ (ys : List Int) (p : Addr), ys.Perm ks → ys.Pairwise (· ≤ ·) → H p = none → Q (.ref p) (upd H p (.lst (ys.map V.int)))
section
variable {X : Cx}
theorem call_sortedDX (hcalm : X.calm = true) : CallR X (.builtin "sorted") rSortedDX := by
  intro pins s σ H xs us Q Iv rr qq
  obtain ⟨da, kvs, ks, ex, hd, hks, hbig, qq⟩ := qq
  subst ex
  obtain ⟨u1, eu, rx⟩ := vals1 rr
  subst eu
  cases rx
  obtain ⟨zz, lo, vs, rel, dd⟩ := dk_rd Iv.hok hd
  obtain ⟨ep, hat⟩ := dd.dictAt
  have hks2 : vs.map (·.1) = ks.map Sum.inl := rel.keys.symm.trans hks
  have hln : vs.length = ks.length := by
    have el := congrArg List.length hks2
    rw [List.length_map, List.length_map] at el; exact el
  have hsz : ks.length ≤ sizeLine := by rw [sizeLine_eq]; omega
  refine Calls.call_function_entry kind_sorted plain_sorted entry_sorted (args_sorted1 _) ?_
  unfold Builtin.«sorted»
  refine wpAny_bind (m := checkCount "sorted" 1 1 _) (wpAny_pure ?_)
  refine wpAny_bind (PySem.W.kdu_collect (A := X.A.in1) (PySem.W.kdl_dict (knd := mixKind X.prog X.w) (kvs := vs) (ep := ep) lo) (Iv.ok.hd hcalm) hat (by rw [hln]; exact hsz) fun hp2 tk2 ac hkp hac => ?_)
  have hal2 : ac.toList.length = ks.length := by rw [Array.length_toList, hac.1, hln]
  have hInt : IntsAre ac.toList ks := ints_each hal2 fun j v e => by
    obtain ⟨key, x, e1, e2⟩ := hac.2 j v (by rw [← Array.getElem?_toList]; exact e)
    have e3 : (vs.map (·.1))[j]? = some key := by rw [List.getElem?_map, e1]; rfl
    rw [hks2, List.getElem?_map] at e3
    cases e4 : ks[j]? with
    | none => rw [e4] at e3; cases e3
    | some y =>
      rw [e4] at e3
      have e5 : Sum.inl y = key := Option.some.inj e3
      subst e5
      rcases keyIs_shape (show keyIs (Sum.inl y) v = true from e2) with ⟨i, t, ek, ev⟩ | ⟨z, t, ek, ev⟩
      · cases ek; exact ⟨y, t, rfl, ev⟩
      · cases ek
  have Iv2 : Inv X pins σ H { s with heap := hp2, toks := tk2 } := Iv.kept hkp
  refine wpAny_bind (wpAny_newList ?_ (by rw [hal2]; exact hsz))
  have hob2 : (hp2.push (seqObj "list" ac.toList.toArray 0)).get? hp2.objs.size = some (seqObj "list" ac.toList.toArray 0) := Heap.get?_push_size _ rfl
  show wpAny _ _ _ _ _ { s with heap := hp2.push (seqObj "list" ac.toList.toArray 0), toks := tk2 }
  refine wpAny_bind (wpAny_holding (wpAny_call_entry slot_list_sort ⟨_, hob2, rfl⟩ entry_list_sort
    (SrtO.list_sort_ord (s := { s with heap := hp2.push (seqObj "list" ac.toList.toArray 0), toks := tk2 }) SrtO.swo_int hob2 (by rw [hal2]; exact hsz) (fun h2 => SrtO.ints_sortable hInt h2) fun out g1 g2 => ⟨_, rfl, ?_⟩) (args_list_sort _)))
  obtain ⟨k1, k2, k3⟩ := SrtO.ints_out hInt g1 g2
  obtain ⟨ep2, hep2⟩ := sortedHeap_at (vs := ac.toList) (out := out.toArray) hob2
  have hlen2 : ((out.map SrtO.iv).map V.int).length ≤ sizeLine := by rw [List.length_map, k2.length_eq]; exact hsz
  refine wpAny_pure ⟨_, rfl, .ref hp2.objs.size, upd H hp2.objs.size (.lst ((out.map SrtO.iv).map V.int)), Iv2.laid (t' := tk2) (fun b u e => ?_) (Nat.le_refl _)
    (show ObjOk X.prog X.w _ _ _ (.lst ((out.map SrtO.iv).map V.int)) from ⟨hlen2, out, ep2, vals_of_ints k1, hep2⟩), rfl, qq _ _ k2 k3 (Iv2.hok.fresh (Nat.le_refl _))⟩
  have hbl : b < hp2.objs.size := Heap.lt_size e
  rw [sortedHeap_old (Nat.ne_of_lt hbl) (by rw [size_push']; exact Nat.lt_succ_of_lt hbl)]
  exact Heap.get?_push_of_some _ e
end
section
variable {K : PySem.W.Frag} {F0 H0 F H H' : Hp} {Q : VK} {v : V}
theorem n_sortDX {α : Type} {e : Rep α} {m : List (Nat × α)} (r : (pD e).r F v m) (w : Wf F0 H0 F H) (hl : m.length < 1000000) (k : ∀ (ys : List Nat) p H', ys.Perm (m.map (·.1)) → ys.Pairwise (· ≤ ·) → H p = none → Wf F H F H' → XL pN H0 F H' p ys → Q (.ref p) H') : rSortedDX [v] H Q := by
  obtain ⟨p, kvs, rfl, hp, a⟩ := r
  refine ⟨p, kvs, (m.map (·.1)).map Int.ofNat, rfl, .inl (w.f _ _ hp), a.nkeys, by rw [List.length_map, List.length_map]; exact hl, fun ys q hperm hs hq => ?_⟩
  have e1 : ys = (ys.map Int.toNat).map Int.ofNat := by
    rw [List.map_map]
    have : ys.map (Int.ofNat ∘ Int.toNat) = ys.map id := List.map_congr_left fun y hy => by
      obtain ⟨n, _, rfl⟩ := List.mem_map.mp (hperm.mem_iff.mp hy)
      rfl
    rw [this, List.map_id]
  have e2 : (ys.map Int.toNat).Perm (m.map (·.1)) := by
    have := hperm.map Int.toNat
    rw [List.map_map (l := m.map (·.1))] at this
    have z : (m.map (·.1)).map (Int.toNat ∘ Int.ofNat) = (m.map (·.1)).map id := List.map_congr_left fun y _ => rfl
    rw [z, List.map_id] at this
    exact this
  have e3 : (ys.map Int.toNat).Pairwise (· ≤ ·) := List.pairwise_map.mpr (hs.imp fun h => Int.toNat_le_toNat h)
  have go : ∀ zs : List Nat, All pN F ((zs.map Int.ofNat).map V.int) zs := by
    intro zs
    induction zs with
    | nil => trivial
    | cons y zs ih => exact ⟨rfl, ih⟩
  have a2 := go (ys.map Int.toNat)
  rw [← e1] at a2
  exact k _ q _ e2 e3 hq (Wf.newX w.f hq) ⟨_, Xc.mk' w hq, a2⟩
end
end Wk
/-! Xn: defs that may raise; try. -/
namespace Wk
open PySem L2
def tTry (K : PySem.W.Frag) (c : Value) (tb : WX → TS) (ts : Addr → Value → Option Addr → TS) (Wout : WX) : TS := fun D σ H => tb (wOnly K c ts Wout D) D σ H
theorem a_tryI {K : PySem.W.Frag} {c : Value} {tb : WX → TS} {ts : Addr → Value → Option Addr → TS} {Wout : WX} {D : Ends} {σ : L2.St} {H : Hp} (h : tb (wOnly K c ts Wout D) D σ H) : tTry K c tb ts Wout D σ H := h
theorem a_exc {K : PySem.W.Frag} {c cls : Value} {d : Option Addr} {ts : Addr → Value → Option Addr → TS} {Wout : WX} {D : Ends} {σ : L2.St} {H : Hp} (he : PySem.W.exmOne K cls c = some true) (h : ∀ a, H a = none → ts a cls d D σ H) : wOnly K c ts Wout D cls d σ H :=
  ⟨true, he, fun _ => h, fun q => Bool.noConfusion q⟩
theorem a_excO {K : PySem.W.Frag} {c cls : Value} {d : Option Addr} {ts : Addr → Value → Option Addr → TS} {Wout : WX} {D : Ends} {σ : L2.St} {H : Hp} (he : PySem.W.exmOne K cls c = some false) (h : Wout cls d σ H) : wOnly K c ts Wout D cls d σ H :=
  ⟨false, he, fun q => Bool.noConfusion q, fun _ => h⟩
/-- raise, in short -/
def tRaise (W : WX) (C : Addr) : TS := fun _ σ H => W (.ref C) none σ H
theorem e_callS {sp : Sp} {E : L2.St → XK} {tA : TA} {σ : L2.St} {H : Hp} {Q : VK} (h : tA σ H fun vs H1 => sp vs H1 Q (E σ)) : tCallS sp E tA σ H Q := h
/-- what the walk asks of an exception's class -/
structure XC (K : PySem.W.Frag) (mg : Str → Option Value) (n : Str) (C : Addr) : Prop where
  x : PySem.W.excIn K C [.type "ValueError", .type "Exception", .type "BaseException", .type "object"] "ValueError.__new__" = true
  g : mg n = some (.ref C)
  k : PySem.W.keepIn K (.ref C) = true
  b : PySem.W.subIn K (.ref C) (.type "BaseException") = some true
  t : PySem.W.typeIn K (.ref C) = some (.type "type")
theorem exm_of {K : PySem.W.Frag} {S T : Addr} {b : Bool} (h1 : PySem.W.subIn K (.ref T) (.type "BaseException") = some true) (h2 : PySem.W.isClsIn K T = true) (h3 : PySem.W.typeIn K (.ref T) = some (.type "type")) (h4 : PySem.W.subIn K (.ref S) (.ref T) = some b) :
    PySem.W.exmOne K (.ref S) (.ref T) = some b := by
  have e1 : (PySem.W.subIn K (.ref T) (.type "BaseException") == some true) = true := by rw [h1]; rfl
  have e2 : ((PySem.W.clsIn K T).isSome && PySem.W.typeIn K (.ref T) == some (.type "type")) = true := by
    have h2' : (PySem.W.clsIn K T).isSome = true := h2
    rw [h2', h3]; rfl
  show (if (PySem.W.subIn K (.ref T) (.type "BaseException") == some true) = true then (if ((PySem.W.clsIn K T).isSome && PySem.W.typeIn K (.ref T) == some (.type "type")) = true then PySem.W.subIn K (.ref S) (.ref T) else none) else none) = some b
  rw [if_pos e1, if_pos e2]; exact h4
section
variable {X : Cx} {k : Nat} {C : Addr} {x m : Str} {ps : List Str} {sp : Sp} {W : WX} {o e : Expr} {es : List Expr} {p pos apos : Pos} {ta : TE} {t : TA} {pl : Sem Bool}
theorem pe_fnL (F : Fn X.prog X.w X.K X.mg X.base (L2.CX X.prog X.w) k x ps sp) (hr : Room k X.A) (hg : Gl X x) (ha : PA X (e :: es) t) (hdb : (x == ("__debug__" : Str)) = false := by decide)
    (he : starEach (e :: es) X.env = (false, eval e X.env) :: starEach es X.env := by rfl) (hpl : (backTo pos (starEach es X.env)).any (·.1) = false := by rfl) : PE X (.Call (.Name x p) (e :: es) [] pos) (tCall sp [] E0 t) := by
  obtain ⟨f, fd, F, hm, hk, hb⟩ := F.ex
  exact pe_call F hr hg hm hk hb .nil passL ha hdb he hpl
theorem pe_fnS (F : Fn X.prog X.w X.K X.mg X.base (L2.CX X.prog X.w) k x ps sp) (tk : Takes X W) (hr : Room k X.A) (hg : Gl X x) (ha : PA X (e :: es) t) (hdb : (x == ("__debug__" : Str)) = false := by decide)
    (he : starEach (e :: es) X.env = (false, eval e X.env) :: starEach es X.env := by rfl) (hpl : (backTo pos (starEach es X.env)).any (·.1) = false := by rfl) : PE X (.Call (.Name x p) (e :: es) [] pos) (tCallS sp (WE W) t) := by
  obtain ⟨f, fd, F, hm, hk, hb⟩ := F.ex
  exact pe_callS F hr hg hm hk hb (fun σ => passAt tk σ) ha hdb he hpl
/-- methods -/
theorem pe_mdL (M : Md X.prog X.w X.K X.mg X.base (L2.CX X.prog X.w) k C m ps sp) (cl : Cls X.K C) (hr : Room k X.A) (he : PE X o ta) (ha : PA X (e :: es) t)
    (hst : starEach (e :: es) X.env = (false, eval e X.env) :: starEach es X.env := by rfl) (hpl : (backTo pos (starEach es X.env)).any (·.1) = false := by rfl)
    (ht : eval (.Call (.Attribute o m apos) (e :: es) [] pos) X.env = (do
      let ov ← eval o X.env
      standAt apos.atName
      let (f, first) ← holding [ov] (getMethod ov m pl)
      callWith pos f first (backTo pos (starEach (e :: es) X.env)) (backToKw pos (keywordEach [] X.env))) := by rfl) :
    PE X (.Call (.Attribute o m apos) (e :: es) [] pos) (tMeth C m sp [] E0 ta t) := by
  obtain ⟨f, fd, F, hm, hb⟩ := M.ex
  exact pe_meth he cl hm F hr hb .nil passL ha hst hpl ht
def tMdS (C : Addr) (m : Str) (sp : Sp) (E : L2.St → XK) (ta : TE) (t : TA) : TE := fun σ H Q => ta σ H fun x H1 => ∃ a dx fs, x = .ref a ∧ H1 a = some (.ins C dx fs) ∧ fs.lookup m = none ∧ t σ H1 fun vs H2 => sp (x :: vs) H2 Q (E σ)
theorem e_mdS {E : L2.St → XK} {σ : L2.St} {H : Hp} {Q : VK} (h : ta σ H fun x H1 => ∃ a dx fs, x = .ref a ∧ H1 a = some (.ins C dx fs) ∧ fs.lookup m = none ∧ t σ H1 fun vs H2 => sp (x :: vs) H2 Q (E σ)) : tMdS C m sp E ta t σ H Q := h
theorem pe_mdS (M : Md X.prog X.w X.K X.mg X.base (L2.CX X.prog X.w) k C m ps sp) (tk : Takes X W) (cl : Cls X.K C) (hr : Room k X.A) (he : PE X o ta) (ha : PA X (e :: es) t)
    (hst : starEach (e :: es) X.env = (false, eval e X.env) :: starEach es X.env := by rfl) (hpl : (backTo pos (starEach es X.env)).any (·.1) = false := by rfl)
    (ht : eval (.Call (.Attribute o m apos) (e :: es) [] pos) X.env = (do
      let ov ← eval o X.env
      standAt apos.atName
      let (f, first) ← holding [ov] (getMethod ov m pl)
      callWith pos f first (backTo pos (starEach (e :: es) X.env)) (backToKw pos (keywordEach [] X.env))) := by rfl) :
    PE X (.Call (.Attribute o m apos) (e :: es) [] pos) (tMdS C m sp (WE W) ta t) := by
  obtain ⟨f, fd, F, hm, hb⟩ := M.ex
  refine ⟨fun pins s σ H Q Iv hh => ?_⟩
  refine PySem.W.methodCall_KW (pl := pl) (thn (he.run pins s σ H _ Iv hh) fun u s1 ⟨x, H1, Iv1, rx, a, dx, fs, ex, ea, lk, qq⟩ => ?_) ht
  subst ex
  obtain rfl : u = Value.ref a := rx
  refine getmeth_ok Iv1 ea cl hm lk ?_
  refine PySem.W.callWith_K (first := [.ref a]) (h₀ := X.base) Iv1.ok.mod.kin hm.kp (thn (ha.run pos pins s1 σ H1 _ Iv1 qq) fun us s2 ⟨vs, H2, Iv2, rv, q2⟩ => ⟨Iv2.kIn, ?_⟩) hst hpl
  exact run_fnS (us := .ref a :: us) (vs := .ref a :: vs) F hr hb (passAt tk σ) Iv2 (.cons rfl rv) q2
end
theorem a_par {i j : Nat} {tA : TA} {D : Ends} {σ : L2.St} {H : Hp} (h : tA σ H fun vs H1 => ∃ v w, vs = [v, w] ∧ D.nx ((σ.set i (some v)).set j (some w)) H1) : tPar i j tA D σ H := h
theorem a_raise {W : WX} {C : Addr} {D : Ends} {σ : L2.St} {H : Hp} (h : W (.ref C) none σ H) : tRaise W C D σ H := h
end Wk
/-! An: things of any kind; constants of the module. -/
namespace Wk
open PySem L2
/-- a thing: a whole number, a truth, None, a text, or another one of a kind that is told -/
inductive An where
  | i (n : Int)
  | b (b : Bool)
  | n
  | s (x : Str)
  | o (T : String)
def anR (F : Hp) (v : V) : An → Prop
  | .i n => v = .int n
  | .b b => v = .bl b
  | .n => v = .non
  | .s x => v = .str x
  | .o T => ∃ p, v = .ref p ∧ ((T = "list" ∧ ∃ vs, F p = some (.lst vs)) ∨ (T = "tuple" ∧ ∃ vs, F p = some (.tup vs)) ∨ (T = "dict" ∧ ∃ kvs, F p = some (.dK kvs)))
def pA : Rep An := ⟨anR, fun {F F' v x} h r => by
  cases x with
  | i n => exact r
  | b b => exact r
  | n => exact r
  | s x => exact r
  | o T =>
    obtain ⟨p, e, q⟩ := r
    refine ⟨p, e, ?_⟩
    rcases q with ⟨t, vs, q⟩ | ⟨t, vs, q⟩ | ⟨t, vs, q⟩
    · exact .inl ⟨t, vs, h _ _ q⟩
    · exact .inr (.inl ⟨t, vs, h _ _ q⟩)
    · exact .inr (.inr ⟨t, vs, h _ _ q⟩)⟩
def An.ty : An → String
  | .i _ => "int"
  | .b _ => "bool"
  | .n => "NoneType"
  | .s _ => "str"
  | .o T => T
/-- isinstance(x, T) for a built-in T -/
def isA (T : String) (x : An) : Bool := x.ty == T || (T == "int" && x.ty == "bool")
section
variable {α β : Type} {e : Rep α} {f : Rep β} {K : PySem.W.Frag} {σ : L2.St} {F F' H : Hp} {ta : TE} {v : V} {x : An} {xs : List α} {y : α × β}
theorem an_L (r : (pL e).r F v xs) : pA.r F v (.o "list") := let ⟨p, vs, a, b, _⟩ := r; ⟨p, a, .inl ⟨rfl, vs, b⟩⟩
theorem an_TL (r : (pTL e).r F v xs) : pA.r F v (.o "tuple") := let ⟨p, vs, a, b, _⟩ := r; ⟨p, a, .inr (.inl ⟨rfl, vs, b⟩)⟩
theorem an_T2 (r : (pT2 e f).r F v y) : pA.r F v (.o "tuple") := let ⟨p, u, w, a, b, _⟩ := r; ⟨p, a, .inr (.inl ⟨rfl, _, b⟩)⟩
theorem an_ty (r : pA.r F v x) (h : Ex F H) : TyX K H v (.type x.ty) := by
  cases x with
  | i n => cases (show v = V.int n from r); exact .base (.int _)
  | b b => cases (show v = V.bl b from r); exact .base (.bl _)
  | n => cases (show v = V.non from r); exact .base .non
  | s x => cases (show v = V.str x from r); exact .base (.str _)
  | o T =>
    obtain ⟨p, rfl, q⟩ := r
    rcases q with ⟨rfl, vs, q⟩ | ⟨rfl, vs, q⟩ | ⟨rfl, vs, q⟩
    · exact .base (.lst (h _ _ q))
    · exact .base (.tup (h _ _ q))
    · exact .base (.dK (h _ _ q))
/-- the classes that are asked for -/
def okT (T : String) : Bool := ["int", "bool", "str", "list", "tuple", "dict"].all fun t => ["int", "bool", "NoneType", "str", "list", "tuple", "dict"].all fun u => kitB u T == some (u == T || (T == "int" && u == "bool"))
theorem kit_isA (T : String) (r : pA.r F v x) (hT : ∀ u ∈ ["int", "bool", "NoneType", "str", "list", "tuple", "dict"], kitB u T = some (u == T || (T == "int" && u == "bool"))) : kitB x.ty T = some (isA T x) := by
  unfold isA
  cases x with
  | i n => exact hT "int" (by simp)
  | b b => exact hT "bool" (by simp)
  | n => exact hT "NoneType" (by simp)
  | s x => exact hT "str" (by simp)
  | o T' =>
    obtain ⟨p, _, q⟩ := r
    rcases q with ⟨e, _⟩ | ⟨e, _⟩ | ⟨e, _⟩ <;> subst e
    · exact hT "list" (by simp)
    · exact hT "tuple" (by simp)
    · exact hT "dict" (by simp)
theorem v_isiA (T : String) (ha : Val ta σ H v) (r : pA.r F v x) (h : Ex F H) (hT : ∀ u ∈ ["int", "bool", "NoneType", "str", "list", "tuple", "dict"], kitB u T = some (u == T || (T == "int" && u == "bool")) := by decide +kernel) : Val (tCB (rIsi K) (tCons ta (tCons (tC (.ty T)) tNil))) σ H (.bl (isA T x)) :=
  v_isi ha (an_ty r h) (kit_isA T r hT)
theorem an_i {n : Int} (r : pA.r F v x) (h : x = An.i n) : v = .int n := by subst h; exact r
end
/-- a constant of the module -/
theorem pe_globE {X : Cx} {x : Str} {v : V} {pos : Pos} (h : ∃ u, X.mg x = some u ∧ RelV v u) (hg : Gl X x) (hd : (x == ("__debug__" : Str)) = false := by decide) : PE X (.Name x pos) (tC v) := by
  obtain ⟨u, h1, h2⟩ := h
  exact pe_glob hg h1 h2 hd
end Wk
/-! ETup: enumerate(a tuple), after the rule for lists. -/
namespace PySem
open Sem (wp)
open AutoSeq1 (wpAny_loadPart')
theorem enumT_meets (tt : Addr) (o : Obj) (items : Array Value) (n : Nat) (hcls : o.cls = .type "tuple") (hdat : o.data = .seq items n) :
    Meets (Builtin.«enumerate.__new__» ⟨[.type "enumerate", .ref tt], []⟩) (fun _ R s => s.heap.get? tt = some o ∧
      R (.ok (.ret (.ref (s.heap.push { cls := .type "tuple_iterator", data := .fields #[.ref tt, .int 0 0] }).objs.size)))
        { s with heap := (s.heap.push { cls := .type "tuple_iterator", data := .fields #[.ref tt, .int 0 0] }).push { cls := .type "enumerate", data := .fields #[.none, .bool false, .ref s.heap.objs.size, rawInt 0, .none, .none] } }) :=
  .of_wp fun prog w A R s h => by
    obtain ⟨hp, g, d, tk, os⟩ := s
    obtain ⟨hl, h⟩ := h
    have hsub := sub_enumerate
    obtain ⟨oc, od, odt, osl⟩ := o
    replace hcls : oc = .type "tuple" := hcls
    replace hdat : odt = .seq items n := hdat
    subst hcls hdat
    have hT : Heap.IsTuple (Shared.heap ⟨hp, g, d, tk, os⟩) tt items := ⟨_, hl, rfl, n, rfl⟩
    wp_walk using wpAny_loadPart' hl
    refine wpAny_stack_any fun st => wpAny_pure ?_
    split
    · rename_i c _ _ _ _ _
      cases (c == Value.type "enumerate")
      · (wp_walk using wpAny_loadPart' hl, wpAny_pyIter_tuple hT); exact ⟨_, rfl, h⟩
      · (wp_walk using wpAny_loadPart' hl, wpAny_pyIter_tuple hT); exact ⟨_, rfl, h⟩
    · (wp_walk using wpAny_loadPart' hl, wpAny_pyIter_tuple hT); exact ⟨_, rfl, h⟩
section
variable {prog : Program} {w : World} {A : Around} {E : Value → Shared → Prop} {s : Shared}
theorem call_enumT {tt : Addr} {items : Array Value} {Q : Value → Shared → Prop} (hL : s.heap.IsTuple tt items)
    (h : ∀ h', IsEnum h' (s.heap.objs.size + 1) s.heap.objs.size 0 .none → h'.IsTupleIter s.heap.objs.size tt 0 → h'.objs.size = s.heap.objs.size + 2 → (∀ b o, s.heap.get? b = some o → h'.get? b = some o) → Q (.ref (s.heap.objs.size + 1)) { s with heap := h' }) :
    wpAny (model prog w) A (call (.type "enumerate") [.ref tt]) Q E s := by
  obtain ⟨ob, hl, hcl, n, hda⟩ := hL
  refine callType_new F.called_enumerate (by decide) (F.typeCall_enumerate_1 _) (F.newCall_enumerate_1 _) (fun obj => F.args_object_init_2 obj _) F.entry_enumerate_new (enumT_meets tt ob items n hcl hda) ⟨hl, ?_⟩
  have hsz : (s.heap.push { cls := .type "tuple_iterator", data := .fields #[.ref tt, .int 0 0] }).objs.size = s.heap.objs.size + 1 := Heap.size_push ..
  show _ ∧ _
  rw [hsz]
  have hen : IsEnum ((s.heap.push { cls := .type "tuple_iterator", data := .fields #[.ref tt, .int 0 0] }).push { cls := .type "enumerate", data := .fields #[.none, .bool false, .ref s.heap.objs.size, rawInt 0, .none, .none] }) (s.heap.objs.size + 1) s.heap.objs.size 0 .none := by
    have q := Heap.get?_push_size (s.heap.push { cls := .type "tuple_iterator", data := .fields #[.ref tt, .int 0 0] }) (o := { cls := .type "enumerate", data := .fields #[.none, .bool false, .ref s.heap.objs.size, rawInt 0, .none, .none] }) rfl
    rw [hsz] at q; exact q
  exact ⟨⟨_, hen, rfl⟩, h _ hen ⟨_, Heap.get?_push_of_some _ (Heap.get?_push_size _ rfl), rfl, rfl⟩ (by rw [Heap.size_push, hsz]) fun b o x => Heap.get?_push_of_some _ (Heap.get?_push_of_some _ x)⟩
end
end PySem
namespace Wk
open PySem PySem.Spec PyProof.Rows L2
/-- the tuple at a as it stands at each turn, each item in a new pair -/
def IteT (K : PySem.W.Frag) (a : Addr) : It :=
  ⟨fun i H => ∃ (xs : List V) (x : V), SqT K H a xs ∧ xs[i]? = some x, fun i H v H' => ∃ T x, v = .ref T ∧ H T = none ∧ H' = upd H T (.tup [.int (i : Nat), x]) ∧ ∀ xs, SqT K H a xs → xs[i]? = some x, fun i H => ∃ xs : List V, SqT K H a xs ∧ xs.length ≤ i⟩
theorem enumT_end {prog : Program} {w : World} {A : Around} {E : Value → Shared → Prop} {s : Shared} {en iw tt : Addr} {c : Int} {i : Nat} {items : Array Value} {old : Value} {Q : Option Value → Shared → Prop} (hh : A.handled = none)
    (hen : IsEnum s.heap en iw c old) (hit : s.heap.IsTupleIter iw tt i) (ht : s.heap.IsTuple tt items) (hx : items[i]? = none) (hQ : ∀ h', Heap.ExtBut iw s.heap h' → Q none { s with heap := h' }) : wpAny (model prog w) A (pyNext (.ref en)) Q E s := by
  have hTy2 : s.TypeIs (.ref en) "enumerate" := ⟨_, hen, rfl⟩
  unfold pyNext
  refine wpAny_bind (wpAny_attempt (wpAny_callSpecial?_slot (name := Str.ofString "__next__") hTy2 F.slot_enumerate_next (wpAny_call_entry F.slot_enumerate_next hTy2 F.entry_enumerate_next ?_ (F.args_enumerate_next_1 _))))
  show wpAny _ _ (field (.ref en) 2 >>= _) _ _ _
  refine wpAny_bind (wpAny_field hen rfl (x := .ref iw) rfl ?_)
  refine wpAny_bind (wpAny_nextOf_tuple_end hh hit ht hx fun h' x2 hx1 hx2 => ?_)
  obtain ⟨ob, ho, hcl⟩ := hx2
  refine wpAny_bind (wpAny_isInstance (T := "StopIteration") (b := true) ⟨ob, ho, hcl⟩ isSubtype_stop ?_)
  exact wpAny_pure (hQ _ hx1)
theorem turn_enumT {P : Program} {w : World} {K : PySem.W.Frag} {elts : List Expr} {kk : Nat} {tpos : Pos} (a en iw : Addr) :
    Turn P w K (.Tuple elts kk tpos) (IteT K a) [en, iw] en (fun i h => (∃ old, IsEnum h en iw ((i : Nat) : Int) old) ∧ h.IsTupleIter iw a i ∧ en ≠ iw ∧ a ≠ iw ∧ en ≠ a) where
  mem := by simp
  obj := fun i h stt b hb => by
    obtain ⟨⟨old, hen⟩, ⟨o, ho, hc, hd⟩, _⟩ := stt
    have e' : b = en ∨ b = iw := by simpa using hb
    rcases e' with z | z
    · rw [z]; exact ⟨_, hen, fun v q => nomatch q⟩
    · rw [z]; exact ⟨o, ho, fun v q => by rw [hd] at q; cases q⟩
  keep := fun i h h' stt k => let ⟨⟨old, hen⟩, hi, hne⟩ := stt; ⟨⟨old, k en (by simp) _ hen⟩, hi.at fun o q => k iw (by simp) o q, hne⟩
  item := by
    intro X hP hw hK hc i pins s σ H E Iv hff stt hg
    subst hP hw hK
    obtain ⟨⟨old, hen⟩, hit, hne, hai, hea⟩ := stt
    obtain ⟨xs, x, hq, hx⟩ := hg
    obtain ⟨its, rv, pt, hz⟩ := Iv.tuple hq
    obtain ⟨u, hu, ru⟩ := rv.get hx
    have hT0 : s.heap.IsTuple a its.toArray := pt
    have hel : en < s.heap.objs.size := Heap.lt_size hen
    have hil : iw < s.heap.objs.size := by obtain ⟨_, q, _⟩ := hit; exact Heap.lt_size q
    have hlt : i < its.toArray.size := by rw [List.size_toArray]; exact (List.getElem?_eq_some_iff.mp hu).1
    refine wpAny_pyNext_enum_itemD (Draws.tuple (A := X.A.in1) (Iv.ok.hd hc) iw a hai its.toArray) hen ⟨hit, hT0⟩ hlt hne (by simp [hne, hea]) fun x2 h' tk hP ho hstt' hT hsz hkp => ?_
    obtain rfl : x2 = u := by
      have h1 : its[i]? = some x2 := by simpa using hP
      rw [hu] at h1; exact (Option.some.inj h1).symm
    refine ⟨_, rfl, wpAny_letOwnedTupleGo_enum (s := { s with heap := h', toks := tk + 1 }) ho fun h'' he' sb => ?_⟩
    have hT2 : h''.get? s.heap.objs.size = some { cls := .type "tuple", data := .seq #[.int i tk, x2] } := (sb.2 _ (Nat.ne_of_gt hel)).trans hT
    have newt : ObjOk X.prog X.w (upd H s.heap.objs.size (.tup [.int (i : Nat), x])) h'' s.heap.objs.size (.tup [.int (i : Nat), x]) :=
      ⟨by show 2 ≤ sizeLine; decide, [.int i tk, x2], .cons ⟨_, rfl⟩ (.cons ru .nil), ⟨_, hT2, rfl, _, rfl⟩⟩
    have Iv1 : Inv X pins σ (upd H s.heap.objs.size (.tup [.int (i : Nat), x])) { s with heap := h'', toks := tk + 1 } :=
      Iv.turnedNew (ch := [en, iw]) (fun b ob hb q => (sb.2 b (fun z => hb (by simp [z]))).trans (hkp b ob (fun z => hb (by simp [z])) (fun z => hb (by simp [z])) q)) hff (Nat.le_refl _) newt
    refine ⟨.ref s.heap.objs.size, _, Iv1, rfl, ⟨_, x, rfl, Iv.hok.fresh (Nat.le_refl _), rfl, fun ys hy => by rw [Iv.tuple_inj hy hq]; exact hx⟩, ⟨⟨x2, ?_⟩, hstt'.1.at fun o q => (sb.2 iw (Ne.symm hne)).trans q, hne, hai, hea⟩, fun b hb => ?_⟩
    · have e1 : ((i + 1 : Nat) : Int) = (i : Int) + 1 := by omega
      rw [e1]; exact he'
    · have hb' : b < s.heap.objs.size := by
        have e' : b = en ∨ b = iw := by simpa using hb
        rcases e' with z | z <;> rw [z] <;> assumption
      rw [upd_ne (Nat.ne_of_lt hb')]
      exact (hff b hb).1
  done := by
    intro X hP hw hK hc i pins s σ H E Iv hff stt hg
    subst hP hw hK
    obtain ⟨⟨old, hen⟩, hit, hne, hai, hea⟩ := stt
    obtain ⟨xs, hq, hx⟩ := hg
    obtain ⟨its, rv, pt, hz⟩ := Iv.tuple hq
    obtain ⟨f0, f1, f2, f3, f4, f5⟩ := hff iw (by simp)
    have hlen := rv.length
    have hT0 : s.heap.IsTuple a its.toArray := pt
    exact enumT_end (Iv.ok.hd hc) hen hit hT0 (by simp; omega) fun h' eb => ⟨rfl, Iv.turned (t' := s.toks) (fun b o hb q => eb b o hb q) f0 f1 f3 f4 f5⟩
  self := fun A i s Q E stt h => let ⟨⟨_, hen⟩, _⟩ := stt; wpAny_pyIter_enum hen h
def iEnumT (K : PySem.W.Frag) (ta : TA) : TI := fun σ H R => ta σ H fun vs H1 => ∃ a xs, vs = [.ref a] ∧ SqT K H1 a xs ∧ R (IteT K a) H1
theorem pi_enumT {X : Cx} {e : Expr} {ta : TA} {p pos tpos : Pos} {elts : List Expr} {kk : Nat} (hg : Gl X "enumerate") (hm : X.mg "enumerate" = none) (ha : PA X [e] ta) (hs : starEach [e] X.env = [(false, eval e X.env)] := by rfl) :
    PI X (.Tuple elts kk tpos) (.Call (.Name "enumerate" p) [e] [] pos) (iEnumT X.K ta) := by
  refine ⟨fun pins s σ H R Iv h => ?_⟩
  refine Call_ (ld_blt Iv hg hm boot_enumerate (PyProof.Rows.callWith_type1 (thn (ha.run pos pins s σ H _ Iv h) fun us s1 ⟨vs, H1, Iv1, r1, q1⟩ => ?_) hs rfl))
  obtain ⟨a, xs, ex, hq, qq⟩ := q1
  subst ex
  cases r1 with
  | cons r rr =>
    cases rr
    cases r
    obtain ⟨its, rv, pt, hz⟩ := Iv1.tuple hq
    have hT0 : s1.heap.IsTuple a its.toArray := pt
    have hal : a < s1.heap.objs.size := by obtain ⟨o, ho, _⟩ := hT0; exact Heap.lt_size ho
    refine call_enumT hT0 fun h' hen hit hsz hkp => wpAny_pyIter_enum hen ?_
    have Iv2 : Inv X pins σ H1 { s1 with heap := h' } := Iv1.kept (t' := s1.toks) hkp
    refine ⟨s1.heap.objs.size + 1, [s1.heap.objs.size + 1, s1.heap.objs.size], _, _, H1, rfl, Iv2, turn_enumT a (s1.heap.objs.size + 1) s1.heap.objs.size, ⟨⟨.none, hen⟩, hit, Nat.succ_ne_self _, Nat.ne_of_lt hal, Nat.ne_of_gt (Nat.lt_succ_of_lt hal)⟩, fun b hb => ?_, qq⟩
    have hle2 : s1.heap.objs.size ≤ b := by
      have z : b = s1.heap.objs.size + 1 ∨ b = s1.heap.objs.size := by simpa using hb
      rcases z with z | z
      · rw [z]; exact Nat.le_succ _
      · rw [z]; exact Nat.le_refl _
    exact Iv1.fpOk hle2 (Iv1.hok.fresh hle2)
section
variable {α : Type} {e : Rep α} {K : PySem.W.Frag} {F H : Hp} {v : V} {xs : List α}
theorem src_enumT {R : It → Hp → Prop} (r : (pTL e).r F v xs) (f : Ex F H) (k : ∀ a, TWk (IteT K a) F (pT2 pN e) (enumT xs) → R (IteT K a) H) : ∃ a ws, [v] = [V.ref a] ∧ SqT K H a ws ∧ R (IteT K a) H := by
  obtain ⟨p, vs, rfl, hp, a⟩ := r
  refine ⟨p, vs, rfl, SqT.of (f _ _ hp), k p ?_⟩
  refine TWk.pairs (G := fun H => SqT K H p vs) (X := fun i => some (.int (i : Nat))) (Y := fun i => vs[i]?) ?_ (fun F' H' h1 h2 => SqT.of (h2 _ _ (h1 _ _ hp))) ?_ ?_
  · rw [enumT_len, ← a.len]
    refine ⟨fun i _ hi q => ⟨vs, vs[i], q, by simp [hi]⟩, fun _ q => ⟨vs, q, Nat.le_refl _⟩, fun i H v H' _ q y => ?_⟩
    obtain ⟨T, x, h1, h2, h3, h4⟩ := y
    exact ⟨T, .int (i : Nat), x, h1, h2, h3, rfl, h4 vs q⟩
  · intro i F' x _ hi hx
    rw [enumT_len] at hi
    rw [enumT_get, List.getElem?_eq_getElem hi]
    exact ⟨i, rfl, (Option.some.inj hx).symm⟩
  · intro i F' x h1 hi hx
    obtain ⟨z, hz, rz⟩ := a.got hx
    rw [enumT_get, hz]
    exact ⟨z, rfl, e.mono h1 rz⟩
/-- tuple(a list) -/
def rTupOf (K : PySem.W.Frag) : List V → Hp → VK → Prop := fun xs H Q => ∃ p ys, xs = [.ref p] ∧ ((SqL K H p ys ∧ ∀ l, H l = none → Q (.ref l) (upd H l (.tup ys))) ∨ (SqT K H p ys ∧ Q (.ref p) H))
theorem n_tupOf {F0 H0 : Hp} {Q : VK} (r : (pL e).r F v xs) (w : Wf F0 H0 F H) (k : ∀ p F' H', Wf F H F' H' → (pTL e).r F' (.ref p) xs → Q (.ref p) H') : rTupOf K [v] H Q := by
  obtain ⟨p, vs, rfl, hp, a⟩ := r
  exact ⟨p, vs, rfl, .inl ⟨SqL.of (w.f _ _ hp), fun l hl => k l _ _ (Wf.new w.f hl) ⟨l, vs, rfl, upd_same, a.mono (Ex.new (w.f.non hl))⟩⟩⟩
end
end Wk
namespace Wk
open PySem PySem.Spec PyProof.Rows L2
/-- a list or a tuple of things of one kind -/
def pSq {α : Type} (e : Rep α) : Rep (List α) := ⟨fun F v xs => ∃ p vs, v = .ref p ∧ (F p = some (.lst vs) ∨ F p = some (.tup vs)) ∧ All e F vs xs, fun h ⟨p, vs, a, b, c⟩ => ⟨p, vs, a, b.imp (h _ _) (h _ _), c.mono h⟩⟩
def iEnumA (K : PySem.W.Frag) (ta : TA) : TI := fun σ H R => ta σ H fun vs H1 => ∃ a xs, vs = [.ref a] ∧ ((SqL K H1 a xs ∧ R (Ite K a) H1) ∨ (SqT K H1 a xs ∧ R (IteT K a) H1))
theorem pi_enumA {X : Cx} {e : Expr} {ta : TA} {p pos tpos : Pos} {elts : List Expr} {kk : Nat} (hg : Gl X "enumerate") (hm : X.mg "enumerate" = none) (ha : PA X [e] ta) (hs : starEach [e] X.env = [(false, eval e X.env)] := by rfl) :
    PI X (.Tuple elts kk tpos) (.Call (.Name "enumerate" p) [e] [] pos) (iEnumA X.K ta) := by
  refine ⟨fun pins s σ H R Iv h => ?_⟩
  refine Call_ (ld_blt Iv hg hm boot_enumerate (PyProof.Rows.callWith_type1 (thn (ha.run pos pins s σ H _ Iv h) fun us s1 ⟨vs, H1, Iv1, r1, q1⟩ => ?_) hs rfl))
  obtain ⟨a, xs, ex, qq⟩ := q1
  subst ex
  cases r1 with
  | cons r rr =>
    cases rr
    cases r
    have hle3 : ∀ b ∈ [s1.heap.objs.size + 1, s1.heap.objs.size], FpOk X pins H1 b := fun b hb => by
      have hle2 : s1.heap.objs.size ≤ b := by
        have z : b = s1.heap.objs.size + 1 ∨ b = s1.heap.objs.size := by simpa using hb
        rcases z with z | z
        · rw [z]; exact Nat.le_succ _
        · rw [z]; exact Nat.le_refl _
      exact Iv1.fpOk hle2 (Iv1.hok.fresh hle2)
    rcases qq with ⟨hq, qq⟩ | ⟨hq, qq⟩
    · obtain ⟨its, rv, pt, hz⟩ := Iv1.list hq
      refine call_enumerate_list pt.isList fun h' hen hit hsz hkp => wpAny_pyIter_enum hen ?_
      have Iv2 : Inv X pins σ H1 { s1 with heap := h' } := Iv1.kept (t' := s1.toks) hkp
      exact ⟨s1.heap.objs.size + 1, [s1.heap.objs.size + 1, s1.heap.objs.size], _, _, H1, rfl, Iv2, turn_enum a (s1.heap.objs.size + 1) s1.heap.objs.size, ⟨⟨.none, hen⟩, hit, Nat.succ_ne_self _⟩, hle3, qq⟩
    · obtain ⟨its, rv, pt, hz⟩ := Iv1.tuple hq
      have hT0 : s1.heap.IsTuple a its.toArray := pt
      have hal : a < s1.heap.objs.size := by obtain ⟨o, ho, _⟩ := hT0; exact Heap.lt_size ho
      refine call_enumT hT0 fun h' hen hit hsz hkp => wpAny_pyIter_enum hen ?_
      have Iv2 : Inv X pins σ H1 { s1 with heap := h' } := Iv1.kept (t' := s1.toks) hkp
      exact ⟨s1.heap.objs.size + 1, [s1.heap.objs.size + 1, s1.heap.objs.size], _, _, H1, rfl, Iv2, turn_enumT a (s1.heap.objs.size + 1) s1.heap.objs.size, ⟨⟨.none, hen⟩, hit, Nat.succ_ne_self _, Nat.ne_of_lt hal, Nat.ne_of_gt (Nat.lt_succ_of_lt hal)⟩, hle3, qq⟩
section
variable {α : Type} {e : Rep α} {K : PySem.W.Frag} {F H : Hp} {v : V} {xs : List α}
theorem sq_L (r : (pL e).r F v xs) : (pSq e).r F v xs := let ⟨p, vs, a, b, c⟩ := r; ⟨p, vs, a, .inl b, c⟩
theorem sq_TL (r : (pTL e).r F v xs) : (pSq e).r F v xs := let ⟨p, vs, a, b, c⟩ := r; ⟨p, vs, a, .inr b, c⟩
theorem src_enumA {R : It → Hp → Prop} (r : (pSq e).r F v xs) (f : Ex F H) (k : ∀ J, TWk J F (pT2 pN e) (enumT xs) → R J H) : ∃ a ws, [v] = [V.ref a] ∧ ((SqL K H a ws ∧ R (Ite K a) H) ∨ (SqT K H a ws ∧ R (IteT K a) H)) := by
  obtain ⟨p, vs, rfl, hp, a⟩ := r
  rcases hp with hp | hp
  · obtain ⟨q, ws, e1, e2, e3⟩ := src_enum (K := K) (R := R) ⟨p, vs, rfl, hp, a⟩ f fun b T => k _ T
    exact ⟨q, ws, e1, .inl ⟨e2, e3⟩⟩
  · obtain ⟨q, ws, e1, e2, e3⟩ := src_enumT (K := K) (R := R) ⟨p, vs, rfl, hp, a⟩ f fun b T => k _ T
    exact ⟨q, ws, e1, .inr ⟨e2, e3⟩⟩
end
end Wk
namespace Wk
open PySem L2
/-- xs[i] = v -/
theorem a_lset {α : Type} {e : Rep α} {σ : L2.St} {F0 H0 F H : Hp} {p : Addr} {xs : List α} {y : α} {i : Nat} {v : V} {to ti : TE} {Q : L2.St → Hp → Prop} (x : XL e H0 F H p xs) (w : Wf F0 H0 F H) (hi : i < xs.length) (r : e.r F v y) (ho : Val to σ H (.ref p)) (hx : Val ti σ H (.int (i : Int)))
    (k : ∀ H', Wf F0 H0 F H' → XL e H0 F H' p (xs.set i y) → (∀ q o, H q = some o → q ≠ p → H' q = some o) → Q σ H') : gSub to ti rSetL v σ H Q := by
  obtain ⟨vs, a, b⟩ := x.x
  refine ho _ (hx _ ⟨p, vs, _, i, rfl, rfl, a.h, ?_, k _ (w.set a) ⟨_, a.set, b.set i r⟩ fun q o h hq => by rw [upd_ne hq]; exact h⟩)
  unfold ixN
  rw [if_pos (by omega), if_pos (by rw [b.len]; omega)]; rfl
theorem rcb1' {r : List V → Hp → VK → Prop} {x z : V} {H : Hp} {Q : VK} (h : Val (tCB r (tCons (tC x) tNil)) [] H z) (q : Q z H) : r [x] H Q := h Q q
end Wk
namespace Wk
open PySem L2
theorem kCpR_int {g : TG} {tc : TT} {te : TE} {vs : List Nat} {σ : L2.St} {Q : VK} {H : Hp} {j : Int} (h1 : -1000000 < j) (h : kCpR g tc te vs σ Q (.int ((j.toNat : Nat) : Int)) H) : kCpR g tc te vs σ Q (.int j) H := by
  obtain ⟨j', e, a, b, c⟩ := h
  have e' : ((j.toNat : Nat) : Int) = j' := V.int.inj (List.cons.inj e).1
  refine ⟨j, rfl, by omega, by omega, ?_⟩
  have : j'.toNat = j.toNat := by omega
  rw [← this]; exact c
end Wk
/-! Rc: rows of bits that go on by a rule. -/
namespace Wk
def dot (c : Nat) (f : Nat → Bool) : Nat → Bool
  | 0 => false
  | m + 1 => xor (dot c f m) (c.testBit m && f m)
theorem dot_congr {c : Nat} {f g : Nat → Bool} : ∀ {m : Nat}, (∀ j, j < m → f j = g j) → dot c f m = dot c g m
  | 0, _ => rfl
  | m + 1, h => by
    show xor (dot c f m) (c.testBit m && f m) = xor (dot c g m) (c.testBit m && g m)
    rw [dot_congr (m := m) fun j hj => h j (by omega), h m (by omega)]
theorem dot_false {c : Nat} : ∀ m : Nat, dot c (fun _ => false) m = false
  | 0 => rfl
  | m + 1 => by show xor (dot c _ m) (c.testBit m && false) = false; rw [dot_false m]; simp
theorem dot_xor {c : Nat} {f g : Nat → Bool} : ∀ m : Nat, dot c (fun i => xor (f i) (g i)) m = xor (dot c f m) (dot c g m)
  | 0 => rfl
  | m + 1 => by
    show xor (dot c _ m) (c.testBit m && xor (f m) (g m)) = xor (xor (dot c f m) (c.testBit m && f m)) (xor (dot c g m) (c.testBit m && g m))
    rw [dot_xor m]
    cases dot c f m <;> cases dot c g m <;> cases c.testBit m <;> cases f m <;> cases g m <;> rfl
theorem dot_and {c : Nat} {f : Nat → Bool} (b : Bool) : ∀ m : Nat, dot c (fun i => b && f i) m = (b && dot c f m)
  | 0 => by cases b <;> rfl
  | m + 1 => by
    show xor (dot c _ m) (c.testBit m && (b && f m)) = (b && xor (dot c f m) (c.testBit m && f m))
    rw [dot_and b m]
    cases b <;> cases dot c f m <;> cases c.testBit m <;> cases f m <;> rfl
theorem dot_swap {c d : Nat} {F : Nat → Nat → Bool} (p : Nat) : ∀ q : Nat, dot d (fun j => dot c (fun i => F j i) p) q = dot c (fun i => dot d (fun j => F j i) q) p
  | 0 => (dot_false p).symm
  | q + 1 => by
    show xor (dot d _ q) (d.testBit q && dot c (fun i => F q i) p) = dot c (fun i => xor (dot d (fun j => F j i) q) (d.testBit q && F q i)) p
    rw [dot_swap p q, dot_xor, dot_and]
/-- a rule that holds for ever, and one that holds long enough -/
theorem goes_on {a : Nat → Bool} {c d m0 m L : Nat} (h0 : ∀ t, a (t + m0) = dot c (fun i => a (t + i)) m0) (h : ∀ t, t < L → a (t + m) = dot d (fun j => a (t + j)) m) (hL : m0 ≤ L) : ∀ t, a (t + m) = dot d (fun j => a (t + j)) m := by
  intro t
  have e : xor (a (t + m)) (dot d (fun j => a (t + j)) m) = false := by
    induction t using Nat.strongRecOn with
    | ind t ih =>
      by_cases c1 : t < L
      · rw [h t c1]; simp
      · obtain ⟨u, rfl⟩ : ∃ u, t = u + m0 := ⟨t - m0, by omega⟩
        have e1 : a (u + m0 + m) = dot c (fun i => a (u + i + m)) m0 := by
          rw [show u + m0 + m = (u + m) + m0 by omega, h0]
          exact dot_congr fun i _ => by rw [show u + m + i = u + i + m by omega]
        have e2 : dot d (fun j => a (u + m0 + j)) m = dot c (fun i => dot d (fun j => a (u + i + j)) m) m0 := by
          rw [← dot_swap]
          refine dot_congr fun j _ => ?_
          rw [show u + m0 + j = (u + j) + m0 by omega, h0]
          exact dot_congr fun i _ => by rw [show u + j + i = u + i + j by omega]
        rw [e1, e2, ← dot_xor]
        by_cases z : m0 = 0
        · subst z; rfl
        · rw [← dot_false (c := c) m0]
          exact dot_congr fun i hi => ih (u + i) (by omega)
  revert e
  cases a (t + m) <;> cases dot d (fun j => a (t + j)) m <;> simp
theorem dot_and_l {c : Nat} {f : Nat → Bool} : ∀ {m : Nat}, (∀ j, m ≤ j → f j = false) → ∀ k, dot c f (m + k) = dot c f m
  | m, h, 0 => rfl
  | m, h, k + 1 => by
    show xor (dot c f (m + k)) (c.testBit (m + k) && f (m + k)) = _
    rw [h (m + k) (by omega), dot_and_l h k]; simp
/-- parity as a sum -/
theorem par_dot {s : Nat} : ∀ {m c : Nat}, c < 2 ^ m → par (c &&& s) = dot c s.testBit m
  | 0, c, h => by
    have : c = 0 := by simpa using h
    subst this; rw [Nat.zero_and, par_zero]; rfl
  | m + 1, c, h => by
    have hl : c % 2 ^ m < 2 ^ m := Nat.mod_lt _ (Nat.two_pow_pos m)
    have e : c = (c % 2 ^ m) ^^^ (if c.testBit m = true then 2 ^ m else 0) := Nat.eq_of_testBit_eq fun i => by
      rw [Nat.testBit_xor, Nat.testBit_mod_two_pow]
      by_cases q : c.testBit m = true
      · rw [if_pos q, Nat.testBit_two_pow]
        by_cases o : i = m
        · subst o; rw [q]; simp
        · by_cases o2 : i < m
          · rw [decide_eq_true o2, decide_eq_false (fun z => o z.symm)]; simp
          · rw [decide_eq_false o2, decide_eq_false (fun z => o z.symm), testBit_big h (by omega)]; rfl
      · rw [if_neg q, Nat.zero_testBit]
        by_cases o2 : i < m
        · rw [decide_eq_true o2]; simp
        · rw [decide_eq_false o2]
          by_cases o : i = m
          · subst o; simpa using q
          · rw [testBit_big h (by omega)]; rfl
    have ih := par_dot (s := s) hl
    have e3 : par (c &&& s) = xor (par ((c % 2 ^ m) &&& s)) (c.testBit m && s.testBit m) := by
      conv => lhs; rw [e]
      have ax : ∀ a b c : Nat, (a ^^^ b) &&& c = (a &&& c) ^^^ (b &&& c) := fun a b c => Nat.eq_of_testBit_eq fun i => by
        rw [Nat.testBit_and, Nat.testBit_xor, Nat.testBit_xor, Nat.testBit_and, Nat.testBit_and]
        cases a.testBit i <;> cases b.testBit i <;> cases c.testBit i <;> rfl
      rw [ax, par_xor]
      congr 1
      by_cases q : c.testBit m = true
      · rw [if_pos q, q]
        by_cases r : s.testBit m = true
        · have : 2 ^ m &&& s = 2 ^ m := Nat.eq_of_testBit_eq fun i => by
            rw [Nat.testBit_and, Nat.testBit_two_pow]
            by_cases o : m = i
            · subst o; rw [r]; simp
            · rw [decide_eq_false o]; rfl
          rw [this, par_two_pow, r]; rfl
        · have : 2 ^ m &&& s = 0 := Nat.eq_of_testBit_eq fun i => by
            rw [Nat.testBit_and, Nat.testBit_two_pow, Nat.zero_testBit]
            by_cases o : m = i
            · subst o; rw [decide_eq_true rfl]; simpa using r
            · rw [decide_eq_false o]; rfl
          rw [this, par_zero]; simpa using r
      · rw [if_neg q, Nat.zero_and, par_zero]
        have : c.testBit m = false := by simpa using q
        rw [this]; rfl
    rw [e3, ih]
    show xor (dot (c % 2 ^ m) s.testBit m) _ = xor (dot c s.testBit m) _
    congr 1
    have go : ∀ k, k ≤ m → dot (c % 2 ^ m) s.testBit k = dot c s.testBit k := by
      intro k
      induction k with
      | zero => exact fun _ => rfl
      | succ k ih2 =>
        intro hk
        show xor (dot _ _ k) ((c % 2 ^ m).testBit k && s.testBit k) = xor (dot _ _ k) (c.testBit k && s.testBit k)
        rw [ih2 (by omega), Nat.testBit_mod_two_pow, decide_eq_true (by omega), Bool.true_and]
    exact go m (Nat.le_refl _)
/-- of n + 1 masks below 2 ** n one is a sum of those ahead -/
theorem some_sum {n : Nat} {vs : List Nat} (hl : vs.length = n + 1) (hv : ∀ v ∈ vs, v < 2 ^ n) : ∃ j, j ≤ n ∧ Span (vs.take j) (vs.getD j 0) := by
  refine Classical.byContradiction fun hno => ?_
  have inj : ∀ S, S < 2 ^ (n + 1) → comb vs S = 0 → S = 0 := by
    intro S hS h0
    refine Classical.byContradiction fun z => ?_
    have hp := bits_pos z
    generalize hk : bits S - 1 = k at *
    have kb : S.testBit k = true := by rw [← hk]; exact bits_bit z
    have kn : k ≤ n := by have := bits_le.mpr hS; omega
    refine hno ⟨k, kn, S, ?_⟩
    have e1 : comb vs S = comb (vs.take (k + 1)) S := by
      have : ∀ (vs : List Nat) (k S : Nat), bits S ≤ k → comb vs S = comb (vs.take k) S := by
        intro vs
        induction vs with
        | nil => intro k S _; rw [List.take_nil]
        | cons v vs ih =>
          intro k S hb
          cases k with
          | zero =>
            have : S = 0 := bits_eq_zero.mp (by omega)
            subst this; rw [comb_zero]; rfl
          | succ k =>
            show (if S.testBit 0 = true then v else 0) ^^^ comb vs (S / 2) = (if S.testBit 0 = true then v else 0) ^^^ comb (vs.take k) (S / 2)
            rw [ih k (S / 2) (bits_le.mpr (by have := bits_le.mp hb; rw [Nat.pow_succ] at this; omega))]
      exact this vs (k + 1) S (by omega)
    have lt : k < vs.length := by omega
    have e2 : vs.take (k + 1) = vs.take k ++ [vs[k]] := List.take_succ_eq_append_getElem lt
    rw [e1, e2, comb_snoc, show (vs.take k).length = k by rw [List.length_take]; omega, if_pos kb] at h0
    rw [List.getD_eq_getElem?_getD, List.getElem?_eq_getElem lt]
    exact xor0 h0
  have nd : ((List.range (2 ^ (n + 1))).map (comb vs)).Nodup := by
    refine List.pairwise_map.mpr (List.Pairwise.imp_of_mem (fun {a b} ha hb hne e => hne ?_) List.nodup_range)
    have ha' := List.mem_range.mp ha
    have hb' := List.mem_range.mp hb
    exact xor0 (inj _ (Nat.xor_lt_two_pow ha' hb') (by rw [comb_xor, e, Nat.xor_self]))
  have := nodup_len (k := 2 ^ n) nd fun x hx => by
    obtain ⟨S, _, rfl⟩ := List.mem_map.mp hx
    exact comb_lt hv
  rw [List.length_map, List.length_range, Nat.pow_succ] at this
  have := Nat.two_pow_pos n
  omega
/-- parity of a sum of masks -/
theorem par_comb {s : Nat} : ∀ (vs : List Nat) (S : Nat), par (comb vs S &&& s) = dot S (fun j => par (vs.getD j 0 &&& s)) vs.length := by
  intro vs
  suffices h : ∀ k, k ≤ vs.length → ∀ S, par (comb (vs.take k) S &&& s) = dot S (fun j => par (vs.getD j 0 &&& s)) k by
    intro S
    have := h vs.length (Nat.le_refl _) S
    rwa [List.take_length] at this
  intro k
  induction k with
  | zero => intro _ S; show par (0 &&& s) = false; rw [Nat.zero_and, par_zero]
  | succ k ih =>
    intro hk S
    have e2 : vs.take (k + 1) = vs.take k ++ [vs[k]'(by omega)] := List.take_succ_eq_append_getElem (by omega)
    have el : (vs.take k).length = k := by rw [List.length_take]; omega
    have eg : vs.getD k 0 = vs[k]'(by omega) := by rw [List.getD_eq_getElem?_getD, List.getElem?_eq_getElem (by omega)]; rfl
    have ax : ∀ a b c : Nat, (a ^^^ b) &&& c = (a &&& c) ^^^ (b &&& c) := fun a b c => Nat.eq_of_testBit_eq fun i => by
      rw [Nat.testBit_and, Nat.testBit_xor, Nat.testBit_xor, Nat.testBit_and, Nat.testBit_and]
      cases a.testBit i <;> cases b.testBit i <;> cases c.testBit i <;> rfl
    rw [e2, comb_snoc, el, ax, par_xor, ih (by omega)]
    show _ = xor (dot S _ k) (S.testBit k && par (vs.getD k 0 &&& s))
    congr 1
    rw [eg]
    by_cases q : S.testBit k = true
    · rw [if_pos q, q]; simp
    · rw [if_neg q, Nat.zero_and, par_zero]
      have : S.testBit k = false := by simpa using q
      rw [this]; rfl
end Wk
namespace My
open PySem L2 Wk
def topS (i : Nat) : Stmt := PySem.Challenge.pw_sumwires_k79_orders.main.body.getD i (.Pass ⟨0, 0, 0, 0⟩)
structure Cz where
  BadMask : Addr
structure Tz (K : PySem.W.Frag) (mg : Str → Option Value) (cc : Cz) : Prop where
  xc_BadMask : XC K mg "BadMask" cc.BadMask
  gl_MOST_DEGREE : ∃ u, mg "MOST_DEGREE" = some u ∧ RelV (.int 16) u
  xm_BadMask_BadMask : PySem.W.exmOne K (.ref cc.BadMask) (.ref cc.BadMask) = some true
abbrev s_times : Stmt := topS 7
/-! times -/
def W_times (one1 : Nat) (other1 : Nat) (R : Nat → Prop) : Prop := whileW (fun (found1, one2, other2) T => T (decide (0 < other2))) (fun (found1, one2, other2) nx1 bk1 => ∀ found2 : Nat, found2 = (if (other2 &&& 1) = 1 then found1 ^^^ one2 else found1) → (NShl one2 1) ∧ ∀ one3 : Nat, one3 = one2 <<< 1 → ∀ other3 : Nat, other3 = other2 >>> 1 → nx1 (found2, one3, other3)) (0, one1, other1) fun (found1, one2, other2) => R found1
def sp_times (K : PySem.W.Frag) (cc : Cz) : Sp := fun vs H Q _ => ∃ (F : Hp) (one1 : Nat) (other1 : Nat) (R : Nat → Prop), vs = [(.int ((one1 : Nat) : Int)), (.int ((other1 : Nat) : Int))] ∧ Ex F H ∧ W_times one1 other1 R ∧ ∀ z, R z → ∀ F' H', Wf F H F' H' → Q (.int ((z : Nat) : Int)) H'
abbrev N_times : List Str := ["one", "other", "found"]
theorem sc_times : FnScope N_times ["one", "other"] (defScope s_times) := ⟨rfl, rfl, rfl, by decide +kernel, rfl, by decide +kernel, by decide +kernel⟩
theorem ok_times {P : Program} {w0 : World} {K : PySem.W.Frag} {mg : Str → Option Value} {base : Heap} {f : Addr} {fd : FuncData} {cc : Cz} (T : Tz K mg cc) (FU : Fun K "times" "times" s_times f fd) (hm : mg "times" = some (.ref f)) (hb : Binds K fd ["one", "other"] []) : Fn P w0 K mg base CX0 1 "times" ["one", "other"] (sp_times K cc) := by
  refine ⟨f, fd, FU.ok sc_times (fun vs H Q E h => ?_) (fun cdv A outer s H0 vs Q E hr h => ?_), hm, FU.kp, hb⟩
  · obtain ⟨_, _, _, _, rfl, _⟩ := h; rfl
  · obtain ⟨F0, one1, other1, R, rfl, wf, hW, hQ⟩ := h
    have nd := sc_times.nd
    refine ⟨(tSeq (tAsg (tC (.int 0)) (gName 2)) (tSeq (tWhile (tTest (tOp kGt (tVar 1) (tC (.int 0)))) (tSeq (tIfS (tTest (tOp L2.rEq (tOp kAnd (tVar 1) (tC (.int 1))) (tC (.int 1)))) (tAug 2 (tVar 0) kXor) tNext) (tSeq (tAug 0 (tC (.int 1)) kShl) (tAug 1 (tC (.int 1)) kShr)))) (tRet (tVar 2)))), (pss_cons (ps_set (i := 2) nd rfl (Or.inl rfl) pe_int) (pss_cons (ps_while PassesOwn.never (pt_cmpR op_gt (pv 1) pe_int (nomark _)) (pss_cons (ps_if (pt_cmpR op_eq (pe_op op_and (pv 1) pe_int) pe_int (nomark _)) (pss_one (ps_aug (i := 2) nd rfl (Or.inl rfl) (pv 0) iop_xor)) pss_nil) (pss_cons (ps_aug (i := 0) nd rfl (Or.inl rfl) pe_int iop_shlW) (pss_one (ps_aug (i := 1) nd rfl (Or.inl rfl) pe_int iop_shr))))) (pss_one (ps_ret (pv 2))))), ?_⟩
    have w := Wf.id wf
    refine q_sq fun N1 hN1 => ?_
    refine a_asg (v := (.int ((0 : Nat) : Int))) val_c ?_
    refine hN1 _ _ ?_
    refine q_sq fun N2 hN2 => ?_
    refine w_while (S := Nat × Nat × Nat) (fun s σ' F' H' => match s with | (found1, one2, other2) => Wf F0 H0 F' H' ∧ Ex F0 F' ∧ σ' = [some (.int ((one2 : Nat) : Int)), some (.int ((other2 : Nat) : Int)), some (.int ((found1 : Nat) : Int))]) hW ⟨w, Ex.rfl', rfl⟩ ?_ ?_ ?_
    · intro s1 σ' F1 H1 T1 Qc1 hI1 hW hT1
      obtain ⟨found1, one2, other2⟩ := s1
      obtain ⟨w, gx1, rfl⟩ := hI1
      refine e_ans (b := decide (0 < other2)) (t_of (vb_dec (c_gt (val_var rfl) val_c) n_lt)) ?_
      exact hT1 _ _ _ ⟨w, gx1, rfl⟩ hW
    · intro N3 Bk1 s2 σ' F2 H2 nx1 bk1 hI2 hW hN3 hB1
      obtain ⟨found1, one2, other2⟩ := s2
      obtain ⟨w, gx2, rfl⟩ := hI2
      refine q_sq fun N4 hN4 => ?_
      obtain ⟨found2, efound1⟩ : ∃ found2 : Nat, found2 = (if (other2 &&& 1) = 1 then found1 ^^^ one2 else found1) := ⟨_, rfl⟩
      replace hW := hW found2 efound1
      refine a_ifAug (pr := (other2 &&& 1) = 1) (x := (.int ((found1 : Nat) : Int))) (y := (.int ((one2 : Nat) : Int))) (v := (.int ((found2 : Nat) : Int))) (t_of (vb_dec (c_eqI (vn_and (val_var rfl) val_c) val_c) n_eq)) rfl (val_var rfl) (fun hq => v_eq (vn_xor val_c val_c) (by rw [efound1, if_pos hq])) (fun hq => by rw [efound1, if_neg hq]; rfl) ?_
      refine hN4 _ _ ?_
      refine q_sq fun N5 hN5 => ?_
      obtain ⟨c1, hW⟩ := hW
      obtain ⟨one3, eone1⟩ : ∃ one3 : Nat, one3 = one2 <<< 1 := ⟨_, rfl⟩
      replace hW := hW one3 eone1
      refine a_augV (x := (.int ((one2 : Nat) : Int))) (y := (.int ((1 : Nat) : Int))) (z := (.int ((one3 : Nat) : Int))) rfl val_c (v_eq (vn_shl val_c val_c c1) (by rw [eone1])) ?_
      refine hN5 _ _ ?_
      obtain ⟨other3, eother1⟩ : ∃ other3 : Nat, other3 = other2 >>> 1 := ⟨_, rfl⟩
      replace hW := hW other3 eother1
      refine a_augV (x := (.int ((other2 : Nat) : Int))) (y := (.int ((1 : Nat) : Int))) (z := (.int ((other3 : Nat) : Int))) rfl val_c (v_eq (vn_shr val_c val_c) (by rw [eother1])) ?_
      exact hN3 (found2, one3, other3) _ _ _ ⟨w, gx2, rfl⟩ hW
    · intro s3 σ' F3 H3 hI3 hW
      obtain ⟨found1, one2, other2⟩ := s3
      obtain ⟨w, gx3, rfl⟩ := hI3
      refine hN2 _ _ ?_
      refine a_ret (v := (.int ((found1 : Nat) : Int))) (val_var rfl) ?_
      exact hQ _ hW _ _ w
abbrev s_divided : Stmt := topS 8
/-! divided -/
def W_divided (one1 : Nat) (other1 : Nat) (E_BadMask : Prop) (R : (Nat × Nat) → Prop) : Prop := if other1 = 0 then (E_BadMask) else (whileW (fun (quotient1, one2) T => T (decide ((bits other1) ≤ (bits one2)))) (fun (quotient1, one2) nx1 bk1 => (bits other1 ≤ bits one2) ∧ ∀ shift1 : Nat, shift1 = (bits one2) - (bits other1) → (shift1 < 100000000) ∧ ∀ quotient2 : Nat, quotient2 = quotient1 ||| (2 ^ shift1) → (NShl other1 shift1) ∧ ∀ one3 : Nat, one3 = one2 ^^^ (other1 <<< shift1) → nx1 (quotient2, one3)) (0, one1) fun (quotient1, one2) => R (quotient1, one2))
def sp_divided (K : PySem.W.Frag) (cc : Cz) : Sp := fun vs H Q E => ∃ (F : Hp) (one1 : Nat) (other1 : Nat) (E_BadMask : Prop) (R : (Nat × Nat) → Prop), vs = [(.int ((one1 : Nat) : Int)), (.int ((other1 : Nat) : Int))] ∧ Ex F H ∧ W_divided one1 other1 E_BadMask R ∧ (E_BadMask → ∀ F' H', Wf F H F' H' → E (.ref cc.BadMask) none H') ∧ ∀ z, R z → ∀ v F' H', Wf F H F' H' → (pT2 pN pN).r F' v z → Q v H'
abbrev N_divided : List Str := ["one", "other", "quotient", "shift"]
theorem sc_divided : FnScope N_divided ["one", "other"] (defScope s_divided) := ⟨rfl, rfl, rfl, by decide +kernel, rfl, by decide +kernel, by decide +kernel⟩
theorem ok_divided {P : Program} {w0 : World} {K : PySem.W.Frag} {mg : Str → Option Value} {base : Heap} {f : Addr} {fd : FuncData} {cc : Cz} (T : Tz K mg cc) (FU : Fun K "divided" "divided" s_divided f fd) (hm : mg "divided" = some (.ref f)) (hb : Binds K fd ["one", "other"] []) : Fn P w0 K mg base (L2.CX P w0) 1 "divided" ["one", "other"] (sp_divided K cc) := by
  refine ⟨f, fd, FU.okX sc_divided (fun vs H Q E h => ?_) (fun cdv A outer s H0 vs Q E hr h => ?_), hm, FU.kp, hb⟩
  · obtain ⟨_, _, _, _, _, rfl, _⟩ := h; rfl
  · obtain ⟨F0, one1, other1, E_BadMask, R, rfl, wf, hW, hE_BadMask, hQ⟩ := h
    have nd := sc_divided.nd
    refine ⟨(tSeq (tIfS (tTest (tOp L2.rEq (tVar 1) (tC (.int 0)))) (tRaise (fun cls d _ H => E cls d H) cc.BadMask) tNext) (tSeq (tAsg (tC (.int 0)) (gName 2)) (tSeq (tWhile (tTest (tOp kGe (tBits (tVar 0)) (tBits (tVar 1)))) (tSeq (tAsg (tOp kSub (tBits (tVar 0)) (tBits (tVar 1))) (gName 3)) (tSeq (tAug 2 (tOp kShl (tC (.int 1)) (tVar 3)) kOr) (tAug 0 (tOp kShl (tVar 1) (tVar 3)) kXor)))) (tRet (tTup (tCons (tVar 2) (tCons (tVar 0) tNil))))))), (pss_cons (ps_if (pt_cmpR op_eq (pv 1) pe_int (nomark _)) (pss_one (ps_raise (W := (fun cls d _ H => E cls d H)) rfl (takes_of rfl rfl rfl rfl) (pmk_own PySem.F.excBase_ValueError T.xc_BadMask.x T.xc_BadMask.g T.xc_BadMask.k (raises_own T.xc_BadMask.b T.xc_BadMask.t) (by exact rfl)))) pss_nil) (pss_cons (ps_set (i := 2) nd rfl (Or.inl rfl) pe_int) (pss_cons (ps_while (passes_of rfl) (pt_cmpR op_ge (pe_bits (pv 0)) (pe_bits (pv 1)) (nomark _)) (pss_cons (ps_set (i := 3) nd rfl (Or.inl rfl) (pe_op op_sub (pe_bits (pv 0)) (pe_bits (pv 1)))) (pss_cons (ps_aug (i := 2) nd rfl (Or.inl rfl) (pe_op op_shlW pe_int (pv 3)) iop_or) (pss_one (ps_aug (i := 0) nd rfl (Or.inl rfl) (pe_op op_shlW (pv 1) (pv 3)) iop_xor))))) (pss_one (ps_ret (pe_tup (pa_cons (pv 2) (pa_cons (pv 0) pa_nil)))))))), ?_⟩
    have w := Wf.id wf
    refine q_sq fun N1 hN1 => ?_
    refine a_ifE ?_
    refine e_ans (b := decide (other1 = 0)) (t_of (vb_dec (c_eqI (val_var rfl) val_c) n_eq)) ?_
    refine b_if (fun hc1 => ?_) (fun hc1 => ?_)
    · have hW := ifP hW hc1
      refine a_raise ?_
      exact hE_BadMask hW _ _ w
    · have hW := ifN hW hc1
      refine hN1 _ _ ?_
      refine q_sq fun N2 hN2 => ?_
      refine a_asg (v := (.int ((0 : Nat) : Int))) val_c ?_
      refine hN2 _ _ ?_
      refine q_sq fun N3 hN3 => ?_
      refine w_while (S := Nat × Nat) (fun s σ' F' H' => match s with | (quotient1, one2) => ∃ (o1 : Option V), Wf F0 H0 F' H' ∧ Ex F0 F' ∧ σ' = [some (.int ((one2 : Nat) : Int)), some (.int ((other1 : Nat) : Int)), some (.int ((quotient1 : Nat) : Int)), o1]) hW ⟨_, w, Ex.rfl', rfl⟩ ?_ ?_ ?_
      · intro s1 σ' F1 H1 T1 Qc1 hI1 hW hT1
        obtain ⟨quotient1, one2⟩ := s1
        obtain ⟨o1, w, gx1, rfl⟩ := hI1
        refine e_ans (b := decide ((bits other1) ≤ (bits one2))) (t_of (vb_dec (c_ge (vn_bitl (val_var rfl)) (vn_bitl (val_var rfl))) n_le)) ?_
        exact hT1 _ _ _ ⟨_, w, gx1, rfl⟩ hW
      · intro N4 Bk1 s2 σ' F2 H2 nx1 bk1 hI2 hW hN4 hB1
        obtain ⟨quotient1, one2⟩ := s2
        obtain ⟨o1, w, gx2, rfl⟩ := hI2
        refine q_sq fun N5 hN5 => ?_
        obtain ⟨c1, hW⟩ := hW
        obtain ⟨shift1, eshift1⟩ : ∃ shift1 : Nat, shift1 = (bits one2) - (bits other1) := ⟨_, rfl⟩
        replace hW := hW shift1 eshift1
        refine a_asg (v := (.int ((shift1 : Nat) : Int))) (v_eq (vn_sub (vn_bitl (val_var rfl)) (vn_bitl (val_var rfl)) c1) (by rw [eshift1])) ?_
        refine hN5 _ _ ?_
        refine q_sq fun N6 hN6 => ?_
        obtain ⟨c2, hW⟩ := hW
        obtain ⟨quotient2, equotient1⟩ : ∃ quotient2 : Nat, quotient2 = quotient1 ||| (2 ^ shift1) := ⟨_, rfl⟩
        replace hW := hW quotient2 equotient1
        refine a_augV (x := (.int ((quotient1 : Nat) : Int))) (y := (.int ((2 ^ shift1 : Nat) : Int))) (z := (.int ((quotient2 : Nat) : Int))) rfl (vn_one val_c (val_var rfl) c2) (v_eq (vn_or val_c val_c) (by rw [equotient1])) ?_
        refine hN6 _ _ ?_
        obtain ⟨c3, hW⟩ := hW
        obtain ⟨one3, eone1⟩ : ∃ one3 : Nat, one3 = one2 ^^^ (other1 <<< shift1) := ⟨_, rfl⟩
        replace hW := hW one3 eone1
        refine a_augV (x := (.int ((one2 : Nat) : Int))) (y := (.int ((other1 <<< shift1 : Nat) : Int))) (z := (.int ((one3 : Nat) : Int))) rfl (vn_shl (val_var rfl) (val_var rfl) c3) (v_eq (vn_xor val_c val_c) (by rw [eone1])) ?_
        exact hN4 (quotient2, one3) _ _ _ ⟨_, w, gx2, rfl⟩ hW
      · intro s3 σ' F3 H3 hI3 hW
        obtain ⟨quotient1, one2⟩ := s3
        obtain ⟨o1, w, gx3, rfl⟩ := hI3
        refine hN3 _ _ ?_
        refine a_retE ?_
        refine e_tup ?_
        refine a_val (v := (.int ((quotient1 : Nat) : Int))) (val_var rfl) ?_
        refine a_val (v := (.int ((one2 : Nat) : Int))) (val_var rfl) ?_
        refine a_nil ?_
        refine n_tup2 (e := pN) (f := pN) (x := quotient1) (y := one2) rfl rfl w ?_
        intro p1 F4 H4 s4 r1
        replace w := w.tr s4
        replace gx3 := Ex.tr gx3 s4.g
        exact hQ _ hW _ _ _ w r1
abbrev s_is_whole : Stmt := topS 4
/-! is_whole -/
def W_is_whole (thing1 : An) (R : Bool → Prop) : Prop := R (decide (((isA "int" thing1) = true) ∧ (¬ ((isA "bool" thing1) = true))))
def sp_is_whole (K : PySem.W.Frag) (cc : Cz) : Sp := fun vs H Q _ => ∃ (F : Hp) (v1 : V) (thing1 : An) (R : Bool → Prop), vs = [v1] ∧ Ex F H ∧ pA.r F v1 thing1 ∧ W_is_whole thing1 R ∧ ∀ z, R z → ∀ F' H', Wf F H F' H' → Q (.bl (z)) H'
abbrev N_is_whole : List Str := ["thing"]
theorem sc_is_whole : FnScope N_is_whole ["thing"] (defScope s_is_whole) := ⟨rfl, rfl, rfl, by decide +kernel, rfl, by decide +kernel, by decide +kernel⟩
theorem ok_is_whole {P : Program} {w0 : World} {K : PySem.W.Frag} {mg : Str → Option Value} {base : Heap} {f : Addr} {fd : FuncData} {cc : Cz} (T : Tz K mg cc) (FU : Fun K "is_whole" "is_whole" s_is_whole f fd) (hm : mg "is_whole" = some (.ref f)) (hb : Binds K fd ["thing"] []) (n_bool : mg "bool" = none) (n_int : mg "int" = none) (n_isinstance : mg "isinstance" = none) : Fn P w0 K mg base CX0 1 "is_whole" ["thing"] (sp_is_whole K cc) := by
  refine ⟨f, fd, FU.ok sc_is_whole (fun vs H Q E h => ?_) (fun cdv A outer s H0 vs Q E hr h => ?_), hm, FU.kp, hb⟩
  · obtain ⟨_, _, _, _, rfl, _⟩ := h; rfl
  · obtain ⟨F0, v1, thing1, R, rfl, wf, r1, hW, hQ⟩ := h
    have nd := sc_is_whole.nd
    refine ⟨(tRet (tAndV (tCB (rIsi K) (tCons (tVar 0) (tCons (tC (.ty "int")) tNil))) (tNotV (tCB (rIsi K) (tCons (tVar 0) (tCons (tC (.ty "bool")) tNil)))))), (pss_one (ps_ret (pe_and (pe_callB call_isi (by rfl) n_isinstance PyProof.Rows.boot_isinstance (pa_cons (pv 0) (pa_cons (pe_bltn (v := .ty "int") (by rfl) n_int PyProof.Rows.boot_int rfl) pa_nil))) (pe_one (pe_not (pe_callB call_isi (by rfl) n_isinstance PyProof.Rows.boot_isinstance (pa_cons (pv 0) (pa_cons (pe_bltn (v := .ty "bool") (by rfl) n_bool PyProof.Rows.boot_bool rfl) pa_nil)))))))), ?_⟩
    have w := Wf.id wf
    refine a_ret (v := (.bl (decide (((isA "int" thing1) = true) ∧ (¬ ((isA "bool" thing1) = true)))))) (vt_and (vb_of (v_isiA "int" (val_var rfl) r1 w.f) dec_tt) (fun _ => (vt_not (vb_of (v_isiA "bool" (val_var rfl) r1 w.f) dec_tt)))) ?_
    exact hQ _ hW _ _ w
abbrev s_need_poly : Stmt := topS 9
/-! need_poly -/
def W_need_poly (thing1 : An) (least1 : Nat) (E_BadMask : Prop) (R : Unit → Prop) : Prop := jn (fun kk => W_is_whole thing1 fun z1 => if z1 = true then (∃ y1 : Int, thing1 = An.i y1 ∧ (16 + 1 < 100000000) ∧ kk (decide (¬ (((least1 : Nat) : Int) ≤ y1 ∧ y1 < ((2 ^ (16 + 1) : Nat) : Int))))) else (kk true)) fun b1 => if b1 = true then (E_BadMask) else (R ())
def sp_need_poly (K : PySem.W.Frag) (cc : Cz) : Sp := fun vs H Q E => ∃ (F : Hp) (v1 : V) (thing1 : An) (least1 : Nat) (E_BadMask : Prop) (R : Unit → Prop), vs = [v1, (.int ((least1 : Nat) : Int))] ∧ Ex F H ∧ pA.r F v1 thing1 ∧ W_need_poly thing1 least1 E_BadMask R ∧ (E_BadMask → ∀ F' H', Wf F H F' H' → E (.ref cc.BadMask) none H') ∧ ∀ z, R z → ∀ F' H', Wf F H F' H' → Q .non H'
abbrev N_need_poly : List Str := ["thing", "least"]
theorem sc_need_poly : FnScope N_need_poly ["thing", "least"] (defScope s_need_poly) := ⟨rfl, rfl, rfl, by decide +kernel, rfl, by decide +kernel, by decide +kernel⟩
theorem ok_need_poly {P : Program} {w0 : World} {K : PySem.W.Frag} {mg : Str → Option Value} {base : Heap} {f : Addr} {fd : FuncData} {cc : Cz} (T : Tz K mg cc) (FU : Fun K "need_poly" "need_poly" s_need_poly f fd) (hm : mg "need_poly" = some (.ref f)) (hb : Binds K fd ["thing", "least"] []) (c_is_whole : Fn P w0 K mg base CX0 1 "is_whole" ["thing"] (sp_is_whole K cc)) : Fn P w0 K mg base (L2.CX P w0) 2 "need_poly" ["thing", "least"] (sp_need_poly K cc) := by
  refine ⟨f, fd, FU.okX sc_need_poly (fun vs H Q E h => ?_) (fun cdv A outer s H0 vs Q E hr h => ?_), hm, FU.kp, hb⟩
  · obtain ⟨_, _, _, _, _, _, rfl, _⟩ := h; rfl
  · obtain ⟨F0, v1, thing1, least1, E_BadMask, R, rfl, wf, r1, hW, hE_BadMask, hQ⟩ := h
    have nd := sc_need_poly.nd
    refine ⟨(tIfS (tOr (tNot (tB (tCall (sp_is_whole K cc) [] E0 (tCons (tVar 0) tNil)))) (tNot (tTest (tChain kLe kLt (tVar 1) (tVar 0) (tOp kShl (tC (.int 1)) (tOp kAdd (tC (.int 16)) (tC (.int 1)))))))) (tRaise (fun cls d _ H => E cls d H) cc.BadMask) tNext), (pss_one (ps_if (PW.pt (pw_or (pt_not (pt_val (pe_fn c_is_whole (hr.mono (by decide)) rfl (pa_cons (pv 0) pa_nil)))) (pw_or1 (pt_not (pt_chain op_le op_lt (pv 1) (pv 0) (pe_op op_shlW pe_int (pe_op op_add (pe_globE T.gl_MOST_DEGREE rfl) pe_int))))))) (pss_one (ps_raise (W := (fun cls d _ H => E cls d H)) rfl (takes_of rfl rfl rfl rfl) (pmk_own PySem.F.excBase_ValueError T.xc_BadMask.x T.xc_BadMask.g T.xc_BadMask.k (raises_own T.xc_BadMask.b T.xc_BadMask.t) (by exact rfl)))) pss_nil)), ?_⟩
    have w := Wf.id wf
    refine a_ifE ?_
    refine e_jnT hW (fun b F' H' => b = b ∧ Wf F0 H0 F' H' ∧ Ex F0 F') ?_ ?_
    · intro N1 hN1 hW
      have gx1 : Ex F0 F0 := Ex.rfl'
      refine e_tOr ?_
      refine e_tNot ?_
      refine e_tB ?_
      refine e_call ?_
      refine a_val (v := v1) (val_var rfl) ?_
      refine a_nil ?_
      refine ⟨F0, (v1), (thing1), _, rfl, w.f, r1, hW, ?_⟩
      intro z1 hW F1 H1 s1
      replace r1 := Rep.mono _ s1.g r1
      replace w := w.tr s1
      replace gx1 := Ex.tr gx1 s1.g
      refine bl_v ?_
      refine bb_ifn (fun hc1 => ?_) (fun hc1 => ?_)
      · have hW := ifP hW hc1
        obtain ⟨y1, hy1, hW⟩ := hW
        have hv1 := an_i r1 hy1
        obtain ⟨c1, hW⟩ := hW
        refine e_ans (b := decide (¬ (((least1 : Nat) : Int) ≤ y1 ∧ y1 < ((2 ^ (16 + 1) : Nat) : Int)))) (t_not (t_of (vb_of (v_chain (b1 := decide (((least1 : Nat) : Int) ≤ y1)) (b2 := decide (y1 < ((2 ^ (16 + 1) : Nat) : Int))) (x := (.int ((least1 : Nat) : Int))) (y := (.int (y1))) (z := (.int ((2 ^ (16 + 1) : Nat) : Int))) (val_var rfl) (v_eq (val_var rfl) hv1) (vn_one val_c (vn_add val_c val_c) c1) (fun Q k => rv2 (c_le val_c val_c) k) (fun Q k => rv2 (c_lt val_c val_c) k)) dec_and))) ?_
        exact hN1 (decide (¬ (((least1 : Nat) : Int) ≤ y1 ∧ y1 < ((2 ^ (16 + 1) : Nat) : Int)))) _ _ ⟨rfl, w, gx1⟩ hW
      · have hW := ifN hW hc1
        exact hN1 true _ _ ⟨rfl, w, gx1⟩ hW
    intro b1 F2 H2 hI1 hW
    obtain ⟨_, w, gx2⟩ := hI1
    have r1 := Rep.mono _ gx2 r1
    refine bb_if (fun hc2 => ?_) (fun hc2 => ?_)
    · have hW := ifP hW hc2
      refine a_raise ?_
      exact hE_BadMask hW _ _ w
    · have hW := ifN hW hc2
      exact hQ _ hW _ _ w
abbrev s_factors : Stmt := topS 10
/-! factors -/
def W_factors (poly1 : An) (E_BadMask : Prop) (R : (List (Nat × Nat)) → Prop) : Prop := W_need_poly poly1 2 (E_BadMask) fun z1 => ∃ y1 : Nat, poly1 = An.i ((y1 : Nat) : Int) ∧ whileW (fun (one1, poly2, found1) T => T (decide (1 < poly2))) (fun (one1, poly2, found1) nx1 bk1 => ∀ one2 : Nat, one2 = (if ((bits poly2 : Nat) : Int) < (((2 * (bits one1) : Nat) : Int) - ((1 : Nat) : Int)) then poly2 else one1) → W_divided poly2 one2 (E_BadMask) fun z2 => whileW (fun (poly3, power1, quotient2, rest2) T => T (decide (rest2 = 0))) (fun (poly3, power1, quotient2, rest2) nx2 bk2 => ∀ power2 : Nat, power2 = power1 + 1 → W_divided quotient2 one2 (E_BadMask) fun z3 => nx2 (quotient2, power2, z3.1, z3.2)) (poly2, 0, z2.1, z2.2) fun (poly3, power1, quotient2, rest2) => jn (fun kk => if 0 < power1 then ((found1.length < 1000000) ∧ kk (found1 ++ [(one2, power1)])) else (kk found1)) fun found2 => ∀ one3 : Nat, one3 = one2 + 1 → nx1 (one3, poly3, found2)) (2, y1, ([] : List (Nat × Nat))) fun (one1, poly2, found1) => R found1
def sp_factors (K : PySem.W.Frag) (cc : Cz) : Sp := fun vs H Q E => ∃ (F : Hp) (v1 : V) (poly1 : An) (E_BadMask : Prop) (R : (List (Nat × Nat)) → Prop), vs = [v1] ∧ Ex F H ∧ pA.r F v1 poly1 ∧ W_factors poly1 E_BadMask R ∧ (E_BadMask → ∀ F' H', Wf F H F' H' → E (.ref cc.BadMask) none H') ∧ ∀ z, R z → ∀ p F' H', Wf F H F' H' → XL (pT2 pN pN) H F' H' p z → Q (.ref p) H'
abbrev N_factors : List Str := ["poly", "found", "one", "power", "quotient", "rest"]
theorem sc_factors : FnScope N_factors ["poly"] (defScope s_factors) := ⟨rfl, rfl, rfl, by decide +kernel, rfl, by decide +kernel, by decide +kernel⟩
theorem ok_factors {P : Program} {w0 : World} {K : PySem.W.Frag} {mg : Str → Option Value} {base : Heap} {f : Addr} {fd : FuncData} {cc : Cz} (T : Tz K mg cc) (FU : Fun K "factors" "factors" s_factors f fd) (hm : mg "factors" = some (.ref f)) (hb : Binds K fd ["poly"] []) (c_need_poly : Fn P w0 K mg base (L2.CX P w0) 2 "need_poly" ["thing", "least"] (sp_need_poly K cc)) (c_divided : Fn P w0 K mg base (L2.CX P w0) 1 "divided" ["one", "other"] (sp_divided K cc)) : Fn P w0 K mg base (L2.CX P w0) 3 "factors" ["poly"] (sp_factors K cc) := by
  refine ⟨f, fd, FU.okX sc_factors (fun vs H Q E h => ?_) (fun cdv A outer s H0 vs Q E hr h => ?_), hm, FU.kp, hb⟩
  · obtain ⟨_, _, _, _, _, rfl, _⟩ := h; rfl
  · obtain ⟨F0, v1, poly1, E_BadMask, R, rfl, wf, r1, hW, hE_BadMask, hQ⟩ := h
    have nd := sc_factors.nd
    refine ⟨(tSeq (tDrop (tCallS (sp_need_poly K cc) (WE (fun cls d _ H => E cls d H)) (tCons (tVar 0) (tCons (tC (.int 2)) tNil)))) (tSeq (tAsg (tLst tNil) (gName 1)) (tSeq (tAsg (tC (.int 2)) (gName 2)) (tSeq (tWhile (tTest (tOp kGt (tVar 0) (tC (.int 1)))) (tSeq (tIfS (tTest (tOp kGt (tOp kSub (tOp kMul (tC (.int 2)) (tBits (tVar 2))) (tC (.int 1))) (tBits (tVar 0)))) (tAsg (tVar 0) (gName 2)) tNext) (tSeq (tAsg (tC (.int 0)) (gName 3)) (tSeq (tAsg (tCallS (sp_divided K cc) (WE (fun cls d _ H => E cls d H)) (tCons (tVar 0) (tCons (tVar 2) tNil))) (gTup K 2 (gCons (gName 4) (gCons (gName 5) gNil)))) (tSeq (tWhile (tTest (tOp L2.rEq (tVar 5) (tC (.int 0)))) (tSeq (tAsg (tVar 4) (gName 0)) (tSeq (tAug 3 (tC (.int 1)) kAdd) (tAsg (tCallS (sp_divided K cc) (WE (fun cls d _ H => E cls d H)) (tCons (tVar 0) (tCons (tVar 2) tNil))) (gTup K 2 (gCons (gName 4) (gCons (gName 5) gNil))))))) (tSeq (tIfS (tTest (tOp kGt (tVar 3) (tC (.int 0)))) (tDrop (tBM K "list" rAppend (tVar 1) (tCons (tTup (tCons (tVar 2) (tCons (tVar 3) tNil))) tNil))) tNext) (tAug 2 (tC (.int 1)) kAdd))))))) (tRet (tVar 1)))))), (pss_cons (ps_expr (pe_fnS (W := (fun cls d _ H => E cls d H)) c_need_poly (takes_of rfl rfl rfl rfl) (hr.mono (by decide)) rfl (pa_cons (pv 0) (pa_cons pe_int pa_nil)))) (pss_cons (ps_set (i := 1) nd rfl (Or.inl rfl) (pe_lst pa_nil)) (pss_cons (ps_set (i := 2) nd rfl (Or.inl rfl) pe_int) (pss_cons (ps_while (passes_of rfl) (pt_cmpR op_gt (pv 0) pe_int (nomark _)) (pss_cons (ps_if (pt_cmpR op_gt (pe_op op_sub (pe_op op_mul pe_int (pe_bits (pv 2))) pe_int) (pe_bits (pv 0)) (nomark _)) (pss_one (ps_set (i := 2) nd rfl (Or.inl rfl) (pv 0))) pss_nil) (pss_cons (ps_set (i := 3) nd rfl (Or.inl rfl) pe_int) (pss_cons (ps_asg (pe_fnS (W := (fun cls d _ H => E cls d H)) c_divided (takes_of rfl rfl rfl rfl) (hr.mono (by decide)) rfl (pa_cons (pv 0) (pa_cons (pv 2) pa_nil))) (pg_tup rfl (pgs_cons (pg_name (i := 4) nd rfl (Or.inl rfl)) (pgs_cons (pg_name (i := 5) nd rfl (Or.inl rfl)) pgs_nil)) (by rfl))) (pss_cons (ps_while (passes_of rfl) (pt_cmpR op_eq (pv 5) pe_int (nomark _)) (pss_cons (ps_set (i := 0) nd rfl (Or.inl rfl) (pv 4)) (pss_cons (ps_aug (i := 3) nd rfl (Or.inl rfl) pe_int iop_add) (pss_one (ps_asg (pe_fnS (W := (fun cls d _ H => E cls d H)) c_divided (takes_of rfl rfl rfl rfl) (hr.mono (by decide)) rfl (pa_cons (pv 0) (pa_cons (pv 2) pa_nil))) (pg_tup rfl (pgs_cons (pg_name (i := 4) nd rfl (Or.inl rfl)) (pgs_cons (pg_name (i := 5) nd rfl (Or.inl rfl)) pgs_nil)) (by rfl))))))) (pss_cons (ps_if (pt_cmpR op_gt (pv 3) pe_int (nomark _)) (pss_one (ps_expr (pe_bm PySem.F.plainAttrs_list PySem.F.slot_list_append PySem.F.type_list_append mt_append (pv 1) (pa_cons (pe_tup (pa_cons (pv 2) (pa_cons (pv 3) pa_nil))) pa_nil)))) pss_nil) (pss_one (ps_aug (i := 2) nd rfl (Or.inl rfl) pe_int iop_add)))))))) (pss_one (ps_ret (pv 1))))))), ?_⟩
    have w := Wf.id wf
    refine q_sq fun N1 hN1 => ?_
    refine a_dropE ?_
    refine e_callS ?_
    refine a_val (v := v1) (val_var rfl) ?_
    refine a_val (v := (.int ((2 : Nat) : Int))) val_c ?_
    refine a_nil ?_
    refine ⟨F0, (v1), (poly1), (2), _, _, rfl, w.f, r1, hW, ?_, ?_⟩
    · intro hW F1 H1 s1
      replace r1 := Rep.mono _ s1.g r1
      replace w := w.tr s1
      exact hE_BadMask hW _ _ w
    intro z1 hW F2 H2 s2
    replace r1 := Rep.mono _ s2.g r1
    replace w := w.tr s2
    refine hN1 _ _ ?_
    refine q_sq fun N2 hN2 => ?_
    refine a_asgE ?_
    refine e_lst ?_
    refine a_nil ?_
    refine n_lstX (e := (pT2 pN pN)) (xs := []) (vs := []) (show All (pT2 pN pN) _ [] [] from trivial) (show 0 < 1000000 from by decide) w ?_
    intro p1 H3 hp1 s3 x1
    replace r1 := Rep.mono _ s3.g r1
    replace w := w.tr s3
    refine hN2 _ _ ?_
    refine q_sq fun N3 hN3 => ?_
    refine a_asg (v := (.int ((2 : Nat) : Int))) val_c ?_
    refine hN3 _ _ ?_
    refine q_sq fun N4 hN4 => ?_
    obtain ⟨y1, hy1, hW⟩ := hW
    obtain rfl : v1 = .int ((y1 : Nat) : Int) := an_i r1 hy1
    refine w_while (S := Nat × Nat × List (Nat × Nat)) (fun s σ' F' H' => match s with | (one1, poly2, found1) => ∃ (o1 : Option V) (o2 : Option V) (o3 : Option V), Wf F0 H0 F' H' ∧ Ex F2 F' ∧ σ' = [some (.int ((poly2 : Nat) : Int)), some ((.ref p1)), some (.int ((one1 : Nat) : Int)), o1, o2, o3] ∧ XL (pT2 pN pN) H0 F' H' p1 found1) hW ⟨_, _, _, w, Ex.rfl', rfl, x1⟩ ?_ ?_ ?_
    · intro s4 σ' F3 H4 T1 Qc1 hI1 hW hT1
      obtain ⟨one1, poly2, found1⟩ := s4
      obtain ⟨o1, o2, o3, w, gx1, rfl, x2⟩ := hI1
      refine e_ans (b := decide (1 < poly2)) (t_of (vb_dec (c_gt (val_var rfl) val_c) n_lt)) ?_
      exact hT1 _ _ _ ⟨_, _, _, w, gx1, rfl, x2⟩ hW
    · intro N5 Bk1 s5 σ' F4 H5 nx1 bk1 hI2 hW hN5 hB1
      obtain ⟨one1, poly2, found1⟩ := s5
      obtain ⟨o1, o2, o3, w, gx2, rfl, x2⟩ := hI2
      refine q_sq fun N6 hN6 => ?_
      obtain ⟨one2, eone1⟩ : ∃ one2 : Nat, one2 = (if ((bits poly2 : Nat) : Int) < (((2 * (bits one1) : Nat) : Int) - ((1 : Nat) : Int)) then poly2 else one1) := ⟨_, rfl⟩
      replace hW := hW one2 eone1
      refine a_ifAsg (pr := ((bits poly2 : Nat) : Int) < (((2 * (bits one1) : Nat) : Int) - ((1 : Nat) : Int))) (v := (.int ((one2 : Nat) : Int))) (t_of (c_gt (vi0 (vn_mul val_c (vn_bitl (val_var rfl)) (.inl (by decide))) val_c) (vn_bitl (val_var rfl)))) (fun hq => v_eq (val_var rfl) (by rw [eone1, if_pos hq])) (fun hq => by rw [eone1, if_neg hq]; rfl) ?_
      refine hN6 _ _ ?_
      refine q_sq fun N7 hN7 => ?_
      refine a_asg (v := (.int ((0 : Nat) : Int))) val_c ?_
      refine hN7 _ _ ?_
      refine q_sq fun N8 hN8 => ?_
      refine a_asgG ?_
      refine e_callS ?_
      refine a_val (v := (.int ((poly2 : Nat) : Int))) (val_var rfl) ?_
      refine a_val (v := (.int ((one2 : Nat) : Int))) (val_var rfl) ?_
      refine a_nil ?_
      refine ⟨F4, (poly2), (one2), _, _, rfl, w.f, hW, ?_, ?_⟩
      · intro hW F5 H6 s6
        replace x2 := x2.step s6
        replace w := w.tr s6
        replace gx2 := Ex.tr gx2 s6.g
        exact hE_BadMask hW _ _ w
      intro z2 hW v2 F6 H7 s7 r2
      replace x2 := x2.step s7
      replace w := w.tr s7
      replace gx2 := Ex.tr gx2 s7.g
      obtain ⟨p2, u1, u2, rfl, h1, rfl, rfl⟩ := r2
      refine ⟨p2, _, rfl, SqT.of (w.f _ _ h1), rfl, _, _, rfl, _, _, rfl, rfl, ?_⟩
      refine hN8 _ _ ?_
      refine q_sq fun N9 hN9 => ?_
      refine w_while (S := Nat × Nat × Nat × Nat) (fun s σ' F' H' => match s with | (poly3, power1, quotient2, rest2) => Wf F0 H0 F' H' ∧ Ex F6 F' ∧ σ' = [some (.int ((poly3 : Nat) : Int)), some (.ref p1), some (.int ((one2 : Nat) : Int)), some (.int ((power1 : Nat) : Int)), some (.int ((quotient2 : Nat) : Int)), some (.int ((rest2 : Nat) : Int))] ∧ XL (pT2 pN pN) H0 F' H' p1 found1) hW ⟨w, Ex.rfl', rfl, x2⟩ ?_ ?_ ?_
      · intro s8 σ' F7 H8 T2 Qc2 hI3 hW hT2
        obtain ⟨poly3, power1, quotient2, rest2⟩ := s8
        obtain ⟨w, gx3, rfl, x3⟩ := hI3
        have gx2 := Ex.tr gx2 gx3
        refine e_ans (b := decide (rest2 = 0)) (t_of (vb_dec (c_eqI (val_var rfl) val_c) n_eq)) ?_
        exact hT2 _ _ _ ⟨w, gx3, rfl, x3⟩ hW
      · intro N10 Bk2 s9 σ' F8 H9 nx2 bk2 hI4 hW hN10 hB2
        obtain ⟨poly3, power1, quotient2, rest2⟩ := s9
        obtain ⟨w, gx4, rfl, x3⟩ := hI4
        have gx2 := Ex.tr gx2 gx4
        refine q_sq fun N11 hN11 => ?_
        refine a_asg (v := (.int ((quotient2 : Nat) : Int))) (val_var rfl) ?_
        refine hN11 _ _ ?_
        refine q_sq fun N12 hN12 => ?_
        obtain ⟨power2, epower1⟩ : ∃ power2 : Nat, power2 = power1 + 1 := ⟨_, rfl⟩
        replace hW := hW power2 epower1
        refine a_augV (x := (.int ((power1 : Nat) : Int))) (y := (.int ((1 : Nat) : Int))) (z := (.int ((power2 : Nat) : Int))) rfl val_c (v_eq (vn_add val_c val_c) (by rw [epower1])) ?_
        refine hN12 _ _ ?_
        refine a_asgG ?_
        refine e_callS ?_
        refine a_val (v := (.int ((quotient2 : Nat) : Int))) (val_var rfl) ?_
        refine a_val (v := (.int ((one2 : Nat) : Int))) (val_var rfl) ?_
        refine a_nil ?_
        refine ⟨F8, (quotient2), (one2), _, _, rfl, w.f, hW, ?_, ?_⟩
        · intro hW F9 H10 s10
          replace x3 := x3.step s10
          replace w := w.tr s10
          replace gx4 := Ex.tr gx4 s10.g
          replace gx2 := Ex.tr gx2 s10.g
          exact hE_BadMask hW _ _ w
        intro z3 hW v3 F10 H11 s11 r3
        replace x3 := x3.step s11
        replace w := w.tr s11
        replace gx4 := Ex.tr gx4 s11.g
        replace gx2 := Ex.tr gx2 s11.g
        obtain ⟨p3, u3, u4, rfl, h2, rfl, rfl⟩ := r3
        refine ⟨p3, _, rfl, SqT.of (w.f _ _ h2), rfl, _, _, rfl, _, _, rfl, rfl, ?_⟩
        exact hN10 (quotient2, power2, z3.1, z3.2) _ _ _ ⟨w, gx4, rfl, x3⟩ hW
      · intro s12 σ' F11 H12 hI5 hW
        obtain ⟨poly3, power1, quotient2, rest2⟩ := s12
        obtain ⟨w, gx5, rfl, x3⟩ := hI5
        have gx2 := Ex.tr gx2 gx5
        refine hN9 _ _ ?_
        refine q_jn (S := List (Nat × Nat)) hW (fun found2 σ' F' H' => Wf F0 H0 F' H' ∧ Ex F11 F' ∧ σ' = [some (.int ((poly3 : Nat) : Int)), some ((.ref p1)), some (.int ((one2 : Nat) : Int)), some (.int ((power1 : Nat) : Int)), some (.int ((quotient2 : Nat) : Int)), some (.int ((rest2 : Nat) : Int))] ∧ XL (pT2 pN pN) H0 F' H' p1 found2) ?_ ?_
        · intro N13 hN13 hW
          have gx6 : Ex F11 F11 := Ex.rfl'
          refine a_ifE ?_
          refine e_ans (b := decide (0 < power1)) (t_of (vb_dec (c_gt (val_var rfl) val_c) n_lt)) ?_
          refine b_if (fun hc1 => ?_) (fun hc1 => ?_)
          · have hW := ifP hW hc1
            refine a_dropE ?_
            refine m_list x3 (val_var rfl) ?_
            refine a_cons ?_
            refine e_tup ?_
            refine a_val (v := (.int ((one2 : Nat) : Int))) (val_var rfl) ?_
            refine a_val (v := (.int ((power1 : Nat) : Int))) (val_var rfl) ?_
            refine a_nil ?_
            refine n_tup2 (e := pN) (f := pN) (x := one2) (y := power1) rfl rfl w ?_
            intro p4 F12 H13 s13 r4
            replace x3 := x3.step s13
            replace w := w.tr s13
            replace gx6 := Ex.tr gx6 s13.g
            replace gx5 := Ex.tr gx5 s13.g
            replace gx2 := Ex.tr gx2 s13.g
            refine a_nil ?_
            obtain ⟨c1, hW⟩ := hW
            refine a_app x3 w c1 r4 (fun H14 w1 x5 kp1 => ?_)
            replace w := w1
            exact hN13 (found1 ++ [(one2, power1)]) _ _ _ ⟨w, gx6, rfl, x5⟩ hW
          · have hW := ifN hW hc1
            exact hN13 found1 _ _ _ ⟨w, gx6, rfl, x3⟩ hW
        · intro found2 σ' F13 H15 hI6 hW
          obtain ⟨w, gx7, rfl, x4⟩ := hI6
          have gx5 := Ex.tr gx5 gx7
          have gx2 := Ex.tr gx2 gx7
          obtain ⟨one3, eone2⟩ : ∃ one3 : Nat, one3 = one2 + 1 := ⟨_, rfl⟩
          replace hW := hW one3 eone2
          refine a_augV (x := (.int ((one2 : Nat) : Int))) (y := (.int ((1 : Nat) : Int))) (z := (.int ((one3 : Nat) : Int))) rfl val_c (v_eq (vn_add val_c val_c) (by rw [eone2])) ?_
          exact hN5 (one3, poly3, found2) _ _ _ ⟨_, _, _, w, gx2, rfl, x4⟩ hW
    · intro s15 σ' F14 H16 hI7 hW
      obtain ⟨one1, poly2, found1⟩ := s15
      obtain ⟨o1, o2, o3, w, gx8, rfl, x2⟩ := hI7
      refine hN4 _ _ ?_
      refine a_ret (v := (.ref p1)) (val_var rfl) ?_
      exact hQ _ hW _ _ _ w x2
abbrev s_power_left : Stmt := topS 11
/-! power_left -/
def W_power_left (exponent1 : Nat) (poly1 : Nat) (R : Nat → Prop) : Prop := W_divided 1 poly1 False fun z1 => W_divided 2 poly1 False fun z2 => whileW (fun (found1, square1, exponent2) T => T (decide (0 < exponent2))) (fun (found1, square1, exponent2) nx1 bk1 => jn (fun kk => if (exponent2 &&& 1) = 1 then (W_times found1 square1 fun z3 => W_divided z3 poly1 False fun z4 => kk z4.2) else (kk found1)) fun found2 => W_times square1 square1 fun z5 => W_divided z5 poly1 False fun z6 => ∀ exponent3 : Nat, exponent3 = exponent2 >>> 1 → nx1 (found2, z6.2, exponent3)) (z1.2, z2.2, exponent1) fun (found1, square1, exponent2) => R found1
def sp_power_left (K : PySem.W.Frag) (cc : Cz) : Sp := fun vs H Q _ => ∃ (F : Hp) (exponent1 : Nat) (poly1 : Nat) (R : Nat → Prop), vs = [(.int ((exponent1 : Nat) : Int)), (.int ((poly1 : Nat) : Int))] ∧ Ex F H ∧ W_power_left exponent1 poly1 R ∧ ∀ z, R z → ∀ F' H', Wf F H F' H' → Q (.int ((z : Nat) : Int)) H'
abbrev N_power_left : List Str := ["exponent", "poly", "found", "square"]
theorem sc_power_left : FnScope N_power_left ["exponent", "poly"] (defScope s_power_left) := ⟨rfl, rfl, rfl, by decide +kernel, rfl, by decide +kernel, by decide +kernel⟩
theorem ok_power_left {P : Program} {w0 : World} {K : PySem.W.Frag} {mg : Str → Option Value} {base : Heap} {f : Addr} {fd : FuncData} {cc : Cz} (T : Tz K mg cc) (FU : Fun K "power_left" "power_left" s_power_left f fd) (hm : mg "power_left" = some (.ref f)) (hb : Binds K fd ["exponent", "poly"] []) (c_divided : Fn P w0 K mg base (L2.CX P w0) 1 "divided" ["one", "other"] (sp_divided K cc)) (c_times : Fn P w0 K mg base CX0 1 "times" ["one", "other"] (sp_times K cc)) : Fn P w0 K mg base CX0 2 "power_left" ["exponent", "poly"] (sp_power_left K cc) := by
  refine ⟨f, fd, FU.ok sc_power_left (fun vs H Q E h => ?_) (fun cdv A outer s H0 vs Q E hr h => ?_), hm, FU.kp, hb⟩
  · obtain ⟨_, _, _, _, rfl, _⟩ := h; rfl
  · obtain ⟨F0, exponent1, poly1, R, rfl, wf, hW, hQ⟩ := h
    have nd := sc_power_left.nd
    refine ⟨(tSeq (tAsg (tOp (L2.rIxT K) (tCall (sp_divided K cc) [] E0 (tCons (tC (.int 1)) (tCons (tVar 1) tNil))) (tC (.int 1))) (gName 2)) (tSeq (tAsg (tOp (L2.rIxT K) (tCall (sp_divided K cc) [] E0 (tCons (tC (.int 2)) (tCons (tVar 1) tNil))) (tC (.int 1))) (gName 3)) (tSeq (tWhile (tTest (tOp kGt (tVar 0) (tC (.int 0)))) (tSeq (tIfS (tTest (tOp L2.rEq (tOp kAnd (tVar 0) (tC (.int 1))) (tC (.int 1)))) (tAsg (tOp (L2.rIxT K) (tCall (sp_divided K cc) [] E0 (tCons (tCall (sp_times K cc) [] E0 (tCons (tVar 2) (tCons (tVar 3) tNil))) (tCons (tVar 1) tNil))) (tC (.int 1))) (gName 2)) tNext) (tSeq (tAsg (tOp (L2.rIxT K) (tCall (sp_divided K cc) [] E0 (tCons (tCall (sp_times K cc) [] E0 (tCons (tVar 3) (tCons (tVar 3) tNil))) (tCons (tVar 1) tNil))) (tC (.int 1))) (gName 3)) (tAug 0 (tC (.int 1)) kShr)))) (tRet (tVar 2))))), (pss_cons (ps_set (i := 2) nd rfl (Or.inl rfl) (pe_ix ix_tup (pe_fnL c_divided (hr.mono (by decide)) rfl (pa_cons pe_int (pa_cons (pv 1) pa_nil))) pe_int (fun _ _ => rfl))) (pss_cons (ps_set (i := 3) nd rfl (Or.inl rfl) (pe_ix ix_tup (pe_fnL c_divided (hr.mono (by decide)) rfl (pa_cons pe_int (pa_cons (pv 1) pa_nil))) pe_int (fun _ _ => rfl))) (pss_cons (ps_while PassesOwn.never (pt_cmpR op_gt (pv 0) pe_int (nomark _)) (pss_cons (ps_if (pt_cmpR op_eq (pe_op op_and (pv 0) pe_int) pe_int (nomark _)) (pss_one (ps_set (i := 2) nd rfl (Or.inl rfl) (pe_ix ix_tup (pe_fnL c_divided (hr.mono (by decide)) rfl (pa_cons (pe_fn c_times (hr.mono (by decide)) rfl (pa_cons (pv 2) (pa_cons (pv 3) pa_nil))) (pa_cons (pv 1) pa_nil))) pe_int (fun _ _ => rfl)))) pss_nil) (pss_cons (ps_set (i := 3) nd rfl (Or.inl rfl) (pe_ix ix_tup (pe_fnL c_divided (hr.mono (by decide)) rfl (pa_cons (pe_fn c_times (hr.mono (by decide)) rfl (pa_cons (pv 3) (pa_cons (pv 3) pa_nil))) (pa_cons (pv 1) pa_nil))) pe_int (fun _ _ => rfl))) (pss_one (ps_aug (i := 0) nd rfl (Or.inl rfl) pe_int iop_shr))))) (pss_one (ps_ret (pv 2)))))), ?_⟩
    have w := Wf.id wf
    refine q_sq fun N1 hN1 => ?_
    refine a_asgE ?_
    refine e_op ?_
    refine e_call ?_
    refine a_val (v := (.int ((1 : Nat) : Int))) val_c ?_
    refine a_val (v := (.int ((poly1 : Nat) : Int))) (val_var rfl) ?_
    refine a_nil ?_
    refine ⟨F0, (1), (poly1), _, _, rfl, w.f, hW, ?_, ?_⟩
    · intro hW; exact hW.elim
    intro z1 hW v1 F1 H1 s1 r1
    replace w := w.tr s1
    refine e_val (v := (.int ((1 : Nat) : Int))) val_c ?_
    obtain ⟨_, rfl, ix1⟩ := ix_2b (K := K) r1 w.f
    refine rv2 (z := (.int ((z1.2 : Nat) : Int))) (ix1 val_c val_c) ?_
    refine hN1 _ _ ?_
    refine q_sq fun N2 hN2 => ?_
    refine a_asgE ?_
    refine e_op ?_
    refine e_call ?_
    refine a_val (v := (.int ((2 : Nat) : Int))) val_c ?_
    refine a_val (v := (.int ((poly1 : Nat) : Int))) (val_var rfl) ?_
    refine a_nil ?_
    refine ⟨F1, (2), (poly1), _, _, rfl, w.f, hW, ?_, ?_⟩
    · intro hW; exact hW.elim
    intro z2 hW v3 F2 H2 s2 r3
    replace w := w.tr s2
    refine e_val (v := (.int ((1 : Nat) : Int))) val_c ?_
    obtain ⟨_, rfl, ix2⟩ := ix_2b (K := K) r3 w.f
    refine rv2 (z := (.int ((z2.2 : Nat) : Int))) (ix2 val_c val_c) ?_
    refine hN2 _ _ ?_
    refine q_sq fun N3 hN3 => ?_
    refine w_while (S := Nat × Nat × Nat) (fun s σ' F' H' => match s with | (found1, square1, exponent2) => Wf F0 H0 F' H' ∧ Ex F2 F' ∧ σ' = [some (.int ((exponent2 : Nat) : Int)), some (.int ((poly1 : Nat) : Int)), some (.int ((found1 : Nat) : Int)), some (.int ((square1 : Nat) : Int))]) hW ⟨w, Ex.rfl', rfl⟩ ?_ ?_ ?_
    · intro s3 σ' F3 H3 T1 Qc1 hI1 hW hT1
      obtain ⟨found1, square1, exponent2⟩ := s3
      obtain ⟨w, gx1, rfl⟩ := hI1
      refine e_ans (b := decide (0 < exponent2)) (t_of (vb_dec (c_gt (val_var rfl) val_c) n_lt)) ?_
      exact hT1 _ _ _ ⟨w, gx1, rfl⟩ hW
    · intro N4 Bk1 s4 σ' F4 H4 nx1 bk1 hI2 hW hN4 hB1
      obtain ⟨found1, square1, exponent2⟩ := s4
      obtain ⟨w, gx2, rfl⟩ := hI2
      refine q_jn (S := Nat) hW (fun found2 σ' F' H' => Wf F0 H0 F' H' ∧ Ex F4 F' ∧ σ' = [some (.int ((exponent2 : Nat) : Int)), some (.int ((poly1 : Nat) : Int)), some (.int ((found2 : Nat) : Int)), some (.int ((square1 : Nat) : Int))]) ?_ ?_
      · intro N5 hN5 hW
        have gx3 : Ex F4 F4 := Ex.rfl'
        refine a_ifE ?_
        refine e_ans (b := decide ((exponent2 &&& 1) = 1)) (t_of (vb_dec (c_eqI (vn_and (val_var rfl) val_c) val_c) n_eq)) ?_
        refine b_if (fun hc1 => ?_) (fun hc1 => ?_)
        · have hW := ifP hW hc1
          refine a_asgE ?_
          refine e_op ?_
          refine e_call ?_
          refine a_cons ?_
          refine e_call ?_
          refine a_val (v := (.int ((found1 : Nat) : Int))) (val_var rfl) ?_
          refine a_val (v := (.int ((square1 : Nat) : Int))) (val_var rfl) ?_
          refine a_nil ?_
          refine ⟨F4, (found1), (square1), _, rfl, w.f, hW, ?_⟩
          intro z3 hW F5 H5 s5
          replace w := w.tr s5
          replace gx3 := Ex.tr gx3 s5.g
          replace gx2 := Ex.tr gx2 s5.g
          refine a_val (v := (.int ((poly1 : Nat) : Int))) (val_var rfl) ?_
          refine a_nil ?_
          refine ⟨F5, (z3), (poly1), _, _, rfl, w.f, hW, ?_, ?_⟩
          · intro hW; exact hW.elim
          intro z4 hW v5 F6 H6 s6 r5
          replace w := w.tr s6
          replace gx3 := Ex.tr gx3 s6.g
          replace gx2 := Ex.tr gx2 s6.g
          refine e_val (v := (.int ((1 : Nat) : Int))) val_c ?_
          obtain ⟨_, rfl, ix3⟩ := ix_2b (K := K) r5 w.f
          refine rv2 (z := (.int ((z4.2 : Nat) : Int))) (ix3 val_c val_c) ?_
          exact hN5 z4.2 _ _ _ ⟨w, gx3, rfl⟩ hW
        · have hW := ifN hW hc1
          exact hN5 found1 _ _ _ ⟨w, gx3, rfl⟩ hW
      · intro found2 σ' F7 H7 hI3 hW
        obtain ⟨w, gx4, rfl⟩ := hI3
        have gx2 := Ex.tr gx2 gx4
        refine q_sq fun N6 hN6 => ?_
        refine a_asgE ?_
        refine e_op ?_
        refine e_call ?_
        refine a_cons ?_
        refine e_call ?_
        refine a_val (v := (.int ((square1 : Nat) : Int))) (val_var rfl) ?_
        refine a_val (v := (.int ((square1 : Nat) : Int))) (val_var rfl) ?_
        refine a_nil ?_
        refine ⟨F7, (square1), (square1), _, rfl, w.f, hW, ?_⟩
        intro z5 hW F8 H8 s8
        replace w := w.tr s8
        replace gx4 := Ex.tr gx4 s8.g
        replace gx2 := Ex.tr gx2 s8.g
        refine a_val (v := (.int ((poly1 : Nat) : Int))) (val_var rfl) ?_
        refine a_nil ?_
        refine ⟨F8, (z5), (poly1), _, _, rfl, w.f, hW, ?_, ?_⟩
        · intro hW; exact hW.elim
        intro z6 hW v7 F9 H9 s9 r7
        replace w := w.tr s9
        replace gx4 := Ex.tr gx4 s9.g
        replace gx2 := Ex.tr gx2 s9.g
        refine e_val (v := (.int ((1 : Nat) : Int))) val_c ?_
        obtain ⟨_, rfl, ix4⟩ := ix_2b (K := K) r7 w.f
        refine rv2 (z := (.int ((z6.2 : Nat) : Int))) (ix4 val_c val_c) ?_
        refine hN6 _ _ ?_
        obtain ⟨exponent3, eexponent1⟩ : ∃ exponent3 : Nat, exponent3 = exponent2 >>> 1 := ⟨_, rfl⟩
        replace hW := hW exponent3 eexponent1
        refine a_augV (x := (.int ((exponent2 : Nat) : Int))) (y := (.int ((1 : Nat) : Int))) (z := (.int ((exponent3 : Nat) : Int))) rfl val_c (v_eq (vn_shr val_c val_c) (by rw [eexponent1])) ?_
        exact hN4 (found2, z6.2, exponent3) _ _ _ ⟨w, gx2, rfl⟩ hW
    · intro s10 σ' F10 H10 hI4 hW
      obtain ⟨found1, square1, exponent2⟩ := s10
      obtain ⟨w, gx5, rfl⟩ := hI4
      refine hN3 _ _ ?_
      refine a_ret (v := (.int ((found1 : Nat) : Int))) (val_var rfl) ?_
      exact hQ _ hW _ _ w
abbrev s_primes_of : Stmt := topS 12
/-! primes_of -/
def W_primes_of (number1 : Nat) (R : (List Nat) → Prop) : Prop := whileW (fun (found1, number2, one1) T => T (decide (1 < number2))) (fun (found1, number2, one1) nx1 bk1 => jn (fun kk => (0 < one1) ∧ if (number2 % one1) = 0 then ((found1.length < 1000000) ∧ kk (found1 ++ [one1])) else (kk found1)) fun found2 => whileW (fun number3 T => (0 < one1) ∧ T (decide ((number3 % one1) = 0))) (fun number3 nx2 bk2 => (NDiv one1) ∧ ∀ number4 : Nat, number4 = number3 / one1 → nx2 number4) number2 fun number3 => ∀ one2 : Nat, one2 = one1 + 1 → nx1 (found2, number3, one2)) (([] : List Nat), number1, 2) fun (found1, number2, one1) => R found1
def sp_primes_of (K : PySem.W.Frag) (cc : Cz) : Sp := fun vs H Q _ => ∃ (F : Hp) (number1 : Nat) (R : (List Nat) → Prop), vs = [(.int ((number1 : Nat) : Int))] ∧ Ex F H ∧ W_primes_of number1 R ∧ ∀ z, R z → ∀ p F' H', Wf F H F' H' → XL pN H F' H' p z → Q (.ref p) H'
abbrev N_primes_of : List Str := ["number", "found", "one"]
theorem sc_primes_of : FnScope N_primes_of ["number"] (defScope s_primes_of) := ⟨rfl, rfl, rfl, by decide +kernel, rfl, by decide +kernel, by decide +kernel⟩
theorem ok_primes_of {P : Program} {w0 : World} {K : PySem.W.Frag} {mg : Str → Option Value} {base : Heap} {f : Addr} {fd : FuncData} {cc : Cz} (T : Tz K mg cc) (FU : Fun K "primes_of" "primes_of" s_primes_of f fd) (hm : mg "primes_of" = some (.ref f)) (hb : Binds K fd ["number"] []) : Fn P w0 K mg base CX0 1 "primes_of" ["number"] (sp_primes_of K cc) := by
  refine ⟨f, fd, FU.ok sc_primes_of (fun vs H Q E h => ?_) (fun cdv A outer s H0 vs Q E hr h => ?_), hm, FU.kp, hb⟩
  · obtain ⟨_, _, _, rfl, _⟩ := h; rfl
  · obtain ⟨F0, number1, R, rfl, wf, hW, hQ⟩ := h
    have nd := sc_primes_of.nd
    refine ⟨(tSeq (tAsg (tLst tNil) (gName 1)) (tSeq (tAsg (tC (.int 2)) (gName 2)) (tSeq (tWhile (tTest (tOp kGt (tVar 0) (tC (.int 1)))) (tSeq (tIfS (tTest (tOp L2.rEq (tOp kMod (tVar 0) (tVar 2)) (tC (.int 0)))) (tDrop (tBM K "list" rAppend (tVar 1) (tCons (tVar 2) tNil))) tNext) (tSeq (tWhile (tTest (tOp L2.rEq (tOp kMod (tVar 0) (tVar 2)) (tC (.int 0)))) (tAsg (tOp kDiv (tVar 0) (tVar 2)) (gName 0))) (tAug 2 (tC (.int 1)) kAdd)))) (tRet (tVar 1))))), (pss_cons (ps_set (i := 1) nd rfl (Or.inl rfl) (pe_lst pa_nil)) (pss_cons (ps_set (i := 2) nd rfl (Or.inl rfl) pe_int) (pss_cons (ps_while PassesOwn.never (pt_cmpR op_gt (pv 0) pe_int (nomark _)) (pss_cons (ps_if (pt_cmpR op_eq (pe_op op_mod (pv 0) (pv 2)) pe_int (nomark _)) (pss_one (ps_expr (pe_bm PySem.F.plainAttrs_list PySem.F.slot_list_append PySem.F.type_list_append mt_append (pv 1) (pa_cons (pv 2) pa_nil)))) pss_nil) (pss_cons (ps_while PassesOwn.never (pt_cmpR op_eq (pe_op op_mod (pv 0) (pv 2)) pe_int (nomark _)) (pss_one (ps_set (i := 0) nd rfl (Or.inl rfl) (pe_op op_fdivW (pv 0) (pv 2))))) (pss_one (ps_aug (i := 2) nd rfl (Or.inl rfl) pe_int iop_add))))) (pss_one (ps_ret (pv 1)))))), ?_⟩
    have w := Wf.id wf
    refine q_sq fun N1 hN1 => ?_
    refine a_asgE ?_
    refine e_lst ?_
    refine a_nil ?_
    refine n_lstX (e := pN) (xs := []) (vs := []) (show All pN _ [] [] from trivial) (show 0 < 1000000 from by decide) w ?_
    intro p1 H1 hp1 s1 x1
    replace w := w.tr s1
    refine hN1 _ _ ?_
    refine q_sq fun N2 hN2 => ?_
    refine a_asg (v := (.int ((2 : Nat) : Int))) val_c ?_
    refine hN2 _ _ ?_
    refine q_sq fun N3 hN3 => ?_
    refine w_while (S := List Nat × Nat × Nat) (fun s σ' F' H' => match s with | (found1, number2, one1) => Wf F0 H0 F' H' ∧ Ex F0 F' ∧ σ' = [some (.int ((number2 : Nat) : Int)), some ((.ref p1)), some (.int ((one1 : Nat) : Int))] ∧ XL pN H0 F' H' p1 found1) hW ⟨w, Ex.rfl', rfl, x1⟩ ?_ ?_ ?_
    · intro s2 σ' F1 H2 T1 Qc1 hI1 hW hT1
      obtain ⟨found1, number2, one1⟩ := s2
      obtain ⟨w, gx1, rfl, x2⟩ := hI1
      refine e_ans (b := decide (1 < number2)) (t_of (vb_dec (c_gt (val_var rfl) val_c) n_lt)) ?_
      exact hT1 _ _ _ ⟨w, gx1, rfl, x2⟩ hW
    · intro N4 Bk1 s3 σ' F2 H3 nx1 bk1 hI2 hW hN4 hB1
      obtain ⟨found1, number2, one1⟩ := s3
      obtain ⟨w, gx2, rfl, x2⟩ := hI2
      refine q_jn (S := List Nat) hW (fun found2 σ' F' H' => Wf F0 H0 F' H' ∧ Ex F2 F' ∧ σ' = [some (.int ((number2 : Nat) : Int)), some ((.ref p1)), some (.int ((one1 : Nat) : Int))] ∧ XL pN H0 F' H' p1 found2) ?_ ?_
      · intro N5 hN5 hW
        have gx3 : Ex F2 F2 := Ex.rfl'
        refine a_ifE ?_
        obtain ⟨c1, hW⟩ := hW
        refine e_ans (b := decide ((number2 % one1) = 0)) (t_of (vb_dec (c_eqI (vn_mod (val_var rfl) (val_var rfl) c1) val_c) n_eq)) ?_
        refine b_if (fun hc1 => ?_) (fun hc1 => ?_)
        · have hW := ifP hW hc1
          refine a_dropE ?_
          refine m_list x2 (val_var rfl) ?_
          refine a_val (v := (.int ((one1 : Nat) : Int))) (val_var rfl) ?_
          refine a_nil ?_
          obtain ⟨c2, hW⟩ := hW
          refine a_app x2 w c2 rfl (fun H4 w1 x4 kp1 => ?_)
          replace w := w1
          exact hN5 (found1 ++ [one1]) _ _ _ ⟨w, gx3, rfl, x4⟩ hW
        · have hW := ifN hW hc1
          exact hN5 found1 _ _ _ ⟨w, gx3, rfl, x2⟩ hW
      · intro found2 σ' F3 H5 hI3 hW
        obtain ⟨w, gx4, rfl, x3⟩ := hI3
        have gx2 := Ex.tr gx2 gx4
        refine q_sq fun N6 hN6 => ?_
        refine w_while (S := Nat) (fun number3 σ' F' H' => Wf F0 H0 F' H' ∧ Ex F3 F' ∧ σ' = [some (.int ((number3 : Nat) : Int)), some (.ref p1), some (.int ((one1 : Nat) : Int))] ∧ XL pN H0 F' H' p1 found2) hW ⟨w, Ex.rfl', rfl, x3⟩ ?_ ?_ ?_
        · intro number3 σ' F4 H6 T2 Qc2 hI4 hW hT2
          obtain ⟨w, gx5, rfl, x5⟩ := hI4
          have gx4 := Ex.tr gx4 gx5
          have gx2 := Ex.tr gx2 gx5
          obtain ⟨c3, hW⟩ := hW
          refine e_ans (b := decide ((number3 % one1) = 0)) (t_of (vb_dec (c_eqI (vn_mod (val_var rfl) (val_var rfl) c3) val_c) n_eq)) ?_
          exact hT2 _ _ _ ⟨w, gx5, rfl, x5⟩ hW
        · intro N7 Bk2 number3 σ' F5 H7 nx2 bk2 hI5 hW hN7 hB2
          obtain ⟨w, gx6, rfl, x5⟩ := hI5
          have gx4 := Ex.tr gx4 gx6
          have gx2 := Ex.tr gx2 gx6
          obtain ⟨c4, hW⟩ := hW
          obtain ⟨number4, enumber1⟩ : ∃ number4 : Nat, number4 = number3 / one1 := ⟨_, rfl⟩
          replace hW := hW number4 enumber1
          refine a_asg (v := (.int ((number4 : Nat) : Int))) (v_eq (vn_div (val_var rfl) (val_var rfl) c4) (by rw [enumber1])) ?_
          exact hN7 number4 _ _ _ ⟨w, gx6, rfl, x5⟩ hW
        · intro number3 σ' F6 H8 hI6 hW
          obtain ⟨w, gx7, rfl, x5⟩ := hI6
          have gx4 := Ex.tr gx4 gx7
          have gx2 := Ex.tr gx2 gx7
          refine hN6 _ _ ?_
          obtain ⟨one2, eone1⟩ : ∃ one2 : Nat, one2 = one1 + 1 := ⟨_, rfl⟩
          replace hW := hW one2 eone1
          refine a_augV (x := (.int ((one1 : Nat) : Int))) (y := (.int ((1 : Nat) : Int))) (z := (.int ((one2 : Nat) : Int))) rfl val_c (v_eq (vn_add val_c val_c) (by rw [eone1])) ?_
          exact hN4 (found2, number3, one2) _ _ _ ⟨w, gx2, rfl, x5⟩ hW
    · intro s8 σ' F7 H9 hI7 hW
      obtain ⟨found1, number2, one1⟩ := s8
      obtain ⟨w, gx8, rfl, x2⟩ := hI7
      refine hN3 _ _ ?_
      refine a_ret (v := (.ref p1)) (val_var rfl) ?_
      exact hQ _ hW _ _ _ w x2
abbrev s_order_of_one : Stmt := topS 13
/-! order_of_one -/
def W_order_of_one (poly1 : Nat) (R : Nat → Prop) : Prop := (1 ≤ bits poly1) ∧ ((bits poly1) - 1 < 100000000) ∧ (1 ≤ 2 ^ ((bits poly1) - 1)) ∧ ∀ turns1 : Nat, turns1 = (2 ^ ((bits poly1) - 1)) - 1 → W_primes_of turns1 fun z1 => forW z1 turns1 (fun prime1 turns2 nx1 bk1 => whileW (fun turns3 T => jn (fun kk => (0 < prime1) ∧ if (turns3 % prime1) = 0 then ((NDiv prime1) ∧ W_power_left (turns3 / prime1) poly1 fun z2 => kk (decide (z2 = 1))) else (kk false)) fun b1 => T b1) (fun turns3 nx2 bk2 => (NDiv prime1) ∧ ∀ turns4 : Nat, turns4 = turns3 / prime1 → nx2 turns4) turns2 fun turns3 => nx1 turns3) fun turns2 => R turns2
def sp_order_of_one (K : PySem.W.Frag) (cc : Cz) : Sp := fun vs H Q _ => ∃ (F : Hp) (poly1 : Nat) (R : Nat → Prop), vs = [(.int ((poly1 : Nat) : Int))] ∧ Ex F H ∧ W_order_of_one poly1 R ∧ ∀ z, R z → ∀ F' H', Wf F H F' H' → Q (.int ((z : Nat) : Int)) H'
abbrev N_order_of_one : List Str := ["poly", "turns", "prime"]
theorem sc_order_of_one : FnScope N_order_of_one ["poly"] (defScope s_order_of_one) := ⟨rfl, rfl, rfl, by decide +kernel, rfl, by decide +kernel, by decide +kernel⟩
theorem ok_order_of_one {P : Program} {w0 : World} {K : PySem.W.Frag} {mg : Str → Option Value} {base : Heap} {f : Addr} {fd : FuncData} {cc : Cz} (T : Tz K mg cc) (FU : Fun K "order_of_one" "order_of_one" s_order_of_one f fd) (hm : mg "order_of_one" = some (.ref f)) (hb : Binds K fd ["poly"] []) (c_primes_of : Fn P w0 K mg base CX0 1 "primes_of" ["number"] (sp_primes_of K cc)) (c_power_left : Fn P w0 K mg base CX0 2 "power_left" ["exponent", "poly"] (sp_power_left K cc)) : Fn P w0 K mg base CX0 3 "order_of_one" ["poly"] (sp_order_of_one K cc) := by
  refine ⟨f, fd, FU.ok sc_order_of_one (fun vs H Q E h => ?_) (fun cdv A outer s H0 vs Q E hr h => ?_), hm, FU.kp, hb⟩
  · obtain ⟨_, _, _, rfl, _⟩ := h; rfl
  · obtain ⟨F0, poly1, R, rfl, wf, hW, hQ⟩ := h
    have nd := sc_order_of_one.nd
    refine ⟨(tSeq (tAsg (tOp kSub (tOp kShl (tC (.int 1)) (tOp kSub (tBits (tVar 0)) (tC (.int 1)))) (tC (.int 1))) (gName 1)) (tSeq (tFor (iList K (tCall (sp_primes_of K cc) [] E0 (tCons (tVar 1) tNil))) (gName 2) (tWhile (tAnd (tTest (tOp L2.rEq (tOp kMod (tVar 1) (tVar 2)) (tC (.int 0)))) (tTest (tOp L2.rEq (tCall (sp_power_left K cc) [] E0 (tCons (tOp kDiv (tVar 1) (tVar 2)) (tCons (tVar 0) tNil))) (tC (.int 1))))) (tAsg (tOp kDiv (tVar 1) (tVar 2)) (gName 1)))) (tRet (tVar 1)))), (pss_cons (ps_set (i := 1) nd rfl (Or.inl rfl) (pe_op op_sub (pe_op op_shlW pe_int (pe_op op_sub (pe_bits (pv 0)) pe_int)) pe_int)) (pss_cons (ps_for PassesOwn.never rfl (pi_list (pe_fn c_primes_of (hr.mono (by decide)) rfl (pa_cons (pv 1) pa_nil))) (pg_name (i := 2) nd rfl (Or.inl rfl)) (pss_one (ps_while PassesOwn.never (PW.pt (pw_and (pt_cmpR op_eq (pe_op op_mod (pv 1) (pv 2)) pe_int (nomark _)) (pw_and1 (pt_cmpR op_eq (pe_fn c_power_left (hr.mono (by decide)) rfl (pa_cons (pe_op op_fdivW (pv 1) (pv 2)) (pa_cons (pv 0) pa_nil))) pe_int (nomark _))))) (pss_one (ps_set (i := 1) nd rfl (Or.inl rfl) (pe_op op_fdivW (pv 1) (pv 2))))))) (pss_one (ps_ret (pv 1))))), ?_⟩
    have w := Wf.id wf
    refine q_sq fun N1 hN1 => ?_
    obtain ⟨c1, hW⟩ := hW
    obtain ⟨c2, hW⟩ := hW
    obtain ⟨c3, hW⟩ := hW
    obtain ⟨turns1, eturns1⟩ : ∃ turns1 : Nat, turns1 = (2 ^ ((bits poly1) - 1)) - 1 := ⟨_, rfl⟩
    replace hW := hW turns1 eturns1
    refine a_asg (v := (.int ((turns1 : Nat) : Int))) (v_eq (vn_sub (vn_one val_c (vn_sub (vn_bitl (val_var rfl)) val_c c1) c2) val_c c3) (by rw [eturns1])) ?_
    refine hN1 _ _ ?_
    refine q_sq fun N2 hN2 => ?_
    refine f_LE ?_
    refine e_call ?_
    refine a_val (v := (.int ((turns1 : Nat) : Int))) (val_var rfl) ?_
    refine a_nil ?_
    refine ⟨F0, (turns1), _, rfl, w.f, hW, ?_⟩
    intro z1 hW p1 F1 H1 s1 x1
    replace x1 := x1.base w
    replace w := w.tr s1
    obtain ⟨F2, w1, g1, r1, fz1⟩ := x1.frzE w
    replace w := w1
    refine w_forL (S := Nat) (fun turns2 σ' F' H' => ∃ (o1 : Option V), Wf F0 H0 F' H' ∧ Ex F2 F' ∧ σ' = [some (.int ((poly1 : Nat) : Int)), some (.int ((turns2 : Nat) : Int)), o1]) r1 hW ⟨_, w, Ex.rfl', rfl⟩ (fun s σ' F' H' hI => by obtain ⟨_, w', gx', _⟩ := hI; exact ⟨gx', w'.f⟩) w.f ?_ ?_
    · intro N3 Bk1 prime1 u1 turns2 σ' F3 H2 nx1 bk1 hI1 hx1 ru1 hW hN3 hB1
      obtain ⟨o1, w, gx1, rfl⟩ := hI1
      have r1 := Rep.mono _ gx1 r1
      obtain rfl : u1 = (.int ((prime1 : Nat) : Int)) := ru1
      refine g_name ?_
      refine w_while (S := Nat) (fun turns3 σ' F' H' => Wf F0 H0 F' H' ∧ Ex F3 F' ∧ σ' = [some (.int ((poly1 : Nat) : Int)), some (.int ((turns3 : Nat) : Int)), some (.int ((prime1 : Nat) : Int))]) hW ⟨w, Ex.rfl', rfl⟩ ?_ ?_ ?_
      · intro turns3 σ' F4 H3 T1 Qc1 hI2 hW hT1
        obtain ⟨w, gx2, rfl⟩ := hI2
        have gx1 := Ex.tr gx1 gx2
        refine e_jnT hW (fun b F' H' => b = b ∧ Wf F0 H0 F' H' ∧ Ex F4 F') ?_ ?_
        · intro N4 hN4 hW
          have gx3 : Ex F4 F4 := Ex.rfl'
          refine e_tAnd ?_
          obtain ⟨c4, hW⟩ := hW
          refine e_ans (b := decide ((turns3 % prime1) = 0)) (t_of (vb_dec (c_eqI (vn_mod (val_var rfl) (val_var rfl) c4) val_c) n_eq)) ?_
          refine b_if (fun hc1 => ?_) (fun hc1 => ?_)
          · have hW := ifP hW hc1
            refine e_tT ?_
            refine e_op ?_
            refine e_call ?_
            obtain ⟨c5, hW⟩ := hW
            refine a_val (v := (.int ((turns3 / prime1 : Nat) : Int))) (vn_div (val_var rfl) (val_var rfl) c5) ?_
            refine a_val (v := (.int ((poly1 : Nat) : Int))) (val_var rfl) ?_
            refine a_nil ?_
            refine ⟨F4, (turns3 / prime1), (poly1), _, rfl, w.f, hW, ?_⟩
            intro z2 hW F5 H4 s4
            replace w := w.tr s4
            replace gx3 := Ex.tr gx3 s4.g
            replace gx2 := Ex.tr gx2 s4.g
            replace gx1 := Ex.tr gx1 s4.g
            refine e_val (v := (.int ((1 : Nat) : Int))) val_c ?_
            refine rv2T (b := decide (z2 = 1)) (vb_dec (c_eqI val_c val_c) n_eq) ?_
            exact hN4 (decide (z2 = 1)) _ _ ⟨rfl, w, gx3⟩ hW
          · have hW := ifN hW hc1
            exact hN4 false _ _ ⟨rfl, w, gx3⟩ hW
        intro b1 F6 H5 hI3 hW
        obtain ⟨_, w, gx4⟩ := hI3
        have gx2 := Ex.tr gx2 gx4
        have gx1 := Ex.tr gx1 gx4
        exact hT1 _ _ _ ⟨w, gx2, rfl⟩ hW
      · intro N5 Bk2 turns3 σ' F7 H6 nx2 bk2 hI4 hW hN5 hB2
        obtain ⟨w, gx5, rfl⟩ := hI4
        have gx1 := Ex.tr gx1 gx5
        obtain ⟨c6, hW⟩ := hW
        obtain ⟨turns4, eturns2⟩ : ∃ turns4 : Nat, turns4 = turns3 / prime1 := ⟨_, rfl⟩
        replace hW := hW turns4 eturns2
        refine a_asg (v := (.int ((turns4 : Nat) : Int))) (v_eq (vn_div (val_var rfl) (val_var rfl) c6) (by rw [eturns2])) ?_
        exact hN5 turns4 _ _ _ ⟨w, gx5, rfl⟩ hW
      · intro turns3 σ' F8 H7 hI5 hW
        obtain ⟨w, gx6, rfl⟩ := hI5
        have gx1 := Ex.tr gx1 gx6
        exact hN3 turns3 _ _ _ ⟨_, w, gx1, rfl⟩ hW
    · intro turns2 σ' F9 H8 hI6 hW
      obtain ⟨o1, w, gx7, rfl⟩ := hI6
      have r1 := Rep.mono _ gx7 r1
      refine hN2 _ _ ?_
      refine a_ret (v := (.int ((turns2 : Nat) : Int))) (val_var rfl) ?_
      exact hQ _ hW _ _ w
abbrev s_joined_order : Stmt := topS 14
/-! joined_order -/
def W_joined_order (one1 : Nat) (other1 : Nat) (R : Nat → Prop) : Prop := whileW (fun (left1, more1) T => T (decide (0 < more1))) (fun (left1, more1) nx1 bk1 => (0 < more1) ∧ nx1 (more1, left1 % more1)) (one1, other1) fun (left1, more1) => (NMul one1 other1) ∧ (NDiv left1) ∧ R ((one1 * other1) / left1)
def sp_joined_order (K : PySem.W.Frag) (cc : Cz) : Sp := fun vs H Q _ => ∃ (F : Hp) (one1 : Nat) (other1 : Nat) (R : Nat → Prop), vs = [(.int ((one1 : Nat) : Int)), (.int ((other1 : Nat) : Int))] ∧ Ex F H ∧ W_joined_order one1 other1 R ∧ ∀ z, R z → ∀ F' H', Wf F H F' H' → Q (.int ((z : Nat) : Int)) H'
abbrev N_joined_order : List Str := ["one", "other", "left", "more"]
theorem sc_joined_order : FnScope N_joined_order ["one", "other"] (defScope s_joined_order) := ⟨rfl, rfl, rfl, by decide +kernel, rfl, by decide +kernel, by decide +kernel⟩
theorem ok_joined_order {P : Program} {w0 : World} {K : PySem.W.Frag} {mg : Str → Option Value} {base : Heap} {f : Addr} {fd : FuncData} {cc : Cz} (T : Tz K mg cc) (FU : Fun K "joined_order" "joined_order" s_joined_order f fd) (hm : mg "joined_order" = some (.ref f)) (hb : Binds K fd ["one", "other"] []) : Fn P w0 K mg base CX0 1 "joined_order" ["one", "other"] (sp_joined_order K cc) := by
  refine ⟨f, fd, FU.ok sc_joined_order (fun vs H Q E h => ?_) (fun cdv A outer s H0 vs Q E hr h => ?_), hm, FU.kp, hb⟩
  · obtain ⟨_, _, _, _, rfl, _⟩ := h; rfl
  · obtain ⟨F0, one1, other1, R, rfl, wf, hW, hQ⟩ := h
    have nd := sc_joined_order.nd
    refine ⟨(tSeq (tAsg (tVar 0) (gName 2)) (tSeq (tAsg (tVar 1) (gName 3)) (tSeq (tWhile (tTest (tOp kGt (tVar 3) (tC (.int 0)))) (tPar 2 3 (tCons (tVar 3) (tCons (tOp kMod (tVar 2) (tVar 3)) tNil)))) (tRet (tOp kDiv (tOp kMul (tVar 0) (tVar 1)) (tVar 2)))))), (pss_cons (ps_set (i := 2) nd rfl (Or.inl rfl) (pv 0)) (pss_cons (ps_set (i := 3) nd rfl (Or.inl rfl) (pv 1)) (pss_cons (ps_while PassesOwn.never (pt_cmpR op_gt (pv 3) pe_int (nomark _)) (pss_one (ps_par (i := 2) (j := 3) (by rfl) nd rfl rfl (by decide) rfl rfl (pa_cons (pv 3) (pa_cons (pe_op op_mod (pv 2) (pv 3)) pa_nil)) (by rfl)))) (pss_one (ps_ret (pe_op op_fdivW (pe_op op_mul (pv 0) (pv 1)) (pv 2))))))), ?_⟩
    have w := Wf.id wf
    refine q_sq fun N1 hN1 => ?_
    refine a_asg (v := (.int ((one1 : Nat) : Int))) (val_var rfl) ?_
    refine hN1 _ _ ?_
    refine q_sq fun N2 hN2 => ?_
    refine a_asg (v := (.int ((other1 : Nat) : Int))) (val_var rfl) ?_
    refine hN2 _ _ ?_
    refine q_sq fun N3 hN3 => ?_
    refine w_while (S := Nat × Nat) (fun s σ' F' H' => match s with | (left1, more1) => Wf F0 H0 F' H' ∧ Ex F0 F' ∧ σ' = [some (.int ((one1 : Nat) : Int)), some (.int ((other1 : Nat) : Int)), some (.int ((left1 : Nat) : Int)), some (.int ((more1 : Nat) : Int))]) hW ⟨w, Ex.rfl', rfl⟩ ?_ ?_ ?_
    · intro s1 σ' F1 H1 T1 Qc1 hI1 hW hT1
      obtain ⟨left1, more1⟩ := s1
      obtain ⟨w, gx1, rfl⟩ := hI1
      refine e_ans (b := decide (0 < more1)) (t_of (vb_dec (c_gt (val_var rfl) val_c) n_lt)) ?_
      exact hT1 _ _ _ ⟨w, gx1, rfl⟩ hW
    · intro N4 Bk1 s2 σ' F2 H2 nx1 bk1 hI2 hW hN4 hB1
      obtain ⟨left1, more1⟩ := s2
      obtain ⟨w, gx2, rfl⟩ := hI2
      refine a_par ?_
      refine a_val (v := (.int ((more1 : Nat) : Int))) (val_var rfl) ?_
      obtain ⟨c1, hW⟩ := hW
      refine a_val (v := (.int ((left1 % more1 : Nat) : Int))) (vn_mod (val_var rfl) (val_var rfl) c1) ?_
      refine a_nil ?_
      refine ⟨_, _, rfl, ?_⟩
      exact hN4 (more1, left1 % more1) _ _ _ ⟨w, gx2, rfl⟩ hW
    · intro s3 σ' F3 H3 hI3 hW
      obtain ⟨left1, more1⟩ := s3
      obtain ⟨w, gx3, rfl⟩ := hI3
      refine hN3 _ _ ?_
      obtain ⟨c2, hW⟩ := hW
      obtain ⟨c3, hW⟩ := hW
      refine a_ret (v := (.int (((one1 * other1) / left1 : Nat) : Int))) (vn_div (vn_mul (val_var rfl) (val_var rfl) c2) (val_var rfl) c3) ?_
      exact hQ _ hW _ _ w
abbrev s_order_of : Stmt := topS 15
/-! order_of -/
def W_order_of (poly1 : An) (E_BadMask : Prop) (R : Nat → Prop) : Prop := W_need_poly poly1 3 (E_BadMask) fun z1 => ∃ y1 : Nat, poly1 = An.i ((y1 : Nat) : Int) ∧ if (y1 &&& 1) = 0 then (E_BadMask) else (W_factors poly1 (E_BadMask) fun z2 => forW z2 (1, 1) (fun it1 (found1, doubled1) nx1 bk1 => W_order_of_one it1.1 fun z3 => W_joined_order found1 z3 fun z4 => whileW (fun doubled2 T => T (decide (doubled2 < it1.2))) (fun doubled2 nx2 bk2 => ∀ doubled3 : Nat, doubled3 = doubled2 * 2 → nx2 doubled3) doubled1 fun doubled2 => nx1 (z4, doubled2)) fun (found1, doubled1) => (NMul found1 doubled1) ∧ R (found1 * doubled1))
def sp_order_of (K : PySem.W.Frag) (cc : Cz) : Sp := fun vs H Q E => ∃ (F : Hp) (v1 : V) (poly1 : An) (E_BadMask : Prop) (R : Nat → Prop), vs = [v1] ∧ Ex F H ∧ pA.r F v1 poly1 ∧ W_order_of poly1 E_BadMask R ∧ (E_BadMask → ∀ F' H', Wf F H F' H' → E (.ref cc.BadMask) none H') ∧ ∀ z, R z → ∀ F' H', Wf F H F' H' → Q (.int ((z : Nat) : Int)) H'
abbrev N_order_of : List Str := ["poly", "found", "doubled", "one", "power"]
theorem sc_order_of : FnScope N_order_of ["poly"] (defScope s_order_of) := ⟨rfl, rfl, rfl, by decide +kernel, rfl, by decide +kernel, by decide +kernel⟩
theorem ok_order_of {P : Program} {w0 : World} {K : PySem.W.Frag} {mg : Str → Option Value} {base : Heap} {f : Addr} {fd : FuncData} {cc : Cz} (T : Tz K mg cc) (FU : Fun K "order_of" "order_of" s_order_of f fd) (hm : mg "order_of" = some (.ref f)) (hb : Binds K fd ["poly"] []) (c_need_poly : Fn P w0 K mg base (L2.CX P w0) 2 "need_poly" ["thing", "least"] (sp_need_poly K cc)) (c_factors : Fn P w0 K mg base (L2.CX P w0) 3 "factors" ["poly"] (sp_factors K cc)) (c_order_of_one : Fn P w0 K mg base CX0 3 "order_of_one" ["poly"] (sp_order_of_one K cc)) (c_joined_order : Fn P w0 K mg base CX0 1 "joined_order" ["one", "other"] (sp_joined_order K cc)) : Fn P w0 K mg base (L2.CX P w0) 4 "order_of" ["poly"] (sp_order_of K cc) := by
  refine ⟨f, fd, FU.okX sc_order_of (fun vs H Q E h => ?_) (fun cdv A outer s H0 vs Q E hr h => ?_), hm, FU.kp, hb⟩
  · obtain ⟨_, _, _, _, _, rfl, _⟩ := h; rfl
  · obtain ⟨F0, v1, poly1, E_BadMask, R, rfl, wf, r1, hW, hE_BadMask, hQ⟩ := h
    have nd := sc_order_of.nd
    refine ⟨(tSeq (tDrop (tCallS (sp_need_poly K cc) (WE (fun cls d _ H => E cls d H)) (tCons (tVar 0) (tCons (tC (.int 3)) tNil)))) (tSeq (tIfS (tTest (tOp L2.rEq (tOp kAnd (tVar 0) (tC (.int 1))) (tC (.int 0)))) (tRaise (fun cls d _ H => E cls d H) cc.BadMask) tNext) (tSeq (tAsg (tC (.int 1)) (gName 1)) (tSeq (tAsg (tC (.int 1)) (gName 2)) (tSeq (tFor (iList K (tCallS (sp_factors K cc) (WE (fun cls d _ H => E cls d H)) (tCons (tVar 0) tNil))) (gTup K 2 (gCons (gName 3) (gCons (gName 4) gNil))) (tSeq (tAsg (tCall (sp_joined_order K cc) [] E0 (tCons (tVar 1) (tCons (tCall (sp_order_of_one K cc) [] E0 (tCons (tVar 3) tNil)) tNil))) (gName 1)) (tWhile (tTest (tOp kLt (tVar 2) (tVar 4))) (tAug 2 (tC (.int 2)) kMul)))) (tRet (tOp kMul (tVar 1) (tVar 2)))))))), (pss_cons (ps_expr (pe_fnS (W := (fun cls d _ H => E cls d H)) c_need_poly (takes_of rfl rfl rfl rfl) (hr.mono (by decide)) rfl (pa_cons (pv 0) (pa_cons pe_int pa_nil)))) (pss_cons (ps_if (pt_cmpR op_eq (pe_op op_and (pv 0) pe_int) pe_int (nomark _)) (pss_one (ps_raise (W := (fun cls d _ H => E cls d H)) rfl (takes_of rfl rfl rfl rfl) (pmk_own PySem.F.excBase_ValueError T.xc_BadMask.x T.xc_BadMask.g T.xc_BadMask.k (raises_own T.xc_BadMask.b T.xc_BadMask.t) (by exact rfl)))) pss_nil) (pss_cons (ps_set (i := 1) nd rfl (Or.inl rfl) pe_int) (pss_cons (ps_set (i := 2) nd rfl (Or.inl rfl) pe_int) (pss_cons (ps_for (passes_of rfl) rfl (pi_list (pe_fnS (W := (fun cls d _ H => E cls d H)) c_factors (takes_of rfl rfl rfl rfl) (hr.mono (by decide)) rfl (pa_cons (pv 0) pa_nil))) (pg_tup rfl (pgs_cons (pg_name (i := 3) nd rfl (Or.inl rfl)) (pgs_cons (pg_name (i := 4) nd rfl (Or.inl rfl)) pgs_nil)) (by rfl)) (pss_cons (ps_set (i := 1) nd rfl (Or.inl rfl) (pe_fn c_joined_order (hr.mono (by decide)) rfl (pa_cons (pv 1) (pa_cons (pe_fn c_order_of_one (hr.mono (by decide)) rfl (pa_cons (pv 3) pa_nil)) pa_nil)))) (pss_one (ps_while (passes_of rfl) (pt_cmpR op_lt (pv 2) (pv 4) (nomark _)) (pss_one (ps_aug (i := 2) nd rfl (Or.inl rfl) pe_int iop_mul)))))) (pss_one (ps_ret (pe_op op_mul (pv 1) (pv 2))))))))), ?_⟩
    have w := Wf.id wf
    refine q_sq fun N1 hN1 => ?_
    refine a_dropE ?_
    refine e_callS ?_
    refine a_val (v := v1) (val_var rfl) ?_
    refine a_val (v := (.int ((3 : Nat) : Int))) val_c ?_
    refine a_nil ?_
    refine ⟨F0, (v1), (poly1), (3), _, _, rfl, w.f, r1, hW, ?_, ?_⟩
    · intro hW F1 H1 s1
      replace r1 := Rep.mono _ s1.g r1
      replace w := w.tr s1
      exact hE_BadMask hW _ _ w
    intro z1 hW F2 H2 s2
    replace r1 := Rep.mono _ s2.g r1
    replace w := w.tr s2
    refine hN1 _ _ ?_
    refine q_sq fun N2 hN2 => ?_
    refine a_ifE ?_
    obtain ⟨y1, hy1, hW⟩ := hW
    have hv1 := an_i r1 hy1
    refine e_ans (b := decide ((y1 &&& 1) = 0)) (t_of (vb_dec (c_eqI (vn_and (v_eq (val_var rfl) hv1) val_c) val_c) n_eq)) ?_
    refine b_if (fun hc1 => ?_) (fun hc1 => ?_)
    · have hW := ifP hW hc1
      refine a_raise ?_
      exact hE_BadMask hW _ _ w
    · have hW := ifN hW hc1
      refine hN2 _ _ ?_
      refine q_sq fun N3 hN3 => ?_
      refine a_asg (v := (.int ((1 : Nat) : Int))) val_c ?_
      refine hN3 _ _ ?_
      refine q_sq fun N4 hN4 => ?_
      refine a_asg (v := (.int ((1 : Nat) : Int))) val_c ?_
      refine hN4 _ _ ?_
      refine q_sq fun N5 hN5 => ?_
      refine f_LE ?_
      refine e_callS ?_
      refine a_val (v := v1) (val_var rfl) ?_
      refine a_nil ?_
      refine ⟨F2, (v1), (poly1), _, _, rfl, w.f, r1, hW, ?_, ?_⟩
      · intro hW F3 H3 s3
        replace r1 := Rep.mono _ s3.g r1
        replace w := w.tr s3
        exact hE_BadMask hW _ _ w
      intro z2 hW p1 F4 H4 s4 x1
      replace x1 := x1.base w
      replace r1 := Rep.mono _ s4.g r1
      replace w := w.tr s4
      obtain ⟨F5, w1, g1, r2, fz1⟩ := x1.frzE w
      replace r1 := Rep.mono _ g1 r1
      replace w := w1
      refine w_forL (S := Nat × Nat) (fun s σ' F' H' => match s with | (found1, doubled1) => ∃ (o1 : Option V) (o2 : Option V), Wf F0 H0 F' H' ∧ Ex F5 F' ∧ σ' = [some v1, some (.int ((found1 : Nat) : Int)), some (.int ((doubled1 : Nat) : Int)), o1, o2]) r2 hW ⟨_, _, w, Ex.rfl', rfl⟩ (fun s σ' F' H' hI => by obtain ⟨found1, doubled1⟩ := s; obtain ⟨_, _, w', gx', _⟩ := hI; exact ⟨gx', w'.f⟩) w.f ?_ ?_
      · intro N6 Bk1 it1 u1 s5 σ' F6 H5 nx1 bk1 hI1 hx1 ru1 hW hN6 hB1
        obtain ⟨found1, doubled1⟩ := s5
        obtain ⟨o1, o2, w, gx1, rfl⟩ := hI1
        have r1 := Rep.mono _ gx1 r1
        have r2 := Rep.mono _ gx1 r2
        obtain ⟨p2, u2, u3, rfl, h1, rfl, rfl⟩ := ru1
        refine ⟨p2, _, rfl, SqT.of (w.f _ _ h1), rfl, _, _, rfl, _, _, rfl, rfl, ?_⟩
        refine q_sq fun N7 hN7 => ?_
        refine a_asgE ?_
        refine e_call ?_
        refine a_val (v := (.int ((found1 : Nat) : Int))) (val_var rfl) ?_
        refine a_cons ?_
        refine e_call ?_
        refine a_val (v := (.int ((it1.1 : Nat) : Int))) (val_var rfl) ?_
        refine a_nil ?_
        refine ⟨F6, (it1.1), _, rfl, w.f, hW, ?_⟩
        intro z3 hW F7 H6 s6
        replace r1 := Rep.mono _ s6.g r1
        replace w := w.tr s6
        replace gx1 := Ex.tr gx1 s6.g
        refine a_nil ?_
        refine ⟨F7, (found1), (z3), _, rfl, w.f, hW, ?_⟩
        intro z4 hW F8 H7 s7
        replace r1 := Rep.mono _ s7.g r1
        replace w := w.tr s7
        replace gx1 := Ex.tr gx1 s7.g
        refine hN7 _ _ ?_
        refine w_while (S := Nat) (fun doubled2 σ' F' H' => Wf F0 H0 F' H' ∧ Ex F8 F' ∧ σ' = [some v1, some (.int ((z4 : Nat) : Int)), some (.int ((doubled2 : Nat) : Int)), some (.int ((it1.1 : Nat) : Int)), some (.int ((it1.2 : Nat) : Int))]) hW ⟨w, Ex.rfl', rfl⟩ ?_ ?_ ?_
        · intro doubled2 σ' F9 H8 T1 Qc1 hI2 hW hT1
          obtain ⟨w, gx2, rfl⟩ := hI2
          have r1 := Rep.mono _ gx2 r1
          have gx1 := Ex.tr gx1 gx2
          refine e_ans (b := decide (doubled2 < it1.2)) (t_of (vb_dec (c_lt (val_var rfl) (val_var rfl)) n_lt)) ?_
          exact hT1 _ _ _ ⟨w, gx2, rfl⟩ hW
        · intro N8 Bk2 doubled2 σ' F10 H9 nx2 bk2 hI3 hW hN8 hB2
          obtain ⟨w, gx3, rfl⟩ := hI3
          have r1 := Rep.mono _ gx3 r1
          have gx1 := Ex.tr gx1 gx3
          obtain ⟨doubled3, edoubled1⟩ : ∃ doubled3 : Nat, doubled3 = doubled2 * 2 := ⟨_, rfl⟩
          replace hW := hW doubled3 edoubled1
          refine a_augV (x := (.int ((doubled2 : Nat) : Int))) (y := (.int ((2 : Nat) : Int))) (z := (.int ((doubled3 : Nat) : Int))) rfl val_c (v_eq (vn_mul val_c val_c (.inr (by decide))) (by rw [edoubled1])) ?_
          exact hN8 doubled3 _ _ _ ⟨w, gx3, rfl⟩ hW
        · intro doubled2 σ' F11 H10 hI4 hW
          obtain ⟨w, gx4, rfl⟩ := hI4
          have r1 := Rep.mono _ gx4 r1
          have gx1 := Ex.tr gx1 gx4
          exact hN6 (z4, doubled2) _ _ _ ⟨_, _, w, gx1, rfl⟩ hW
      · intro s11 σ' F12 H11 hI5 hW
        obtain ⟨found1, doubled1⟩ := s11
        obtain ⟨o1, o2, w, gx5, rfl⟩ := hI5
        have r1 := Rep.mono _ gx5 r1
        have r2 := Rep.mono _ gx5 r2
        refine hN5 _ _ ?_
        obtain ⟨c1, hW⟩ := hW
        refine a_ret (v := (.int ((found1 * doubled1 : Nat) : Int))) (vn_mul (val_var rfl) (val_var rfl) c1) ?_
        exact hQ _ hW _ _ w
abbrev s_cell : Stmt := topS 17
/-! _law_cell -/
def W_cell (script1 : List Int) (k1 : Nat) (R : Int → Prop) : Prop := if k1 < script1.length then (∃ x1, script1[k1]? = some x1 ∧ R x1) else (R (((41 * k1) + 3 : Nat) : Int))
def sp_cell (K : PySem.W.Frag) (cc : Cz) : Sp := fun vs H Q _ => ∃ (F : Hp) (v1 : V) (script1 : List Int) (k1 : Nat) (R : Int → Prop), vs = [v1, (.int ((k1 : Nat) : Int))] ∧ Ex F H ∧ (pScr K).r F v1 script1 ∧ W_cell script1 k1 R ∧ ∀ z, R z → ∀ F' H', Wf F H F' H' → Q (.int (z)) H'
abbrev N_cell : List Str := ["_law_script", "_law_k"]
theorem sc_cell : FnScope N_cell ["_law_script", "_law_k"] (defScope s_cell) := ⟨rfl, rfl, rfl, by decide +kernel, rfl, by decide +kernel, by decide +kernel⟩
theorem ok_cell {P : Program} {w0 : World} {K : PySem.W.Frag} {mg : Str → Option Value} {base : Heap} {f : Addr} {fd : FuncData} {cc : Cz} (T : Tz K mg cc) (FU : Fun K "_law_cell" "_law_cell" s_cell f fd) (hm : mg "_law_cell" = some (.ref f)) (hb : Binds K fd ["_law_script", "_law_k"] []) (n_len : mg "len" = none) : Fn P w0 K mg base CX0 1 "_law_cell" ["_law_script", "_law_k"] (sp_cell K cc) := by
  refine ⟨f, fd, FU.ok sc_cell (fun vs H Q E h => ?_) (fun cdv A outer s H0 vs Q E hr h => ?_), hm, FU.kp, hb⟩
  · obtain ⟨_, _, _, _, _, rfl, _⟩ := h; rfl
  · obtain ⟨F0, v1, script1, k1, R, rfl, wf, r1, hW, hQ⟩ := h
    have nd := sc_cell.nd
    refine ⟨(tSeq (tIfS (tTest (tOp kLt (tVar 1) (tCB (Wk.rLen K) (tCons (tVar 0) tNil)))) (tRet (tOp (L2.rIxL K) (tVar 0) (tVar 1))) tNext) (tRet (tOp kAdd (tOp kMul (tC (.int 41)) (tVar 1)) (tC (.int 3))))), (pss_cons (ps_if (pt_cmpR op_lt (pv 1) (pe_callB call_len_seq (by rfl) n_len PySem.boot_len (pa_cons (pv 0) pa_nil)) (nomark _)) (pss_one (ps_ret (pe_ix ix_list (pv 0) (pv 1) (fun _ _ => rfl)))) pss_nil) (pss_one (ps_ret (pe_op op_add (pe_op op_mul pe_int (pv 1)) pe_int)))), ?_⟩
    have w := Wf.id wf
    refine q_sq fun N1 hN1 => ?_
    refine a_ifE ?_
    refine e_ans (b := decide (k1 < script1.length)) (t_of (vb_dec (c_lt (val_var rfl) (len_S r1 w.f (val_var rfl))) n_lt)) ?_
    refine b_if (fun hc1 => ?_) (fun hc1 => ?_)
    · have hW := ifP hW hc1
      obtain ⟨x1, hx1_1, hW⟩ := hW
      have ix1 := ix_S (K := K) w.f r1 hx1_1
      refine a_ret (v := (.int (x1))) (ix1 (val_var rfl) (val_var rfl)) ?_
      exact hQ _ hW _ _ w
    · have hW := ifN hW hc1
      refine hN1 _ _ ?_
      refine a_ret (v := (.int ((((41 * k1) + 3 : Nat) : Int)))) (vn_add (vn_mul val_c (val_var rfl) (.inl (by decide))) val_c) ?_
      exact hQ _ hW _ _ w
abbrev s_mix : Stmt := topS 18
/-! _law_mix -/
def W_mix (cell_here1 : Int) (k1 : Nat) (R : Nat → Prop) : Prop := ∀ number1 : Nat, number1 = ((((modN cell_here1 2147483647) * 48271) + (7919 * k1)) + 11) % 2147483647 → (NMul number1 number1) ∧ ∀ number2 : Nat, number2 = (number1 * number1) % 2147483629 → (NMul number2 ((number2 + (48271 * k1)) + 7)) ∧ R ((number2 * ((number2 + (48271 * k1)) + 7)) % 2147483587)
def sp_mix (K : PySem.W.Frag) (cc : Cz) : Sp := fun vs H Q _ => ∃ (F : Hp) (cell_here1 : Int) (k1 : Nat) (R : Nat → Prop), vs = [(.int (cell_here1)), (.int ((k1 : Nat) : Int))] ∧ Ex F H ∧ W_mix cell_here1 k1 R ∧ ∀ z, R z → ∀ F' H', Wf F H F' H' → Q (.int ((z : Nat) : Int)) H'
abbrev N_mix : List Str := ["_law_cell_here", "_law_k", "_law_number"]
theorem sc_mix : FnScope N_mix ["_law_cell_here", "_law_k"] (defScope s_mix) := ⟨rfl, rfl, rfl, by decide +kernel, rfl, by decide +kernel, by decide +kernel⟩
theorem ok_mix {P : Program} {w0 : World} {K : PySem.W.Frag} {mg : Str → Option Value} {base : Heap} {f : Addr} {fd : FuncData} {cc : Cz} (T : Tz K mg cc) (FU : Fun K "_law_mix" "_law_mix" s_mix f fd) (hm : mg "_law_mix" = some (.ref f)) (hb : Binds K fd ["_law_cell_here", "_law_k"] []) : Fn P w0 K mg base CX0 1 "_law_mix" ["_law_cell_here", "_law_k"] (sp_mix K cc) := by
  refine ⟨f, fd, FU.ok sc_mix (fun vs H Q E h => ?_) (fun cdv A outer s H0 vs Q E hr h => ?_), hm, FU.kp, hb⟩
  · obtain ⟨_, _, _, _, rfl, _⟩ := h; rfl
  · obtain ⟨F0, cell_here1, k1, R, rfl, wf, hW, hQ⟩ := h
    have nd := sc_mix.nd
    refine ⟨(tSeq (tAsg (tOp kMod (tOp kAdd (tOp kAdd (tOp kMul (tOp kMod (tVar 0) (tC (.int 2147483647))) (tC (.int 48271))) (tOp kMul (tC (.int 7919)) (tVar 1))) (tC (.int 11))) (tC (.int 2147483647))) (gName 2)) (tSeq (tAsg (tOp kMod (tOp kMul (tVar 2) (tVar 2)) (tC (.int 2147483629))) (gName 2)) (tRet (tOp kMod (tOp kMul (tVar 2) (tOp kAdd (tOp kAdd (tVar 2) (tOp kMul (tC (.int 48271)) (tVar 1))) (tC (.int 7)))) (tC (.int 2147483587)))))), (pss_cons (ps_set (i := 2) nd rfl (Or.inl rfl) (pe_op op_mod (pe_op op_add (pe_op op_add (pe_op op_mul (pe_op op_mod (pv 0) pe_int) pe_int) (pe_op op_mul pe_int (pv 1))) pe_int) pe_int)) (pss_cons (ps_set (i := 2) nd rfl (Or.inl rfl) (pe_op op_mod (pe_op op_mul (pv 2) (pv 2)) pe_int)) (pss_one (ps_ret (pe_op op_mod (pe_op op_mul (pv 2) (pe_op op_add (pe_op op_add (pv 2) (pe_op op_mul pe_int (pv 1))) pe_int)) pe_int))))), ?_⟩
    have w := Wf.id wf
    refine q_sq fun N1 hN1 => ?_
    obtain ⟨number1, enumber1⟩ : ∃ number1 : Nat, number1 = ((((modN cell_here1 2147483647) * 48271) + (7919 * k1)) + 11) % 2147483647 := ⟨_, rfl⟩
    replace hW := hW number1 enumber1
    refine a_asg (v := (.int ((number1 : Nat) : Int))) (v_eq (vn_mod (vn_add (vn_add (vn_mul (vm_mod (val_var rfl) val_c (by decide)) val_c (.inr (by decide))) (vn_mul val_c (val_var rfl) (.inl (by decide)))) val_c) val_c (by decide)) (by rw [enumber1])) ?_
    refine hN1 _ _ ?_
    refine q_sq fun N2 hN2 => ?_
    obtain ⟨c1, hW⟩ := hW
    obtain ⟨number2, enumber2⟩ : ∃ number2 : Nat, number2 = (number1 * number1) % 2147483629 := ⟨_, rfl⟩
    replace hW := hW number2 enumber2
    refine a_asg (v := (.int ((number2 : Nat) : Int))) (v_eq (vn_mod (vn_mul (val_var rfl) (val_var rfl) c1) val_c (by decide)) (by rw [enumber2])) ?_
    refine hN2 _ _ ?_
    obtain ⟨c2, hW⟩ := hW
    refine a_ret (v := (.int (((number2 * ((number2 + (48271 * k1)) + 7)) % 2147483587 : Nat) : Int))) (vn_mod (vn_mul (val_var rfl) (vn_add (vn_add (val_var rfl) (vn_mul val_c (val_var rfl) (.inl (by decide)))) val_c) c2) val_c (by decide)) ?_
    exact hQ _ hW _ _ w
abbrev s_product : Stmt := topS 19
/-! _law_product -/
def W_product (one1 : Nat) (other1 : Nat) (R : Nat → Prop) : Prop := whileW (fun (found1, one2, other2) T => T (decide (0 < other2))) (fun (found1, one2, other2) nx1 bk1 => (NMul one2 (other2 &&& 1)) ∧ ∀ found2 : Nat, found2 = found1 ^^^ (one2 * (other2 &&& 1)) → (NShl one2 1) ∧ ∀ one3 : Nat, one3 = one2 <<< 1 → ∀ other3 : Nat, other3 = other2 >>> 1 → nx1 (found2, one3, other3)) (0, one1, other1) fun (found1, one2, other2) => R found1
def sp_product (K : PySem.W.Frag) (cc : Cz) : Sp := fun vs H Q _ => ∃ (F : Hp) (one1 : Nat) (other1 : Nat) (R : Nat → Prop), vs = [(.int ((one1 : Nat) : Int)), (.int ((other1 : Nat) : Int))] ∧ Ex F H ∧ W_product one1 other1 R ∧ ∀ z, R z → ∀ F' H', Wf F H F' H' → Q (.int ((z : Nat) : Int)) H'
abbrev N_product : List Str := ["_law_one", "_law_other", "_law_found"]
theorem sc_product : FnScope N_product ["_law_one", "_law_other"] (defScope s_product) := ⟨rfl, rfl, rfl, by decide +kernel, rfl, by decide +kernel, by decide +kernel⟩
theorem ok_product {P : Program} {w0 : World} {K : PySem.W.Frag} {mg : Str → Option Value} {base : Heap} {f : Addr} {fd : FuncData} {cc : Cz} (T : Tz K mg cc) (FU : Fun K "_law_product" "_law_product" s_product f fd) (hm : mg "_law_product" = some (.ref f)) (hb : Binds K fd ["_law_one", "_law_other"] []) : Fn P w0 K mg base CX0 1 "_law_product" ["_law_one", "_law_other"] (sp_product K cc) := by
  refine ⟨f, fd, FU.ok sc_product (fun vs H Q E h => ?_) (fun cdv A outer s H0 vs Q E hr h => ?_), hm, FU.kp, hb⟩
  · obtain ⟨_, _, _, _, rfl, _⟩ := h; rfl
  · obtain ⟨F0, one1, other1, R, rfl, wf, hW, hQ⟩ := h
    have nd := sc_product.nd
    refine ⟨(tSeq (tAsg (tC (.int 0)) (gName 2)) (tSeq (tWhile (tTest (tOp kGt (tVar 1) (tC (.int 0)))) (tSeq (tAsg (tOp kXor (tVar 2) (tOp kMul (tVar 0) (tOp kAnd (tVar 1) (tC (.int 1))))) (gName 2)) (tSeq (tAsg (tOp kShl (tVar 0) (tC (.int 1))) (gName 0)) (tAsg (tOp kShr (tVar 1) (tC (.int 1))) (gName 1))))) (tRet (tVar 2)))), (pss_cons (ps_set (i := 2) nd rfl (Or.inl rfl) pe_int) (pss_cons (ps_while PassesOwn.never (pt_cmpR op_gt (pv 1) pe_int (nomark _)) (pss_cons (ps_set (i := 2) nd rfl (Or.inl rfl) (pe_op op_xor (pv 2) (pe_op op_mul (pv 0) (pe_op op_and (pv 1) pe_int)))) (pss_cons (ps_set (i := 0) nd rfl (Or.inl rfl) (pe_op op_shlW (pv 0) pe_int)) (pss_one (ps_set (i := 1) nd rfl (Or.inl rfl) (pe_op op_shr (pv 1) pe_int)))))) (pss_one (ps_ret (pv 2))))), ?_⟩
    have w := Wf.id wf
    refine q_sq fun N1 hN1 => ?_
    refine a_asg (v := (.int ((0 : Nat) : Int))) val_c ?_
    refine hN1 _ _ ?_
    refine q_sq fun N2 hN2 => ?_
    refine w_while (S := Nat × Nat × Nat) (fun s σ' F' H' => match s with | (found1, one2, other2) => Wf F0 H0 F' H' ∧ Ex F0 F' ∧ σ' = [some (.int ((one2 : Nat) : Int)), some (.int ((other2 : Nat) : Int)), some (.int ((found1 : Nat) : Int))]) hW ⟨w, Ex.rfl', rfl⟩ ?_ ?_ ?_
    · intro s1 σ' F1 H1 T1 Qc1 hI1 hW hT1
      obtain ⟨found1, one2, other2⟩ := s1
      obtain ⟨w, gx1, rfl⟩ := hI1
      refine e_ans (b := decide (0 < other2)) (t_of (vb_dec (c_gt (val_var rfl) val_c) n_lt)) ?_
      exact hT1 _ _ _ ⟨w, gx1, rfl⟩ hW
    · intro N3 Bk1 s2 σ' F2 H2 nx1 bk1 hI2 hW hN3 hB1
      obtain ⟨found1, one2, other2⟩ := s2
      obtain ⟨w, gx2, rfl⟩ := hI2
      refine q_sq fun N4 hN4 => ?_
      obtain ⟨c1, hW⟩ := hW
      obtain ⟨found2, efound1⟩ : ∃ found2 : Nat, found2 = found1 ^^^ (one2 * (other2 &&& 1)) := ⟨_, rfl⟩
      replace hW := hW found2 efound1
      refine a_asg (v := (.int ((found2 : Nat) : Int))) (v_eq (vn_xor (val_var rfl) (vn_mul (val_var rfl) (vn_and (val_var rfl) val_c) c1)) (by rw [efound1])) ?_
      refine hN4 _ _ ?_
      refine q_sq fun N5 hN5 => ?_
      obtain ⟨c2, hW⟩ := hW
      obtain ⟨one3, eone1⟩ : ∃ one3 : Nat, one3 = one2 <<< 1 := ⟨_, rfl⟩
      replace hW := hW one3 eone1
      refine a_asg (v := (.int ((one3 : Nat) : Int))) (v_eq (vn_shl (val_var rfl) val_c c2) (by rw [eone1])) ?_
      refine hN5 _ _ ?_
      obtain ⟨other3, eother1⟩ : ∃ other3 : Nat, other3 = other2 >>> 1 := ⟨_, rfl⟩
      replace hW := hW other3 eother1
      refine a_asg (v := (.int ((other3 : Nat) : Int))) (v_eq (vn_shr (val_var rfl) val_c) (by rw [eother1])) ?_
      exact hN3 (found2, one3, other3) _ _ _ ⟨w, gx2, rfl⟩ hW
    · intro s3 σ' F3 H3 hI3 hW
      obtain ⟨found1, one2, other2⟩ := s3
      obtain ⟨w, gx3, rfl⟩ := hI3
      refine hN2 _ _ ?_
      refine a_ret (v := (.int ((found1 : Nat) : Int))) (val_var rfl) ?_
      exact hQ _ hW _ _ w
abbrev s_rest : Stmt := topS 20
/-! _law_rest -/
def W_rest (one1 : Nat) (other1 : Nat) (R : Nat → Prop) : Prop := whileW (fun one2 T => T (decide ((bits other1) ≤ (bits one2)))) (fun one2 nx1 bk1 => (bits other1 ≤ bits one2) ∧ (NShl other1 ((bits one2) - (bits other1))) ∧ ∀ one3 : Nat, one3 = one2 ^^^ (other1 <<< ((bits one2) - (bits other1))) → nx1 one3) one1 fun one2 => R one2
def sp_rest (K : PySem.W.Frag) (cc : Cz) : Sp := fun vs H Q _ => ∃ (F : Hp) (one1 : Nat) (other1 : Nat) (R : Nat → Prop), vs = [(.int ((one1 : Nat) : Int)), (.int ((other1 : Nat) : Int))] ∧ Ex F H ∧ W_rest one1 other1 R ∧ ∀ z, R z → ∀ F' H', Wf F H F' H' → Q (.int ((z : Nat) : Int)) H'
abbrev N_rest : List Str := ["_law_one", "_law_other"]
theorem sc_rest : FnScope N_rest ["_law_one", "_law_other"] (defScope s_rest) := ⟨rfl, rfl, rfl, by decide +kernel, rfl, by decide +kernel, by decide +kernel⟩
theorem ok_rest {P : Program} {w0 : World} {K : PySem.W.Frag} {mg : Str → Option Value} {base : Heap} {f : Addr} {fd : FuncData} {cc : Cz} (T : Tz K mg cc) (FU : Fun K "_law_rest" "_law_rest" s_rest f fd) (hm : mg "_law_rest" = some (.ref f)) (hb : Binds K fd ["_law_one", "_law_other"] []) : Fn P w0 K mg base CX0 1 "_law_rest" ["_law_one", "_law_other"] (sp_rest K cc) := by
  refine ⟨f, fd, FU.ok sc_rest (fun vs H Q E h => ?_) (fun cdv A outer s H0 vs Q E hr h => ?_), hm, FU.kp, hb⟩
  · obtain ⟨_, _, _, _, rfl, _⟩ := h; rfl
  · obtain ⟨F0, one1, other1, R, rfl, wf, hW, hQ⟩ := h
    have nd := sc_rest.nd
    refine ⟨(tSeq (tWhile (tTest (tOp kGe (tBits (tVar 0)) (tBits (tVar 1)))) (tAsg (tOp kXor (tVar 0) (tOp kShl (tVar 1) (tOp kSub (tBits (tVar 0)) (tBits (tVar 1))))) (gName 0))) (tRet (tVar 0))), (pss_cons (ps_while PassesOwn.never (pt_cmpR op_ge (pe_bits (pv 0)) (pe_bits (pv 1)) (nomark _)) (pss_one (ps_set (i := 0) nd rfl (Or.inl rfl) (pe_op op_xor (pv 0) (pe_op op_shlW (pv 1) (pe_op op_sub (pe_bits (pv 0)) (pe_bits (pv 1)))))))) (pss_one (ps_ret (pv 0)))), ?_⟩
    have w := Wf.id wf
    refine q_sq fun N1 hN1 => ?_
    refine w_while (S := Nat) (fun one2 σ' F' H' => Wf F0 H0 F' H' ∧ Ex F0 F' ∧ σ' = [some (.int ((one2 : Nat) : Int)), some (.int ((other1 : Nat) : Int))]) hW ⟨w, Ex.rfl', rfl⟩ ?_ ?_ ?_
    · intro one2 σ' F1 H1 T1 Qc1 hI1 hW hT1
      obtain ⟨w, gx1, rfl⟩ := hI1
      refine e_ans (b := decide ((bits other1) ≤ (bits one2))) (t_of (vb_dec (c_ge (vn_bitl (val_var rfl)) (vn_bitl (val_var rfl))) n_le)) ?_
      exact hT1 _ _ _ ⟨w, gx1, rfl⟩ hW
    · intro N2 Bk1 one2 σ' F2 H2 nx1 bk1 hI2 hW hN2 hB1
      obtain ⟨w, gx2, rfl⟩ := hI2
      obtain ⟨c1, hW⟩ := hW
      obtain ⟨c2, hW⟩ := hW
      obtain ⟨one3, eone1⟩ : ∃ one3 : Nat, one3 = one2 ^^^ (other1 <<< ((bits one2) - (bits other1))) := ⟨_, rfl⟩
      replace hW := hW one3 eone1
      refine a_asg (v := (.int ((one3 : Nat) : Int))) (v_eq (vn_xor (val_var rfl) (vn_shl (val_var rfl) (vn_sub (vn_bitl (val_var rfl)) (vn_bitl (val_var rfl)) c1) c2)) (by rw [eone1])) ?_
      exact hN2 one3 _ _ _ ⟨w, gx2, rfl⟩ hW
    · intro one2 σ' F3 H3 hI3 hW
      obtain ⟨w, gx3, rfl⟩ := hI3
      refine hN1 _ _ ?_
      refine a_ret (v := (.int ((one2 : Nat) : Int))) (val_var rfl) ?_
      exact hQ _ hW _ _ w
abbrev s_power : Stmt := topS 21
/-! _law_power -/
def W_power (exponent1 : Nat) (poly1 : Nat) (R : Nat → Prop) : Prop := W_rest 2 poly1 fun z1 => whileW (fun (found1, square1, exponent2) T => T (decide (0 < exponent2))) (fun (found1, square1, exponent2) nx1 bk1 => jn (fun kk => if (exponent2 &&& 1) = 1 then (W_product found1 square1 fun z2 => W_rest z2 poly1 fun z3 => kk z3) else (kk found1)) fun found2 => W_product square1 square1 fun z4 => W_rest z4 poly1 fun z5 => ∀ exponent3 : Nat, exponent3 = exponent2 >>> 1 → nx1 (found2, z5, exponent3)) (1, z1, exponent1) fun (found1, square1, exponent2) => R found1
def sp_power (K : PySem.W.Frag) (cc : Cz) : Sp := fun vs H Q _ => ∃ (F : Hp) (exponent1 : Nat) (poly1 : Nat) (R : Nat → Prop), vs = [(.int ((exponent1 : Nat) : Int)), (.int ((poly1 : Nat) : Int))] ∧ Ex F H ∧ W_power exponent1 poly1 R ∧ ∀ z, R z → ∀ F' H', Wf F H F' H' → Q (.int ((z : Nat) : Int)) H'
abbrev N_power : List Str := ["_law_exponent", "_law_poly", "_law_found", "_law_square"]
theorem sc_power : FnScope N_power ["_law_exponent", "_law_poly"] (defScope s_power) := ⟨rfl, rfl, rfl, by decide +kernel, rfl, by decide +kernel, by decide +kernel⟩
theorem ok_power {P : Program} {w0 : World} {K : PySem.W.Frag} {mg : Str → Option Value} {base : Heap} {f : Addr} {fd : FuncData} {cc : Cz} (T : Tz K mg cc) (FU : Fun K "_law_power" "_law_power" s_power f fd) (hm : mg "_law_power" = some (.ref f)) (hb : Binds K fd ["_law_exponent", "_law_poly"] []) (c_rest : Fn P w0 K mg base CX0 1 "_law_rest" ["_law_one", "_law_other"] (sp_rest K cc)) (c_product : Fn P w0 K mg base CX0 1 "_law_product" ["_law_one", "_law_other"] (sp_product K cc)) : Fn P w0 K mg base CX0 2 "_law_power" ["_law_exponent", "_law_poly"] (sp_power K cc) := by
  refine ⟨f, fd, FU.ok sc_power (fun vs H Q E h => ?_) (fun cdv A outer s H0 vs Q E hr h => ?_), hm, FU.kp, hb⟩
  · obtain ⟨_, _, _, _, rfl, _⟩ := h; rfl
  · obtain ⟨F0, exponent1, poly1, R, rfl, wf, hW, hQ⟩ := h
    have nd := sc_power.nd
    refine ⟨(tSeq (tAsg (tC (.int 1)) (gName 2)) (tSeq (tAsg (tCall (sp_rest K cc) [] E0 (tCons (tC (.int 2)) (tCons (tVar 1) tNil))) (gName 3)) (tSeq (tWhile (tTest (tOp kGt (tVar 0) (tC (.int 0)))) (tSeq (tIfS (tTest (tOp L2.rEq (tOp kAnd (tVar 0) (tC (.int 1))) (tC (.int 1)))) (tAsg (tCall (sp_rest K cc) [] E0 (tCons (tCall (sp_product K cc) [] E0 (tCons (tVar 2) (tCons (tVar 3) tNil))) (tCons (tVar 1) tNil))) (gName 2)) tNext) (tSeq (tAsg (tCall (sp_rest K cc) [] E0 (tCons (tCall (sp_product K cc) [] E0 (tCons (tVar 3) (tCons (tVar 3) tNil))) (tCons (tVar 1) tNil))) (gName 3)) (tAsg (tOp kShr (tVar 0) (tC (.int 1))) (gName 0))))) (tRet (tVar 2))))), (pss_cons (ps_set (i := 2) nd rfl (Or.inl rfl) pe_int) (pss_cons (ps_set (i := 3) nd rfl (Or.inl rfl) (pe_fn c_rest (hr.mono (by decide)) rfl (pa_cons pe_int (pa_cons (pv 1) pa_nil)))) (pss_cons (ps_while PassesOwn.never (pt_cmpR op_gt (pv 0) pe_int (nomark _)) (pss_cons (ps_if (pt_cmpR op_eq (pe_op op_and (pv 0) pe_int) pe_int (nomark _)) (pss_one (ps_set (i := 2) nd rfl (Or.inl rfl) (pe_fn c_rest (hr.mono (by decide)) rfl (pa_cons (pe_fn c_product (hr.mono (by decide)) rfl (pa_cons (pv 2) (pa_cons (pv 3) pa_nil))) (pa_cons (pv 1) pa_nil))))) pss_nil) (pss_cons (ps_set (i := 3) nd rfl (Or.inl rfl) (pe_fn c_rest (hr.mono (by decide)) rfl (pa_cons (pe_fn c_product (hr.mono (by decide)) rfl (pa_cons (pv 3) (pa_cons (pv 3) pa_nil))) (pa_cons (pv 1) pa_nil)))) (pss_one (ps_set (i := 0) nd rfl (Or.inl rfl) (pe_op op_shr (pv 0) pe_int)))))) (pss_one (ps_ret (pv 2)))))), ?_⟩
    have w := Wf.id wf
    refine q_sq fun N1 hN1 => ?_
    refine a_asg (v := (.int ((1 : Nat) : Int))) val_c ?_
    refine hN1 _ _ ?_
    refine q_sq fun N2 hN2 => ?_
    refine a_asgE ?_
    refine e_call ?_
    refine a_val (v := (.int ((2 : Nat) : Int))) val_c ?_
    refine a_val (v := (.int ((poly1 : Nat) : Int))) (val_var rfl) ?_
    refine a_nil ?_
    refine ⟨F0, (2), (poly1), _, rfl, w.f, hW, ?_⟩
    intro z1 hW F1 H1 s1
    replace w := w.tr s1
    refine hN2 _ _ ?_
    refine q_sq fun N3 hN3 => ?_
    refine w_while (S := Nat × Nat × Nat) (fun s σ' F' H' => match s with | (found1, square1, exponent2) => Wf F0 H0 F' H' ∧ Ex F1 F' ∧ σ' = [some (.int ((exponent2 : Nat) : Int)), some (.int ((poly1 : Nat) : Int)), some (.int ((found1 : Nat) : Int)), some (.int ((square1 : Nat) : Int))]) hW ⟨w, Ex.rfl', rfl⟩ ?_ ?_ ?_
    · intro s2 σ' F2 H2 T1 Qc1 hI1 hW hT1
      obtain ⟨found1, square1, exponent2⟩ := s2
      obtain ⟨w, gx1, rfl⟩ := hI1
      refine e_ans (b := decide (0 < exponent2)) (t_of (vb_dec (c_gt (val_var rfl) val_c) n_lt)) ?_
      exact hT1 _ _ _ ⟨w, gx1, rfl⟩ hW
    · intro N4 Bk1 s3 σ' F3 H3 nx1 bk1 hI2 hW hN4 hB1
      obtain ⟨found1, square1, exponent2⟩ := s3
      obtain ⟨w, gx2, rfl⟩ := hI2
      refine q_jn (S := Nat) hW (fun found2 σ' F' H' => Wf F0 H0 F' H' ∧ Ex F3 F' ∧ σ' = [some (.int ((exponent2 : Nat) : Int)), some (.int ((poly1 : Nat) : Int)), some (.int ((found2 : Nat) : Int)), some (.int ((square1 : Nat) : Int))]) ?_ ?_
      · intro N5 hN5 hW
        have gx3 : Ex F3 F3 := Ex.rfl'
        refine a_ifE ?_
        refine e_ans (b := decide ((exponent2 &&& 1) = 1)) (t_of (vb_dec (c_eqI (vn_and (val_var rfl) val_c) val_c) n_eq)) ?_
        refine b_if (fun hc1 => ?_) (fun hc1 => ?_)
        · have hW := ifP hW hc1
          refine a_asgE ?_
          refine e_call ?_
          refine a_cons ?_
          refine e_call ?_
          refine a_val (v := (.int ((found1 : Nat) : Int))) (val_var rfl) ?_
          refine a_val (v := (.int ((square1 : Nat) : Int))) (val_var rfl) ?_
          refine a_nil ?_
          refine ⟨F3, (found1), (square1), _, rfl, w.f, hW, ?_⟩
          intro z2 hW F4 H4 s4
          replace w := w.tr s4
          replace gx3 := Ex.tr gx3 s4.g
          replace gx2 := Ex.tr gx2 s4.g
          refine a_val (v := (.int ((poly1 : Nat) : Int))) (val_var rfl) ?_
          refine a_nil ?_
          refine ⟨F4, (z2), (poly1), _, rfl, w.f, hW, ?_⟩
          intro z3 hW F5 H5 s5
          replace w := w.tr s5
          replace gx3 := Ex.tr gx3 s5.g
          replace gx2 := Ex.tr gx2 s5.g
          exact hN5 z3 _ _ _ ⟨w, gx3, rfl⟩ hW
        · have hW := ifN hW hc1
          exact hN5 found1 _ _ _ ⟨w, gx3, rfl⟩ hW
      · intro found2 σ' F6 H6 hI3 hW
        obtain ⟨w, gx4, rfl⟩ := hI3
        have gx2 := Ex.tr gx2 gx4
        refine q_sq fun N6 hN6 => ?_
        refine a_asgE ?_
        refine e_call ?_
        refine a_cons ?_
        refine e_call ?_
        refine a_val (v := (.int ((square1 : Nat) : Int))) (val_var rfl) ?_
        refine a_val (v := (.int ((square1 : Nat) : Int))) (val_var rfl) ?_
        refine a_nil ?_
        refine ⟨F6, (square1), (square1), _, rfl, w.f, hW, ?_⟩
        intro z4 hW F7 H7 s7
        replace w := w.tr s7
        replace gx4 := Ex.tr gx4 s7.g
        replace gx2 := Ex.tr gx2 s7.g
        refine a_val (v := (.int ((poly1 : Nat) : Int))) (val_var rfl) ?_
        refine a_nil ?_
        refine ⟨F7, (z4), (poly1), _, rfl, w.f, hW, ?_⟩
        intro z5 hW F8 H8 s8
        replace w := w.tr s8
        replace gx4 := Ex.tr gx4 s8.g
        replace gx2 := Ex.tr gx2 s8.g
        refine hN6 _ _ ?_
        obtain ⟨exponent3, eexponent1⟩ : ∃ exponent3 : Nat, exponent3 = exponent2 >>> 1 := ⟨_, rfl⟩
        replace hW := hW exponent3 eexponent1
        refine a_asg (v := (.int ((exponent3 : Nat) : Int))) (v_eq (vn_shr (val_var rfl) val_c) (by rw [eexponent1])) ?_
        exact hN4 (found2, z5, exponent3) _ _ _ ⟨w, gx2, rfl⟩ hW
    · intro s9 σ' F9 H9 hI4 hW
      obtain ⟨found1, square1, exponent2⟩ := s9
      obtain ⟨w, gx5, rfl⟩ := hI4
      refine hN3 _ _ ?_
      refine a_ret (v := (.int ((found1 : Nat) : Int))) (val_var rfl) ?_
      exact hQ _ hW _ _ w
abbrev s_primes : Stmt := topS 22
/-! _law_primes -/
def W_primes (number1 : Nat) (R : (List Nat) → Prop) : Prop := whileW (fun (found1, number2, one1) T => (NMul one1 one1) ∧ T (decide ((one1 * one1) ≤ number2))) (fun (found1, number2, one1) nx1 bk1 => jn (fun kk => (0 < one1) ∧ if (number2 % one1) = 0 then ((found1.length < 1000000) ∧ kk (found1 ++ [one1])) else (kk found1)) fun found2 => whileW (fun number3 T => (0 < one1) ∧ T (decide ((number3 % one1) = 0))) (fun number3 nx2 bk2 => (NDiv one1) ∧ ∀ number4 : Nat, number4 = number3 / one1 → nx2 number4) number2 fun number3 => ∀ one2 : Nat, one2 = one1 + 1 → nx1 (found2, number3, one2)) (([] : List Nat), number1, 2) fun (found1, number2, one1) => ([number2].length * (Bool.toNat (decide (1 < number2))) < 1000000 ∧ Bool.toNat (decide (1 < number2)) < 1000000) ∧ (found1.length + ((List.replicate (Bool.toNat (decide (1 < number2))) [number2]).flatten).length < 1000000) ∧ R (found1 ++ ((List.replicate (Bool.toNat (decide (1 < number2))) [number2]).flatten))
def sp_primes (K : PySem.W.Frag) (cc : Cz) : Sp := fun vs H Q _ => ∃ (F : Hp) (number1 : Nat) (R : (List Nat) → Prop), vs = [(.int ((number1 : Nat) : Int))] ∧ Ex F H ∧ W_primes number1 R ∧ ∀ z, R z → ∀ p F' H', Wf F H F' H' → XL pN H F' H' p z → Q (.ref p) H'
abbrev N_primes : List Str := ["_law_number", "_law_found", "_law_one"]
theorem sc_primes : FnScope N_primes ["_law_number"] (defScope s_primes) := ⟨rfl, rfl, rfl, by decide +kernel, rfl, by decide +kernel, by decide +kernel⟩
theorem ok_primes {P : Program} {w0 : World} {K : PySem.W.Frag} {mg : Str → Option Value} {base : Heap} {f : Addr} {fd : FuncData} {cc : Cz} (T : Tz K mg cc) (FU : Fun K "_law_primes" "_law_primes" s_primes f fd) (hm : mg "_law_primes" = some (.ref f)) (hb : Binds K fd ["_law_number"] []) (n_int : mg "int" = none) : Fn P w0 K mg base CX0 1 "_law_primes" ["_law_number"] (sp_primes K cc) := by
  refine ⟨f, fd, FU.ok sc_primes (fun vs H Q E h => ?_) (fun cdv A outer s H0 vs Q E hr h => ?_), hm, FU.kp, hb⟩
  · obtain ⟨_, _, _, rfl, _⟩ := h; rfl
  · obtain ⟨F0, number1, R, rfl, wf, hW, hQ⟩ := h
    have nd := sc_primes.nd
    refine ⟨(tSeq (tAsg (tLst tNil) (gName 1)) (tSeq (tAsg (tC (.int 2)) (gName 2)) (tSeq (tWhile (tTest (tOp kLe (tOp kMul (tVar 2) (tVar 2)) (tVar 0))) (tSeq (tIfS (tTest (tOp L2.rEq (tOp kMod (tVar 0) (tVar 2)) (tC (.int 0)))) (tDrop (tBM K "list" rAppend (tVar 1) (tCons (tVar 2) tNil))) tNext) (tSeq (tWhile (tTest (tOp L2.rEq (tOp kMod (tVar 0) (tVar 2)) (tC (.int 0)))) (tAsg (tOp kDiv (tVar 0) (tVar 2)) (gName 0))) (tAsg (tOp kAdd (tVar 2) (tC (.int 1))) (gName 2))))) (tRet (tOp L2.rCat (tVar 1) (tOp L2.rRep (tLst (tCons (tVar 0) tNil)) (tCB rInt1 (tCons (tOp kGt (tVar 0) (tC (.int 1))) tNil)))))))), (pss_cons (ps_set (i := 1) nd rfl (Or.inl rfl) (pe_lst pa_nil)) (pss_cons (ps_set (i := 2) nd rfl (Or.inl rfl) pe_int) (pss_cons (ps_while PassesOwn.never (pt_cmpR op_le (pe_op op_mul (pv 2) (pv 2)) (pv 0) (nomark _)) (pss_cons (ps_if (pt_cmpR op_eq (pe_op op_mod (pv 0) (pv 2)) pe_int (nomark _)) (pss_one (ps_expr (pe_bm PySem.F.plainAttrs_list PySem.F.slot_list_append PySem.F.type_list_append mt_append (pv 1) (pa_cons (pv 2) pa_nil)))) pss_nil) (pss_cons (ps_while PassesOwn.never (pt_cmpR op_eq (pe_op op_mod (pv 0) (pv 2)) pe_int (nomark _)) (pss_one (ps_set (i := 0) nd rfl (Or.inl rfl) (pe_op op_fdivW (pv 0) (pv 2))))) (pss_one (ps_set (i := 2) nd rfl (Or.inl rfl) (pe_op op_add (pv 2) pe_int)))))) (pss_one (ps_ret (pe_op op_cat (pv 1) (pe_op op_rep (pe_lst (pa_cons (pv 0) pa_nil)) (pe_callTy call_int1 (by rfl) n_int PyProof.Rows.boot_int (pa_cons (pe_cmpR op_gt (pv 0) pe_int (nomark _)) pa_nil))))))))), ?_⟩
    have w := Wf.id wf
    refine q_sq fun N1 hN1 => ?_
    refine a_asgE ?_
    refine e_lst ?_
    refine a_nil ?_
    refine n_lstX (e := pN) (xs := []) (vs := []) (show All pN _ [] [] from trivial) (show 0 < 1000000 from by decide) w ?_
    intro p1 H1 hp1 s1 x1
    replace w := w.tr s1
    refine hN1 _ _ ?_
    refine q_sq fun N2 hN2 => ?_
    refine a_asg (v := (.int ((2 : Nat) : Int))) val_c ?_
    refine hN2 _ _ ?_
    refine q_sq fun N3 hN3 => ?_
    refine w_while (S := List Nat × Nat × Nat) (fun s σ' F' H' => match s with | (found1, number2, one1) => Wf F0 H0 F' H' ∧ Ex F0 F' ∧ σ' = [some (.int ((number2 : Nat) : Int)), some ((.ref p1)), some (.int ((one1 : Nat) : Int))] ∧ XL pN H0 F' H' p1 found1) hW ⟨w, Ex.rfl', rfl, x1⟩ ?_ ?_ ?_
    · intro s2 σ' F1 H2 T1 Qc1 hI1 hW hT1
      obtain ⟨found1, number2, one1⟩ := s2
      obtain ⟨w, gx1, rfl, x2⟩ := hI1
      obtain ⟨c1, hW⟩ := hW
      refine e_ans (b := decide ((one1 * one1) ≤ number2)) (t_of (vb_dec (c_le (vn_mul (val_var rfl) (val_var rfl) c1) (val_var rfl)) n_le)) ?_
      exact hT1 _ _ _ ⟨w, gx1, rfl, x2⟩ hW
    · intro N4 Bk1 s3 σ' F2 H3 nx1 bk1 hI2 hW hN4 hB1
      obtain ⟨found1, number2, one1⟩ := s3
      obtain ⟨w, gx2, rfl, x2⟩ := hI2
      refine q_jn (S := List Nat) hW (fun found2 σ' F' H' => Wf F0 H0 F' H' ∧ Ex F2 F' ∧ σ' = [some (.int ((number2 : Nat) : Int)), some ((.ref p1)), some (.int ((one1 : Nat) : Int))] ∧ XL pN H0 F' H' p1 found2) ?_ ?_
      · intro N5 hN5 hW
        have gx3 : Ex F2 F2 := Ex.rfl'
        refine a_ifE ?_
        obtain ⟨c2, hW⟩ := hW
        refine e_ans (b := decide ((number2 % one1) = 0)) (t_of (vb_dec (c_eqI (vn_mod (val_var rfl) (val_var rfl) c2) val_c) n_eq)) ?_
        refine b_if (fun hc1 => ?_) (fun hc1 => ?_)
        · have hW := ifP hW hc1
          refine a_dropE ?_
          refine m_list x2 (val_var rfl) ?_
          refine a_val (v := (.int ((one1 : Nat) : Int))) (val_var rfl) ?_
          refine a_nil ?_
          obtain ⟨c3, hW⟩ := hW
          refine a_app x2 w c3 rfl (fun H4 w1 x4 kp1 => ?_)
          replace w := w1
          exact hN5 (found1 ++ [one1]) _ _ _ ⟨w, gx3, rfl, x4⟩ hW
        · have hW := ifN hW hc1
          exact hN5 found1 _ _ _ ⟨w, gx3, rfl, x2⟩ hW
      · intro found2 σ' F3 H5 hI3 hW
        obtain ⟨w, gx4, rfl, x3⟩ := hI3
        have gx2 := Ex.tr gx2 gx4
        refine q_sq fun N6 hN6 => ?_
        refine w_while (S := Nat) (fun number3 σ' F' H' => Wf F0 H0 F' H' ∧ Ex F3 F' ∧ σ' = [some (.int ((number3 : Nat) : Int)), some (.ref p1), some (.int ((one1 : Nat) : Int))] ∧ XL pN H0 F' H' p1 found2) hW ⟨w, Ex.rfl', rfl, x3⟩ ?_ ?_ ?_
        · intro number3 σ' F4 H6 T2 Qc2 hI4 hW hT2
          obtain ⟨w, gx5, rfl, x5⟩ := hI4
          have gx4 := Ex.tr gx4 gx5
          have gx2 := Ex.tr gx2 gx5
          obtain ⟨c4, hW⟩ := hW
          refine e_ans (b := decide ((number3 % one1) = 0)) (t_of (vb_dec (c_eqI (vn_mod (val_var rfl) (val_var rfl) c4) val_c) n_eq)) ?_
          exact hT2 _ _ _ ⟨w, gx5, rfl, x5⟩ hW
        · intro N7 Bk2 number3 σ' F5 H7 nx2 bk2 hI5 hW hN7 hB2
          obtain ⟨w, gx6, rfl, x5⟩ := hI5
          have gx4 := Ex.tr gx4 gx6
          have gx2 := Ex.tr gx2 gx6
          obtain ⟨c5, hW⟩ := hW
          obtain ⟨number4, enumber1⟩ : ∃ number4 : Nat, number4 = number3 / one1 := ⟨_, rfl⟩
          replace hW := hW number4 enumber1
          refine a_asg (v := (.int ((number4 : Nat) : Int))) (v_eq (vn_div (val_var rfl) (val_var rfl) c5) (by rw [enumber1])) ?_
          exact hN7 number4 _ _ _ ⟨w, gx6, rfl, x5⟩ hW
        · intro number3 σ' F6 H8 hI6 hW
          obtain ⟨w, gx7, rfl, x5⟩ := hI6
          have gx4 := Ex.tr gx4 gx7
          have gx2 := Ex.tr gx2 gx7
          refine hN6 _ _ ?_
          obtain ⟨one2, eone1⟩ : ∃ one2 : Nat, one2 = one1 + 1 := ⟨_, rfl⟩
          replace hW := hW one2 eone1
          refine a_asg (v := (.int ((one2 : Nat) : Int))) (v_eq (vn_add (val_var rfl) val_c) (by rw [eone1])) ?_
          exact hN4 (found2, number3, one2) _ _ _ ⟨w, gx2, rfl, x5⟩ hW
    · intro s8 σ' F7 H9 hI7 hW
      obtain ⟨found1, number2, one1⟩ := s8
      obtain ⟨w, gx8, rfl, x2⟩ := hI7
      refine hN3 _ _ ?_
      refine a_retE ?_
      refine e_op ?_
      refine e_val (v := (.ref p1)) (val_var rfl) ?_
      refine e_op ?_
      refine e_lst ?_
      refine a_val (v := (.int ((number2 : Nat) : Int))) (val_var rfl) ?_
      refine a_nil ?_
      refine n_lstX (e := pN) (xs := [number2]) (vs := [(.int ((number2 : Nat) : Int))]) (show All pN _ [(.int ((number2 : Nat) : Int))] [number2] from ⟨rfl, trivial⟩) (show 1 < 1000000 from by decide) w ?_
      intro p2 H10 hp2 s9 x6
      have ne1 := x2.ne hp2
      replace x2 := x2.step s9
      replace w := w.tr s9
      replace gx8 := Ex.tr gx8 s9.g
      refine e_val (v := (.int ((Bool.toNat (decide (1 < number2)) : Nat) : Int))) (v_intB (vb_dec (c_gt (val_var rfl) val_c) n_lt)) ?_
      obtain ⟨F8, w2, g1, r1, fz1⟩ := x6.frzE w
      replace x2 := x2.frzO fz1 ne1 g1
      replace w := w2
      replace gx8 := Ex.tr gx8 g1
      obtain ⟨c6, hW⟩ := hW
      refine n_rep (n := Bool.toNat (decide (1 < number2))) r1 w c6.1 c6.2 ?_
      intro p3 H11 hp3 s10 x7
      have ne2 := x2.ne hp3
      replace x2 := x2.step s10
      replace r1 := Rep.mono _ s10.g r1
      replace w := w.tr s10
      replace gx8 := Ex.tr gx8 s10.g
      obtain ⟨F9, w3, g2, r2, fz2⟩ := x2.frzE w
      replace r1 := Rep.mono _ g2 r1
      replace x7 := x7.frzO fz2 (Ne.symm ne2) g2
      replace w := w3
      replace gx8 := Ex.tr gx8 g2
      obtain ⟨F10, w4, g3, r3, fz3⟩ := x7.frzE w
      replace r2 := Rep.mono _ g3 r2
      replace r1 := Rep.mono _ g3 r1
      replace w := w4
      replace gx8 := Ex.tr gx8 g3
      obtain ⟨c7, hW⟩ := hW
      refine n_cat r2 r3 w c7 ?_
      intro p4 H12 hp4 s11 x8
      replace r2 := Rep.mono _ s11.g r2
      replace r1 := Rep.mono _ s11.g r1
      replace r3 := Rep.mono _ s11.g r3
      replace w := w.tr s11
      replace gx8 := Ex.tr gx8 s11.g
      exact hQ _ hW _ _ _ w x8
abbrev s_drawn : Stmt := topS 23
/-! _law_drawn -/
def W_drawn (cell_here1 : Int) (R : Nat → Prop) : Prop := if (modN cell_here1 3) = 0 then (R (3 + (2 * (modN (cell_here1 / ((3 : Nat) : Int)) 65535)))) else (W_mix cell_here1 1 fun z1 => ∀ one1 : Nat, one1 = 3 + (2 * (z1 % 7)) → if (modN cell_here1 3) = 1 then (W_mix cell_here1 2 fun z2 => ∀ other1 : Nat, other1 = 3 + (2 * (z2 % 31)) → W_product one1 other1 fun z3 => W_mix cell_here1 3 fun z4 => W_product z3 (3 + (2 * (z4 % 15))) fun z5 => R z5) else (W_mix cell_here1 4 fun z6 => (z6 % 4 < 1000000) ∧ forW (List.range (z6 % 4)) one1 (fun lap1 found1 nx1 bk1 => W_product found1 one1 fun z7 => nx1 z7) fun found1 => R found1))
def sp_drawn (K : PySem.W.Frag) (cc : Cz) : Sp := fun vs H Q _ => ∃ (F : Hp) (cell_here1 : Int) (R : Nat → Prop), vs = [(.int (cell_here1))] ∧ Ex F H ∧ W_drawn cell_here1 R ∧ ∀ z, R z → ∀ F' H', Wf F H F' H' → Q (.int ((z : Nat) : Int)) H'
abbrev N_drawn : List Str := ["_law_cell_here", "_law_one", "_law_other", "_law_found", "_law_lap"]
theorem sc_drawn : FnScope N_drawn ["_law_cell_here"] (defScope s_drawn) := ⟨rfl, rfl, rfl, by decide +kernel, rfl, by decide +kernel, by decide +kernel⟩
theorem ok_drawn {P : Program} {w0 : World} {K : PySem.W.Frag} {mg : Str → Option Value} {base : Heap} {f : Addr} {fd : FuncData} {cc : Cz} (T : Tz K mg cc) (FU : Fun K "_law_drawn" "_law_drawn" s_drawn f fd) (hm : mg "_law_drawn" = some (.ref f)) (hb : Binds K fd ["_law_cell_here"] []) (c_mix : Fn P w0 K mg base CX0 1 "_law_mix" ["_law_cell_here", "_law_k"] (sp_mix K cc)) (c_product : Fn P w0 K mg base CX0 1 "_law_product" ["_law_one", "_law_other"] (sp_product K cc)) (n_range : mg "range" = none) : Fn P w0 K mg base CX0 2 "_law_drawn" ["_law_cell_here"] (sp_drawn K cc) := by
  refine ⟨f, fd, FU.ok sc_drawn (fun vs H Q E h => ?_) (fun cdv A outer s H0 vs Q E hr h => ?_), hm, FU.kp, hb⟩
  · obtain ⟨_, _, _, rfl, _⟩ := h; rfl
  · obtain ⟨F0, cell_here1, R, rfl, wf, hW, hQ⟩ := h
    have nd := sc_drawn.nd
    refine ⟨(tSeq (tIfS (tTest (tOp L2.rEq (tOp kMod (tVar 0) (tC (.int 3))) (tC (.int 0)))) (tRet (tOp kAdd (tC (.int 3)) (tOp kMul (tC (.int 2)) (tOp kMod (tOp kDiv (tVar 0) (tC (.int 3))) (tC (.int 65535)))))) tNext) (tSeq (tAsg (tOp kAdd (tC (.int 3)) (tOp kMul (tC (.int 2)) (tOp kMod (tCall (sp_mix K cc) [] E0 (tCons (tVar 0) (tCons (tC (.int 1)) tNil))) (tC (.int 7))))) (gName 1)) (tSeq (tIfS (tTest (tOp L2.rEq (tOp kMod (tVar 0) (tC (.int 3))) (tC (.int 1)))) (tSeq (tAsg (tOp kAdd (tC (.int 3)) (tOp kMul (tC (.int 2)) (tOp kMod (tCall (sp_mix K cc) [] E0 (tCons (tVar 0) (tCons (tC (.int 2)) tNil))) (tC (.int 31))))) (gName 2)) (tRet (tCall (sp_product K cc) [] E0 (tCons (tCall (sp_product K cc) [] E0 (tCons (tVar 1) (tCons (tVar 2) tNil))) (tCons (tOp kAdd (tC (.int 3)) (tOp kMul (tC (.int 2)) (tOp kMod (tCall (sp_mix K cc) [] E0 (tCons (tVar 0) (tCons (tC (.int 3)) tNil))) (tC (.int 15))))) tNil))))) tNext) (tSeq (tAsg (tVar 1) (gName 3)) (tSeq (tFor (iRng1 (tCons (tOp kMod (tCall (sp_mix K cc) [] E0 (tCons (tVar 0) (tCons (tC (.int 4)) tNil))) (tC (.int 4))) tNil)) (gName 4) (tAsg (tCall (sp_product K cc) [] E0 (tCons (tVar 3) (tCons (tVar 1) tNil))) (gName 3))) (tRet (tVar 3))))))), (pss_cons (ps_if (pt_cmpR op_eq (pe_op op_mod (pv 0) pe_int) pe_int (nomark _)) (pss_one (ps_ret (pe_op op_add pe_int (pe_op op_mul pe_int (pe_op op_mod (pe_op op_fdivW (pv 0) pe_int) pe_int))))) pss_nil) (pss_cons (ps_set (i := 1) nd rfl (Or.inl rfl) (pe_op op_add pe_int (pe_op op_mul pe_int (pe_op op_mod (pe_fn c_mix (hr.mono (by decide)) rfl (pa_cons (pv 0) (pa_cons pe_int pa_nil))) pe_int)))) (pss_cons (ps_if (pt_cmpR op_eq (pe_op op_mod (pv 0) pe_int) pe_int (nomark _)) (pss_cons (ps_set (i := 2) nd rfl (Or.inl rfl) (pe_op op_add pe_int (pe_op op_mul pe_int (pe_op op_mod (pe_fn c_mix (hr.mono (by decide)) rfl (pa_cons (pv 0) (pa_cons pe_int pa_nil))) pe_int)))) (pss_one (ps_ret (pe_fn c_product (hr.mono (by decide)) rfl (pa_cons (pe_fn c_product (hr.mono (by decide)) rfl (pa_cons (pv 1) (pa_cons (pv 2) pa_nil))) (pa_cons (pe_op op_add pe_int (pe_op op_mul pe_int (pe_op op_mod (pe_fn c_mix (hr.mono (by decide)) rfl (pa_cons (pv 0) (pa_cons pe_int pa_nil))) pe_int))) pa_nil)))))) pss_nil) (pss_cons (ps_set (i := 3) nd rfl (Or.inl rfl) (pv 1)) (pss_cons (ps_for PassesOwn.never rfl (pi_range1 rfl n_range (pa_cons (pe_op op_mod (pe_fn c_mix (hr.mono (by decide)) rfl (pa_cons (pv 0) (pa_cons pe_int pa_nil))) pe_int) pa_nil)) (pg_name (i := 4) nd rfl (Or.inl rfl)) (pss_one (ps_set (i := 3) nd rfl (Or.inl rfl) (pe_fn c_product (hr.mono (by decide)) rfl (pa_cons (pv 3) (pa_cons (pv 1) pa_nil)))))) (pss_one (ps_ret (pv 3)))))))), ?_⟩
    have w := Wf.id wf
    refine q_sq fun N1 hN1 => ?_
    refine a_ifE ?_
    refine e_ans (b := decide ((modN cell_here1 3) = 0)) (t_of (vb_dec (c_eqI (vm_mod (val_var rfl) val_c (by decide)) val_c) n_eq)) ?_
    refine b_if (fun hc1 => ?_) (fun hc1 => ?_)
    · have hW := ifP hW hc1
      refine a_ret (v := (.int ((3 + (2 * (modN (cell_here1 / ((3 : Nat) : Int)) 65535)) : Nat) : Int))) (vn_add val_c (vn_mul val_c (vm_mod (vi_div (val_var rfl) val_c ⟨by decide, by decide +kernel⟩) val_c (by decide)) (.inl (by decide)))) ?_
      exact hQ _ hW _ _ w
    · have hW := ifN hW hc1
      refine hN1 _ _ ?_
      refine q_sq fun N2 hN2 => ?_
      refine a_asgE ?_
      refine e_op ?_
      refine e_val (v := (.int ((3 : Nat) : Int))) val_c ?_
      refine e_op ?_
      refine e_val (v := (.int ((2 : Nat) : Int))) val_c ?_
      refine e_op ?_
      refine e_call ?_
      refine a_val (v := (.int (cell_here1))) (val_var rfl) ?_
      refine a_val (v := (.int ((1 : Nat) : Int))) val_c ?_
      refine a_nil ?_
      refine ⟨F0, (cell_here1), (1), _, rfl, w.f, hW, ?_⟩
      intro z1 hW F1 H1 s1
      replace w := w.tr s1
      refine e_val (v := (.int ((7 : Nat) : Int))) val_c ?_
      refine rv2 (z := (.int ((z1 % 7 : Nat) : Int))) (vn_mod val_c val_c (by decide)) ?_
      refine rv2 (z := (.int ((2 * (z1 % 7) : Nat) : Int))) (vn_mul val_c val_c (.inl (by decide))) ?_
      refine rv2 (z := (.int ((3 + (2 * (z1 % 7)) : Nat) : Int))) (vn_add val_c val_c) ?_
      obtain ⟨one1, eone1⟩ : ∃ one1 : Nat, one1 = 3 + (2 * (z1 % 7)) := ⟨_, rfl⟩
      replace hW := hW one1 eone1
      refine nx_set (v := (.int ((one1 : Nat) : Int))) (by rw [eone1]) ?_
      refine hN2 _ _ ?_
      refine q_sq fun N3 hN3 => ?_
      refine a_ifE ?_
      refine e_ans (b := decide ((modN cell_here1 3) = 1)) (t_of (vb_dec (c_eqI (vm_mod (val_var rfl) val_c (by decide)) val_c) n_eq)) ?_
      refine b_if (fun hc2 => ?_) (fun hc2 => ?_)
      · have hW := ifP hW hc2
        refine q_sq fun N4 hN4 => ?_
        refine a_asgE ?_
        refine e_op ?_
        refine e_val (v := (.int ((3 : Nat) : Int))) val_c ?_
        refine e_op ?_
        refine e_val (v := (.int ((2 : Nat) : Int))) val_c ?_
        refine e_op ?_
        refine e_call ?_
        refine a_val (v := (.int (cell_here1))) (val_var rfl) ?_
        refine a_val (v := (.int ((2 : Nat) : Int))) val_c ?_
        refine a_nil ?_
        refine ⟨F1, (cell_here1), (2), _, rfl, w.f, hW, ?_⟩
        intro z2 hW F2 H2 s2
        replace w := w.tr s2
        refine e_val (v := (.int ((31 : Nat) : Int))) val_c ?_
        refine rv2 (z := (.int ((z2 % 31 : Nat) : Int))) (vn_mod val_c val_c (by decide)) ?_
        refine rv2 (z := (.int ((2 * (z2 % 31) : Nat) : Int))) (vn_mul val_c val_c (.inl (by decide))) ?_
        refine rv2 (z := (.int ((3 + (2 * (z2 % 31)) : Nat) : Int))) (vn_add val_c val_c) ?_
        obtain ⟨other1, eother1⟩ : ∃ other1 : Nat, other1 = 3 + (2 * (z2 % 31)) := ⟨_, rfl⟩
        replace hW := hW other1 eother1
        refine nx_set (v := (.int ((other1 : Nat) : Int))) (by rw [eother1]) ?_
        refine hN4 _ _ ?_
        refine a_retE ?_
        refine e_call ?_
        refine a_cons ?_
        refine e_call ?_
        refine a_val (v := (.int ((one1 : Nat) : Int))) (val_var rfl) ?_
        refine a_val (v := (.int ((other1 : Nat) : Int))) (val_var rfl) ?_
        refine a_nil ?_
        refine ⟨F2, (one1), (other1), _, rfl, w.f, hW, ?_⟩
        intro z3 hW F3 H3 s3
        replace w := w.tr s3
        refine a_cons ?_
        refine e_op ?_
        refine e_val (v := (.int ((3 : Nat) : Int))) val_c ?_
        refine e_op ?_
        refine e_val (v := (.int ((2 : Nat) : Int))) val_c ?_
        refine e_op ?_
        refine e_call ?_
        refine a_val (v := (.int (cell_here1))) (val_var rfl) ?_
        refine a_val (v := (.int ((3 : Nat) : Int))) val_c ?_
        refine a_nil ?_
        refine ⟨F3, (cell_here1), (3), _, rfl, w.f, hW, ?_⟩
        intro z4 hW F4 H4 s4
        replace w := w.tr s4
        refine e_val (v := (.int ((15 : Nat) : Int))) val_c ?_
        refine rv2 (z := (.int ((z4 % 15 : Nat) : Int))) (vn_mod val_c val_c (by decide)) ?_
        refine rv2 (z := (.int ((2 * (z4 % 15) : Nat) : Int))) (vn_mul val_c val_c (.inl (by decide))) ?_
        refine rv2 (z := (.int ((3 + (2 * (z4 % 15)) : Nat) : Int))) (vn_add val_c val_c) ?_
        refine a_nil ?_
        refine ⟨F4, (z3), (3 + (2 * (z4 % 15))), _, rfl, w.f, hW, ?_⟩
        intro z5 hW F5 H5 s5
        replace w := w.tr s5
        exact hQ _ hW _ _ w
      · have hW := ifN hW hc2
        refine hN3 _ _ ?_
        refine q_sq fun N5 hN5 => ?_
        refine a_asg (v := (.int ((one1 : Nat) : Int))) (val_var rfl) ?_
        refine hN5 _ _ ?_
        refine q_sq fun N6 hN6 => ?_
        refine f_RE ?_
        refine e_op ?_
        refine e_call ?_
        refine a_val (v := (.int (cell_here1))) (val_var rfl) ?_
        refine a_val (v := (.int ((4 : Nat) : Int))) val_c ?_
        refine a_nil ?_
        refine ⟨F1, (cell_here1), (4), _, rfl, w.f, hW, ?_⟩
        intro z6 hW F6 H6 s6
        replace w := w.tr s6
        refine e_val (v := (.int ((4 : Nat) : Int))) val_c ?_
        refine rv2 (z := (.int ((z6 % 4 : Nat) : Int))) (vn_mod val_c val_c (by decide)) ?_
        obtain ⟨c1, hW⟩ := hW
        refine w_forR (S := Nat) (fun found1 σ' F' H' => ∃ (o1 : Option V), Wf F0 H0 F' H' ∧ Ex F6 F' ∧ σ' = [some (.int (cell_here1)), some (.int ((one1 : Nat) : Int)), none, some (.int ((found1 : Nat) : Int)), o1]) c1 hW ⟨_, w, Ex.rfl', rfl⟩ ?_ ?_
        · intro N7 Bk1 lap1 found1 σ' F7 H7 nx1 bk1 hI1 hx1 hW hN7 hB1
          obtain ⟨o1, w, gx1, rfl⟩ := hI1
          refine g_name ?_
          refine a_asgE ?_
          refine e_call ?_
          refine a_val (v := (.int ((found1 : Nat) : Int))) (val_var rfl) ?_
          refine a_val (v := (.int ((one1 : Nat) : Int))) (val_var rfl) ?_
          refine a_nil ?_
          refine ⟨F7, (found1), (one1), _, rfl, w.f, hW, ?_⟩
          intro z7 hW F8 H8 s8
          replace w := w.tr s8
          replace gx1 := Ex.tr gx1 s8.g
          exact hN7 z7 _ _ _ ⟨_, w, gx1, rfl⟩ hW
        · intro found1 σ' F9 H9 hI2 hW
          obtain ⟨o1, w, gx2, rfl⟩ := hI2
          refine hN6 _ _ ?_
          refine a_ret (v := (.int ((found1 : Nat) : Int))) (val_var rfl) ?_
          exact hQ _ hW _ _ w
abbrev s_refused : Stmt := topS 24
/-! _law_refused -/
def W_refused (thing1 : An) (R : Bool → Prop) : Prop := jn (fun kk => W_order_of thing1 (kk true) fun z1 => kk false) fun refused_here1 => R refused_here1
def sp_refused (K : PySem.W.Frag) (cc : Cz) : Sp := fun vs H Q _ => ∃ (F : Hp) (v1 : V) (thing1 : An) (R : Bool → Prop), vs = [v1] ∧ Ex F H ∧ pA.r F v1 thing1 ∧ W_refused thing1 R ∧ ∀ z, R z → ∀ F' H', Wf F H F' H' → Q (.bl (z)) H'
abbrev N_refused : List Str := ["_law_thing", "_law_refused_here"]
theorem sc_refused : FnScope N_refused ["_law_thing"] (defScope s_refused) := ⟨rfl, rfl, rfl, by decide +kernel, rfl, by decide +kernel, by decide +kernel⟩
theorem ok_refused {P : Program} {w0 : World} {K : PySem.W.Frag} {mg : Str → Option Value} {base : Heap} {f : Addr} {fd : FuncData} {cc : Cz} (T : Tz K mg cc) (FU : Fun K "_law_refused" "_law_refused" s_refused f fd) (hm : mg "_law_refused" = some (.ref f)) (hb : Binds K fd ["_law_thing"] []) (c_order_of : Fn P w0 K mg base (L2.CX P w0) 4 "order_of" ["poly"] (sp_order_of K cc)) : Fn P w0 K mg base CX0 5 "_law_refused" ["_law_thing"] (sp_refused K cc) := by
  refine ⟨f, fd, FU.ok sc_refused (fun vs H Q E h => ?_) (fun cdv A outer s H0 vs Q E hr h => ?_), hm, FU.kp, hb⟩
  · obtain ⟨_, _, _, _, rfl, _⟩ := h; rfl
  · obtain ⟨F0, v1, thing1, R, rfl, wf, r1, hW, hQ⟩ := h
    have nd := sc_refused.nd
    refine ⟨(tSeq (tAsg (tC (.bl false)) (gName 1)) (tSeq (tTry K (.ref cc.BadMask) (fun W1 => (tDrop (tCallS (sp_order_of K cc) (WE W1) (tCons (tVar 0) tNil)))) (fun _ _ _ => (tAsg (tC (.bl true)) (gName 1))) (fun _ _ _ _ => False)) (tRet (tVar 1)))), (pss_cons (ps_set (i := 1) nd rfl (Or.inl rfl) pe_bl) (pss_cons (ps_try_only (tb := fun W1 => (tDrop (tCallS (sp_order_of K cc) (WE W1) (tCons (tVar 0) tNil)))) (ts := fun _ _ _ => (tAsg (tC (.bl true)) (gName 1))) (Wout := (fun _ _ _ _ => False)) rfl rfl ⟨rfl, by decide, Or.inl T.xc_BadMask.g⟩ takes0 (fun W1 pn1 xe1 tk1 po1 => (pss_one (ps_expr (pe_fnS (W := W1) c_order_of tk1 (hr.mono (by decide)) rfl (pa_cons (pv 0) pa_nil))))) (fun _ _ _ _ _ _ _ => (pss_one (ps_set (i := 1) nd rfl (Or.inl rfl) pe_bl)))) (pss_one (ps_ret (pv 1))))), ?_⟩
    have w := Wf.id wf
    refine q_sq fun N1 hN1 => ?_
    refine a_asg (v := (.bl (false))) val_c ?_
    refine hN1 _ _ ?_
    refine q_jn (S := Bool) hW (fun refused_here1 σ' F' H' => Wf F0 H0 F' H' ∧ Ex F0 F' ∧ σ' = [some v1, some (.bl (refused_here1))]) ?_ ?_
    · intro N2 hN2 hW
      have gx1 : Ex F0 F0 := Ex.rfl'
      refine a_tryI ?_
      refine a_dropE ?_
      refine e_callS ?_
      refine a_val (v := v1) (val_var rfl) ?_
      refine a_nil ?_
      refine ⟨F0, (v1), (thing1), _, _, rfl, w.f, r1, hW, ?_, ?_⟩
      · intro hW F1 H1 s1
        replace r1 := Rep.mono _ s1.g r1
        replace w := w.tr s1
        replace gx1 := Ex.tr gx1 s1.g
        refine a_exc T.xm_BadMask_BadMask (fun a1 ha1 => ?_)
        refine a_asg (v := (.bl (true))) val_c ?_
        exact hN2 true _ _ _ ⟨w, gx1, rfl⟩ hW
      intro z1 hW F2 H2 s2
      replace r1 := Rep.mono _ s2.g r1
      replace w := w.tr s2
      replace gx1 := Ex.tr gx1 s2.g
      exact hN2 false _ _ _ ⟨w, gx1, rfl⟩ hW
    · intro refused_here1 σ' F3 H3 hI1 hW
      obtain ⟨w, gx2, rfl⟩ := hI1
      have r1 := Rep.mono _ gx2 r1
      refine a_ret (v := (.bl (refused_here1))) (val_var rfl) ?_
      exact hQ _ hW _ _ w
abbrev s_right : Stmt := topS 25
/-! _law_right -/
def W_right (poly1 : Nat) (R : Bool → Prop) : Prop := W_order_of (An.i ((poly1 : Nat) : Int)) False fun z1 => jn (fun kk => if z1 < 1 then (kk true) else (W_power z1 poly1 fun z2 => kk (decide (z2 ≠ 1)))) fun b1 => if b1 = true then (R false) else (W_primes z1 fun z3 => forW z3 () (fun prime1 _ nx1 bk1 => (NDiv prime1) ∧ W_power (z1 / prime1) poly1 fun z4 => if z4 = 1 then (R false) else (nx1 ())) fun _ => R true)
def sp_right (K : PySem.W.Frag) (cc : Cz) : Sp := fun vs H Q _ => ∃ (F : Hp) (poly1 : Nat) (R : Bool → Prop), vs = [(.int ((poly1 : Nat) : Int))] ∧ Ex F H ∧ W_right poly1 R ∧ ∀ z, R z → ∀ F' H', Wf F H F' H' → Q (.bl (z)) H'
abbrev N_right : List Str := ["_law_poly", "_law_turns", "_law_prime"]
theorem sc_right : FnScope N_right ["_law_poly"] (defScope s_right) := ⟨rfl, rfl, rfl, by decide +kernel, rfl, by decide +kernel, by decide +kernel⟩
theorem ok_right {P : Program} {w0 : World} {K : PySem.W.Frag} {mg : Str → Option Value} {base : Heap} {f : Addr} {fd : FuncData} {cc : Cz} (T : Tz K mg cc) (FU : Fun K "_law_right" "_law_right" s_right f fd) (hm : mg "_law_right" = some (.ref f)) (hb : Binds K fd ["_law_poly"] []) (c_order_of : Fn P w0 K mg base (L2.CX P w0) 4 "order_of" ["poly"] (sp_order_of K cc)) (c_power : Fn P w0 K mg base CX0 2 "_law_power" ["_law_exponent", "_law_poly"] (sp_power K cc)) (c_primes : Fn P w0 K mg base CX0 1 "_law_primes" ["_law_number"] (sp_primes K cc)) (n_bool : mg "bool" = none) (n_int : mg "int" = none) (n_isinstance : mg "isinstance" = none) : Fn P w0 K mg base CX0 5 "_law_right" ["_law_poly"] (sp_right K cc) := by
  refine ⟨f, fd, FU.ok sc_right (fun vs H Q E h => ?_) (fun cdv A outer s H0 vs Q E hr h => ?_), hm, FU.kp, hb⟩
  · obtain ⟨_, _, _, rfl, _⟩ := h; rfl
  · obtain ⟨F0, poly1, R, rfl, wf, hW, hQ⟩ := h
    have nd := sc_right.nd
    refine ⟨(tSeq (tAsg (tCall (sp_order_of K cc) [] E0 (tCons (tVar 0) tNil)) (gName 1)) (tSeq (tIfS (tOr (tNot (tB (tCB (rIsi K) (tCons (tVar 1) (tCons (tC (.ty "int")) tNil))))) (tOr (tB (tCB (rIsi K) (tCons (tVar 1) (tCons (tC (.ty "bool")) tNil)))) (tOr (tTest (tOp kLt (tVar 1) (tC (.int 1)))) (tTest (tOp L2.rNe (tCall (sp_power K cc) [] E0 (tCons (tVar 1) (tCons (tVar 0) tNil))) (tC (.int 1))))))) (tRet (tC (.bl false))) tNext) (tSeq (tFor (iList K (tCall (sp_primes K cc) [] E0 (tCons (tVar 1) tNil))) (gName 2) (tIfS (tTest (tOp L2.rEq (tCall (sp_power K cc) [] E0 (tCons (tOp kDiv (tVar 1) (tVar 2)) (tCons (tVar 0) tNil))) (tC (.int 1)))) (tRet (tC (.bl false))) tNext)) (tRet (tC (.bl true)))))), (pss_cons (ps_set (i := 1) nd rfl (Or.inl rfl) (pe_fnL c_order_of (hr.mono (by decide)) rfl (pa_cons (pv 0) pa_nil))) (pss_cons (ps_if (PW.pt (pw_or (pt_not (pt_val (pe_callB call_isi (by rfl) n_isinstance PyProof.Rows.boot_isinstance (pa_cons (pv 1) (pa_cons (pe_bltn (v := .ty "int") (by rfl) n_int PyProof.Rows.boot_int rfl) pa_nil))))) (pw_or (pt_val (pe_callB call_isi (by rfl) n_isinstance PyProof.Rows.boot_isinstance (pa_cons (pv 1) (pa_cons (pe_bltn (v := .ty "bool") (by rfl) n_bool PyProof.Rows.boot_bool rfl) pa_nil)))) (pw_or (pt_cmpR op_lt (pv 1) pe_int (nomark _)) (pw_or1 (pt_cmpR op_ne (pe_fn c_power (hr.mono (by decide)) rfl (pa_cons (pv 1) (pa_cons (pv 0) pa_nil))) pe_int (nomark _))))))) (pss_one (ps_ret pe_bl)) pss_nil) (pss_cons (ps_for PassesOwn.never rfl (pi_list (pe_fn c_primes (hr.mono (by decide)) rfl (pa_cons (pv 1) pa_nil))) (pg_name (i := 2) nd rfl (Or.inl rfl)) (pss_one (ps_if (pt_cmpR op_eq (pe_fn c_power (hr.mono (by decide)) rfl (pa_cons (pe_op op_fdivW (pv 1) (pv 2)) (pa_cons (pv 0) pa_nil))) pe_int (nomark _)) (pss_one (ps_ret pe_bl)) pss_nil))) (pss_one (ps_ret pe_bl))))), ?_⟩
    have w := Wf.id wf
    refine q_sq fun N1 hN1 => ?_
    refine a_asgE ?_
    refine e_call ?_
    refine a_val (v := (.int ((poly1 : Nat) : Int))) (val_var rfl) ?_
    refine a_nil ?_
    refine ⟨F0, ((.int ((poly1 : Nat) : Int))), ((An.i ((poly1 : Nat) : Int))), _, _, rfl, w.f, (show pA.r _ (.int ((poly1 : Nat) : Int)) (An.i ((poly1 : Nat) : Int)) from rfl), hW, ?_, ?_⟩
    · intro hW; exact hW.elim
    intro z1 hW F1 H1 s1
    replace w := w.tr s1
    refine hN1 _ _ ?_
    refine q_sq fun N2 hN2 => ?_
    refine a_ifE ?_
    refine e_jnT hW (fun b F' H' => b = b ∧ Wf F0 H0 F' H' ∧ Ex F1 F') ?_ ?_
    · intro N3 hN3 hW
      have gx1 : Ex F1 F1 := Ex.rfl'
      refine e_tOr ?_
      refine e_ans (b := false) (t_dec (t_iff (p := ¬ (True)) (q := False) (t_not (t_ofB (vb_of (v_isi (b := true) (val_var rfl) (.base (.int _)) (by decide +kernel)) dec_T))) (by simp)) dec_F.symm) ?_
      refine if_f ?_
      refine e_tOr ?_
      refine e_ans (b := false) (t_dec (t_ofB (vb_of (v_isi (b := false) (val_var rfl) (.base (.int _)) (by decide +kernel)) dec_F)) dec_F.symm) ?_
      refine if_f ?_
      refine e_tOr ?_
      refine e_ans (b := decide (z1 < 1)) (t_of (vb_dec (c_lt (val_var rfl) val_c) n_lt)) ?_
      refine b_if (fun hc1 => ?_) (fun hc1 => ?_)
      · have hW := ifP hW hc1
        exact hN3 true _ _ ⟨rfl, w, gx1⟩ hW
      · have hW := ifN hW hc1
        refine e_tT ?_
        refine e_op ?_
        refine e_call ?_
        refine a_val (v := (.int ((z1 : Nat) : Int))) (val_var rfl) ?_
        refine a_val (v := (.int ((poly1 : Nat) : Int))) (val_var rfl) ?_
        refine a_nil ?_
        refine ⟨F1, (z1), (poly1), _, rfl, w.f, hW, ?_⟩
        intro z2 hW F2 H2 s2
        replace w := w.tr s2
        replace gx1 := Ex.tr gx1 s2.g
        refine e_val (v := (.int ((1 : Nat) : Int))) val_c ?_
        refine rv2T (b := decide (z2 ≠ 1)) (vb_dec (c_neI val_c val_c) n_ne) ?_
        exact hN3 (decide (z2 ≠ 1)) _ _ ⟨rfl, w, gx1⟩ hW
    intro b1 F3 H3 hI1 hW
    obtain ⟨_, w, gx2⟩ := hI1
    refine bb_if (fun hc2 => ?_) (fun hc2 => ?_)
    · have hW := ifP hW hc2
      refine a_ret (v := (.bl (false))) val_c ?_
      exact hQ _ hW _ _ w
    · have hW := ifN hW hc2
      refine hN2 _ _ ?_
      refine q_sq fun N4 hN4 => ?_
      refine f_LE ?_
      refine e_call ?_
      refine a_val (v := (.int ((z1 : Nat) : Int))) (val_var rfl) ?_
      refine a_nil ?_
      refine ⟨F3, (z1), _, rfl, w.f, hW, ?_⟩
      intro z3 hW p1 F4 H4 s3 x1
      replace x1 := x1.base w
      replace w := w.tr s3
      obtain ⟨F5, w1, g1, r1, fz1⟩ := x1.frzE w
      replace w := w1
      refine w_forL (S := Unit) (fun _ σ' F' H' => ∃ (o1 : Option V), Wf F0 H0 F' H' ∧ Ex F5 F' ∧ σ' = [some (.int ((poly1 : Nat) : Int)), some (.int ((z1 : Nat) : Int)), o1]) r1 hW ⟨_, w, Ex.rfl', rfl⟩ (fun s σ' F' H' hI => by obtain ⟨_, w', gx', _⟩ := hI; exact ⟨gx', w'.f⟩) w.f ?_ ?_
      · intro N5 Bk1 prime1 u1 s4 σ' F6 H5 nx1 bk1 hI2 hx1 ru1 hW hN5 hB1
        obtain ⟨o1, w, gx3, rfl⟩ := hI2
        have r1 := Rep.mono _ gx3 r1
        obtain rfl : u1 = (.int ((prime1 : Nat) : Int)) := ru1
        refine g_name ?_
        refine a_ifE ?_
        refine e_tT ?_
        refine e_op ?_
        refine e_call ?_
        obtain ⟨c1, hW⟩ := hW
        refine a_val (v := (.int ((z1 / prime1 : Nat) : Int))) (vn_div (val_var rfl) (val_var rfl) c1) ?_
        refine a_val (v := (.int ((poly1 : Nat) : Int))) (val_var rfl) ?_
        refine a_nil ?_
        refine ⟨F6, (z1 / prime1), (poly1), _, rfl, w.f, hW, ?_⟩
        intro z4 hW F7 H6 s5
        replace w := w.tr s5
        replace gx3 := Ex.tr gx3 s5.g
        refine e_val (v := (.int ((1 : Nat) : Int))) val_c ?_
        refine rv2T (b := decide (z4 = 1)) (vb_dec (c_eqI val_c val_c) n_eq) ?_
        refine b_if (fun hc3 => ?_) (fun hc3 => ?_)
        · have hW := ifP hW hc3
          refine a_ret (v := (.bl (false))) val_c ?_
          exact hQ _ hW _ _ w
        · have hW := ifN hW hc3
          exact hN5 () _ _ _ ⟨_, w, gx3, rfl⟩ hW
      · intro s6 σ' F8 H7 hI3 hW
        obtain ⟨o1, w, gx4, rfl⟩ := hI3
        have r1 := Rep.mono _ gx4 r1
        refine hN4 _ _ ?_
        refine a_ret (v := (.bl (true))) val_c ?_
        exact hQ _ hW _ _ w
abbrev s_law : Stmt := topS 26
/-! law -/
def W_law (script1 : List Int) (R : Bool → Prop) : Prop := (2 < 1000000) ∧ compW (List.range 2) (fun k1 kk => W_cell script1 0 fun z1 => W_mix z1 (5 + k1) fun z2 => kk (some ((z2 : Nat) : Int))) fun ys1 => ((cutT script1 none (some 8)).length + ys1.length < 1000000) ∧ forW ((cutT script1 none (some 8)) ++ ys1) () (fun cell_here1 _ nx1 bk1 => ∀ great1 : Nat, great1 = 131072 + (modN cell_here1 1000000000000000000000000000000) → jn (fun kk => W_drawn cell_here1 fun z3 => W_right z3 fun z4 => if z4 = true then (∃ x6, [(An.i ((2 * (modN cell_here1 65536) : Nat) : Int)), (An.i ((1 : Nat) : Int)), (An.i ((0 : Nat) : Int)), (An.i ((((0 : Nat) : Int) - ((3 : Nat) : Int)) - ((modN cell_here1 99 : Nat) : Int))), (An.i ((great1 : Nat) : Int)), (An.i (((great1 + 1 : Nat) : Int) - ((great1 % 2 : Nat) : Int))), (An.b true), An.n, (An.s (PySem.Str.ofString "3")), (An.o "list")][modN cell_here1 10]? = some x6 ∧ W_refused x6 fun z5 => kk (!z5)) else (kk true)) fun b1 => if b1 = true then (R false) else (nx1 ())) fun _ => R true
def sp_law (K : PySem.W.Frag) (cc : Cz) : Sp := fun vs H Q _ => ∃ (F : Hp) (v1 : V) (script1 : List Int) (R : Bool → Prop), vs = [v1] ∧ Ex F H ∧ (pScr K).r F v1 script1 ∧ W_law script1 R ∧ ∀ z, R z → ∀ F' H', Wf F H F' H' → Q (.bl (z)) H'
abbrev N_law : List Str := ["_law_script", "_law_cells", "_law_k", "_law_cell_here", "_law_great", "_law_some"]
theorem sc_law : FnScope N_law ["_law_script"] (defScope s_law) := ⟨rfl, rfl, rfl, by decide +kernel, rfl, by decide +kernel, by decide +kernel⟩
theorem ok_law {P : Program} {w0 : World} {K : PySem.W.Frag} {mg : Str → Option Value} {base : Heap} {f : Addr} {fd : FuncData} {cc : Cz} (T : Tz K mg cc) (FU : Fun K "law" "law" s_law f fd) (c_cell : Fn P w0 K mg base CX0 1 "_law_cell" ["_law_script", "_law_k"] (sp_cell K cc)) (c_mix : Fn P w0 K mg base CX0 1 "_law_mix" ["_law_cell_here", "_law_k"] (sp_mix K cc)) (c_drawn : Fn P w0 K mg base CX0 2 "_law_drawn" ["_law_cell_here"] (sp_drawn K cc)) (c_right : Fn P w0 K mg base CX0 5 "_law_right" ["_law_poly"] (sp_right K cc)) (c_refused : Fn P w0 K mg base CX0 5 "_law_refused" ["_law_thing"] (sp_refused K cc)) (n_range : mg "range" = none) : FnOk P w0 K mg base CX0 6 f fd ["_law_script"] (sp_law K cc) := by
  refine FU.ok sc_law (fun vs H Q E h => ?_) (fun cdv A outer s H0 vs Q E hr h => ?_)
  · obtain ⟨_, _, _, _, rfl, _⟩ := h; rfl
  · obtain ⟨F0, v1, script1, R, rfl, wf, r1, hW, hQ⟩ := h
    have nd := sc_law.nd
    refine ⟨(tSeq (tAsg (tOp L2.rCat (tSl (rSlL K) (tVar 0) tNoPart (tPart (tC (.int 8)))) (tLc (iRng1 (tCons (tC (.int 2)) tNil)) (gName 2) tYes (tCall (sp_mix K cc) [] E0 (tCons (tCall (sp_cell K cc) [] E0 (tCons (tVar 0) (tCons (tC (.int 0)) tNil))) (tCons (tOp kAdd (tC (.int 5)) (tVar 2)) tNil))) [2])) (gName 1)) (tSeq (tFor (iList K (tVar 1)) (gName 3) (tSeq (tAsg (tOp kAdd (tC (.int 131072)) (tOp kMod (tVar 3) (tOp kPow (tC (.int 10)) (tC (.int 30))))) (gName 4)) (tSeq (tAsg (tLst (tCons (tOp kMul (tC (.int 2)) (tOp kMod (tVar 3) (tC (.int 65536)))) (tCons (tC (.int 1)) (tCons (tC (.int 0)) (tCons (tOp kSub (tOp kSub (tC (.int 0)) (tC (.int 3))) (tOp kMod (tVar 3) (tC (.int 99)))) (tCons (tVar 4) (tCons (tOp kSub (tOp kAdd (tVar 4) (tC (.int 1))) (tOp kMod (tVar 4) (tC (.int 2)))) (tCons (tC (.bl true)) (tCons (tC .non) (tCons (tC (.str (PySem.Str.ofString "3"))) (tCons (tLst (tCons (tC (.int 3)) tNil)) tNil))))))))))) (gName 5)) (tIfS (tOr (tNot (tB (tCall (sp_right K cc) [] E0 (tCons (tCall (sp_drawn K cc) [] E0 (tCons (tVar 3) tNil)) tNil)))) (tNot (tB (tCall (sp_refused K cc) [] E0 (tCons (tOp (L2.rIxL K) (tVar 5) (tOp kMod (tVar 3) (tC (.int 10)))) tNil))))) (tRet (tC (.bl false))) tNext)))) (tRet (tC (.bl true))))), (pss_cons (ps_set (i := 1) nd rfl (Or.inl rfl) (pe_op op_cat (pe_slice sl_list (pv 0) po_none (po_some pe_int)) (pe_lc (own := [("_law_k", 2)]) (wi := (iRng1 (tCons (tC (.int 2)) tNil))) (g := (gName 2)) (tt := tYes) (te := (tCall (sp_mix K cc) [] E0 (tCons (tCall (sp_cell K cc) [] E0 (tCons (tVar 0) (tCons (tC (.int 0)) tNil))) (tCons (tOp kAdd (tC (.int 5)) (tVar 2)) tNil)))) rfl nd (pi_range1 rfl n_range (pa_cons pe_int pa_nil)) (blkOk_by (N := N_law) (sc := defScope s_law) (by decide +kernel)) (fun _ _ _ _ _ => (pg_name (i := 2) nd rfl (Or.inl rfl))) (fun _ _ _ _ _ => pts_nil) (fun _ _ _ _ _ => (pe_fn c_mix (hr.mono (by decide)) rfl (pa_cons (pe_fn c_cell (hr.mono (by decide)) rfl (pa_cons (pv 0) (pa_cons pe_int pa_nil))) (pa_cons (pe_op op_add pe_int (pv 2)) pa_nil))))))) (pss_cons (ps_for PassesOwn.never rfl (pi_list (pv 1)) (pg_name (i := 3) nd rfl (Or.inl rfl)) (pss_cons (ps_set (i := 4) nd rfl (Or.inl rfl) (pe_op op_add pe_int (pe_op op_mod (pv 3) (pe_op op_pow pe_int pe_int)))) (pss_cons (ps_set (i := 5) nd rfl (Or.inl rfl) (pe_lst (pa_cons (pe_op op_mul pe_int (pe_op op_mod (pv 3) pe_int)) (pa_cons pe_int (pa_cons pe_int (pa_cons (pe_op op_sub (pe_op op_sub pe_int pe_int) (pe_op op_mod (pv 3) pe_int)) (pa_cons (pv 4) (pa_cons (pe_op op_sub (pe_op op_add (pv 4) pe_int) (pe_op op_mod (pv 4) pe_int)) (pa_cons pe_bl (pa_cons pe_non (pa_cons pe_str (pa_cons (pe_lst (pa_cons pe_int pa_nil)) pa_nil)))))))))))) (pss_one (ps_if (PW.pt (pw_or (pt_not (pt_val (pe_fn c_right (hr.mono (by decide)) rfl (pa_cons (pe_fn c_drawn (hr.mono (by decide)) rfl (pa_cons (pv 3) pa_nil)) pa_nil)))) (pw_or1 (pt_not (pt_val (pe_fn c_refused (hr.mono (by decide)) rfl (pa_cons (pe_ix ix_list (pv 5) (pe_op op_mod (pv 3) pe_int) (fun _ _ => rfl)) pa_nil))))))) (pss_one (ps_ret pe_bl)) pss_nil))))) (pss_one (ps_ret pe_bl)))), ?_⟩
    have w := Wf.id wf
    refine q_sq fun N1 hN1 => ?_
    refine a_asgE ?_
    refine e_op ?_
    refine n_cutS (lo := none) (hi := (some 8)) r1 (val_var rfl) po_n (po_s (n := 8) val_c) w ?_
    intro p1 H1 hp1 s1 x1
    replace r1 := Rep.mono _ s1.g r1
    replace w := w.tr s1
    refine c_RE ?_
    refine e_val (v := (.int ((2 : Nat) : Int))) val_c ?_
    obtain ⟨c1, hW⟩ := hW
    refine w_compR (e := pI) w c1 hW ?_ ?_
    · intro Qy Qn k1 F1 H2 R1 q1 hx1 hW hy1 hn1
      have r1 := Rep.mono _ q1.g r1
      have x1 := x1.step q1
      have w := Wf.id q1.f
      refine ⟨rfl, ?_⟩
      refine c_yes ?_
      refine e_call ?_
      refine a_cons ?_
      refine e_call ?_
      refine a_val (v := v1) (val_var rfl) ?_
      refine a_val (v := (.int ((0 : Nat) : Int))) val_c ?_
      refine a_nil ?_
      refine ⟨F1, (v1), (script1), (0), _, rfl, w.f, r1, hW, ?_⟩
      intro z1 hW F2 H3 s2
      replace r1 := Rep.mono _ s2.g r1
      replace x1 := x1.step s2
      replace w := w.tr s2
      refine a_val (v := (.int ((5 + k1 : Nat) : Int))) (vn_add val_c (val_var rfl)) ?_
      refine a_nil ?_
      refine ⟨F2, (z1), (5 + k1), _, rfl, w.f, hW, ?_⟩
      intro z2 hW F3 H4 s3
      replace r1 := Rep.mono _ s3.g r1
      replace x1 := x1.step s3
      replace w := w.tr s3
      exact hy1 _ _ _ _ w rfl hW
    intro p2 ys1 F4 H5 hp2 s4 x2 hW
    have ne1 := x1.ne hp2
    replace r1 := Rep.mono _ s4.g r1
    replace x1 := x1.step s4
    replace w := w.tr s4
    obtain ⟨F5, w1, g1, r2, fz1⟩ := x1.frzE w
    replace r1 := Rep.mono _ g1 r1
    replace x2 := x2.frzO fz1 (Ne.symm ne1) g1
    replace w := w1
    obtain ⟨F6, w2, g2, r3, fz2⟩ := x2.frzE w
    replace r1 := Rep.mono _ g2 r1
    replace r2 := Rep.mono _ g2 r2
    replace w := w2
    obtain ⟨c2, hW⟩ := hW
    refine n_cat r2 r3 w c2 ?_
    intro p3 H6 hp3 s5 x3
    replace r1 := Rep.mono _ s5.g r1
    replace r2 := Rep.mono _ s5.g r2
    replace r3 := Rep.mono _ s5.g r3
    replace w := w.tr s5
    obtain ⟨F7, w3, g3, r4, fz3⟩ := x3.frzE w
    replace r1 := Rep.mono _ g3 r1
    replace r2 := Rep.mono _ g3 r2
    replace r3 := Rep.mono _ g3 r3
    replace w := w3
    refine hN1 _ _ ?_
    refine q_sq fun N2 hN2 => ?_
    refine f_LE ?_
    refine e_val (v := (.ref p3)) (val_var rfl) ?_
    refine w_forL (S := Unit) (fun _ σ' F' H' => ∃ (o1 : Option V) (o2 : Option V) (o3 : Option V), Wf F0 H0 F' H' ∧ Ex F7 F' ∧ σ' = [some v1, some (.ref p3), none, o1, o2, o3]) r4 hW ⟨_, _, _, w, Ex.rfl', rfl⟩ (fun s σ' F' H' hI => by obtain ⟨_, _, _, w', gx', _⟩ := hI; exact ⟨gx', w'.f⟩) w.f ?_ ?_
    · intro N3 Bk1 cell_here1 u2 s6 σ' F8 H7 nx1 bk1 hI1 hx2 ru2 hW hN3 hB1
      obtain ⟨o1, o2, o3, w, gx1, rfl⟩ := hI1
      have r1 := Rep.mono _ gx1 r1
      have r4 := Rep.mono _ gx1 r4
      obtain rfl : u2 = (.int (cell_here1)) := ru2
      refine g_name ?_
      refine q_sq fun N4 hN4 => ?_
      obtain ⟨great1, egreat1⟩ : ∃ great1 : Nat, great1 = 131072 + (modN cell_here1 1000000000000000000000000000000) := ⟨_, rfl⟩
      replace hW := hW great1 egreat1
      refine a_asg (v := (.int ((great1 : Nat) : Int))) (v_eq (vn_add val_c (vm_mod (val_var rfl) (vn_pow (a := 10) (b := 30) (c := 1000000000000000000000000000000) val_c val_c ⟨by decide, by decide⟩ (by decide +kernel)) (by decide))) (by rw [egreat1])) ?_
      refine hN4 _ _ ?_
      refine q_sq fun N5 hN5 => ?_
      refine a_asgE ?_
      refine e_lst ?_
      refine a_val (v := (.int ((2 * (modN cell_here1 65536) : Nat) : Int))) (vn_mul val_c (vm_mod (val_var rfl) val_c (by decide)) (.inl (by decide))) ?_
      refine a_val (v := (.int ((1 : Nat) : Int))) val_c ?_
      refine a_val (v := (.int ((0 : Nat) : Int))) val_c ?_
      refine a_val (v := (.int ((((0 : Nat) : Int) - ((3 : Nat) : Int)) - ((modN cell_here1 99 : Nat) : Int)))) (vi0 (vi0 val_c val_c) (vm_mod (val_var rfl) val_c (by decide))) ?_
      refine a_val (v := (.int ((great1 : Nat) : Int))) (val_var rfl) ?_
      refine a_val (v := (.int (((great1 + 1 : Nat) : Int) - ((great1 % 2 : Nat) : Int)))) (vi0 (vn_add (val_var rfl) val_c) (vn_mod (val_var rfl) val_c (by decide))) ?_
      refine a_val (v := (.bl (true))) val_c ?_
      refine a_val (v := .non) val_c ?_
      refine a_val (v := (.str ((PySem.Str.ofString "3")))) val_c ?_
      refine a_cons ?_
      refine e_lst ?_
      refine a_val (v := (.int ((3 : Nat) : Int))) val_c ?_
      refine a_nil ?_
      refine n_lstX (e := pN) (xs := [3]) (vs := [(.int ((3 : Nat) : Int))]) (show All pN _ [(.int ((3 : Nat) : Int))] [3] from ⟨rfl, trivial⟩) (show 1 < 1000000 from by decide) w ?_
      intro p4 H8 hp4 s7 x4
      replace r1 := Rep.mono _ s7.g r1
      replace r4 := Rep.mono _ s7.g r4
      replace w := w.tr s7
      replace gx1 := Ex.tr gx1 s7.g
      refine a_nil ?_
      obtain ⟨F9, w4, g4, r5, fz4⟩ := x4.frzE w
      replace r1 := Rep.mono _ g4 r1
      replace r4 := Rep.mono _ g4 r4
      replace w := w4
      replace gx1 := Ex.tr gx1 g4
      refine n_lstX (e := pA) (xs := [(An.i ((2 * (modN cell_here1 65536) : Nat) : Int)), (An.i ((1 : Nat) : Int)), (An.i ((0 : Nat) : Int)), (An.i ((((0 : Nat) : Int) - ((3 : Nat) : Int)) - ((modN cell_here1 99 : Nat) : Int))), (An.i ((great1 : Nat) : Int)), (An.i (((great1 + 1 : Nat) : Int) - ((great1 % 2 : Nat) : Int))), (An.b true), An.n, (An.s (PySem.Str.ofString "3")), (An.o "list")]) (vs := [(.int ((2 * (modN cell_here1 65536) : Nat) : Int)), (.int ((1 : Nat) : Int)), (.int ((0 : Nat) : Int)), (.int ((((0 : Nat) : Int) - ((3 : Nat) : Int)) - ((modN cell_here1 99 : Nat) : Int))), (.int ((great1 : Nat) : Int)), (.int (((great1 + 1 : Nat) : Int) - ((great1 % 2 : Nat) : Int))), (.bl (true)), .non, (.str ((PySem.Str.ofString "3"))), (.ref p4)]) (show All pA _ [(.int ((2 * (modN cell_here1 65536) : Nat) : Int)), (.int ((1 : Nat) : Int)), (.int ((0 : Nat) : Int)), (.int ((((0 : Nat) : Int) - ((3 : Nat) : Int)) - ((modN cell_here1 99 : Nat) : Int))), (.int ((great1 : Nat) : Int)), (.int (((great1 + 1 : Nat) : Int) - ((great1 % 2 : Nat) : Int))), (.bl (true)), .non, (.str ((PySem.Str.ofString "3"))), (.ref p4)] [(An.i ((2 * (modN cell_here1 65536) : Nat) : Int)), (An.i ((1 : Nat) : Int)), (An.i ((0 : Nat) : Int)), (An.i ((((0 : Nat) : Int) - ((3 : Nat) : Int)) - ((modN cell_here1 99 : Nat) : Int))), (An.i ((great1 : Nat) : Int)), (An.i (((great1 + 1 : Nat) : Int) - ((great1 % 2 : Nat) : Int))), (An.b true), An.n, (An.s (PySem.Str.ofString "3")), (An.o "list")] from ⟨(show pA.r _ (.int ((2 * (modN cell_here1 65536) : Nat) : Int)) (An.i ((2 * (modN cell_here1 65536) : Nat) : Int)) from rfl), ⟨(show pA.r _ (.int ((1 : Nat) : Int)) (An.i ((1 : Nat) : Int)) from rfl), ⟨(show pA.r _ (.int ((0 : Nat) : Int)) (An.i ((0 : Nat) : Int)) from rfl), ⟨(show pA.r _ (.int ((((0 : Nat) : Int) - ((3 : Nat) : Int)) - ((modN cell_here1 99 : Nat) : Int))) (An.i ((((0 : Nat) : Int) - ((3 : Nat) : Int)) - ((modN cell_here1 99 : Nat) : Int))) from rfl), ⟨(show pA.r _ (.int ((great1 : Nat) : Int)) (An.i ((great1 : Nat) : Int)) from rfl), ⟨(show pA.r _ (.int (((great1 + 1 : Nat) : Int) - ((great1 % 2 : Nat) : Int))) (An.i (((great1 + 1 : Nat) : Int) - ((great1 % 2 : Nat) : Int))) from rfl), ⟨(show pA.r _ (.bl (true)) (An.b true) from rfl), ⟨(show pA.r _ V.non An.n from rfl), ⟨(show pA.r _ (.str ((PySem.Str.ofString "3"))) (An.s (PySem.Str.ofString "3")) from rfl), ⟨(an_L r5), trivial⟩⟩⟩⟩⟩⟩⟩⟩⟩⟩) (show 10 < 1000000 from by decide) w ?_
      intro p5 H9 hp5 s8 x5
      replace r1 := Rep.mono _ s8.g r1
      replace r4 := Rep.mono _ s8.g r4
      replace r5 := Rep.mono _ s8.g r5
      replace w := w.tr s8
      replace gx1 := Ex.tr gx1 s8.g
      obtain ⟨F10, w5, g5, r6, fz5⟩ := x5.frzE w
      replace r1 := Rep.mono _ g5 r1
      replace r4 := Rep.mono _ g5 r4
      replace r5 := Rep.mono _ g5 r5
      replace w := w5
      replace gx1 := Ex.tr gx1 g5
      refine hN5 _ _ ?_
      refine a_ifE ?_
      refine e_jnT hW (fun b F' H' => b = b ∧ Wf F0 H0 F' H' ∧ Ex F10 F') ?_ ?_
      · intro N6 hN6 hW
        have gx2 : Ex F10 F10 := Ex.rfl'
        refine e_tOr ?_
        refine e_tNot ?_
        refine e_tB ?_
        refine e_call ?_
        refine a_cons ?_
        refine e_call ?_
        refine a_val (v := (.int (cell_here1))) (val_var rfl) ?_
        refine a_nil ?_
        refine ⟨F10, (cell_here1), _, rfl, w.f, hW, ?_⟩
        intro z3 hW F11 H10 s9
        replace r1 := Rep.mono _ s9.g r1
        replace r4 := Rep.mono _ s9.g r4
        replace r6 := Rep.mono _ s9.g r6
        replace w := w.tr s9
        replace gx2 := Ex.tr gx2 s9.g
        replace gx1 := Ex.tr gx1 s9.g
        refine a_nil ?_
        refine ⟨F11, (z3), _, rfl, w.f, hW, ?_⟩
        intro z4 hW F12 H11 s10
        replace r1 := Rep.mono _ s10.g r1
        replace r4 := Rep.mono _ s10.g r4
        replace r6 := Rep.mono _ s10.g r6
        replace w := w.tr s10
        replace gx2 := Ex.tr gx2 s10.g
        replace gx1 := Ex.tr gx1 s10.g
        refine bl_v ?_
        refine bb_ifn (fun hc1 => ?_) (fun hc1 => ?_)
        · have hW := ifP hW hc1
          refine e_tNot ?_
          refine e_tB ?_
          refine e_call ?_
          obtain ⟨x6, hx6_1, hW⟩ := hW
          obtain ⟨v2, r7, ix1⟩ := ix_L (K := K) r6 w.f hx6_1
          refine a_val (v := v2) (ix1 (val_var rfl) (vm_mod (val_var rfl) val_c (by decide))) ?_
          refine a_nil ?_
          refine ⟨F12, (v2), (x6), _, rfl, w.f, r7, hW, ?_⟩
          intro z5 hW F13 H12 s11
          replace r1 := Rep.mono _ s11.g r1
          replace r4 := Rep.mono _ s11.g r4
          replace r6 := Rep.mono _ s11.g r6
          replace r7 := Rep.mono _ s11.g r7
          replace w := w.tr s11
          replace gx2 := Ex.tr gx2 s11.g
          replace gx1 := Ex.tr gx1 s11.g
          refine bl_v ?_
          exact hN6 (!z5) _ _ ⟨rfl, w, gx2⟩ hW
        · have hW := ifN hW hc1
          exact hN6 true _ _ ⟨rfl, w, gx2⟩ hW
      intro b1 F14 H13 hI2 hW
      obtain ⟨_, w, gx3⟩ := hI2
      have r1 := Rep.mono _ gx3 r1
      have r4 := Rep.mono _ gx3 r4
      have r6 := Rep.mono _ gx3 r6
      have gx1 := Ex.tr gx1 gx3
      refine bb_if (fun hc2 => ?_) (fun hc2 => ?_)
      · have hW := ifP hW hc2
        refine a_ret (v := (.bl (false))) val_c ?_
        exact hQ _ hW _ _ w
      · have hW := ifN hW hc2
        exact hN3 () _ _ _ ⟨_, _, _, w, gx1, rfl⟩ hW
    · intro s12 σ' F15 H14 hI3 hW
      obtain ⟨o1, o2, o3, w, gx4, rfl⟩ := hI3
      have r1 := Rep.mono _ gx4 r1
      have r4 := Rep.mono _ gx4 r4
      refine hN2 _ _ ?_
      refine a_ret (v := (.bl (true))) val_c ?_
      exact hQ _ hW _ _ w
end My
namespace My
open Wk
def cellV (s : List Int) (k : Nat) : Int := if h : k < s.length then s[k] else ((41 * k + 3 : Nat) : Int)
theorem w_cell {s : List Int} {k : Nat} {R : Int → Prop} (h : R (cellV s k)) : W_cell s k R := by
  unfold W_cell
  unfold cellV at h
  by_cases e : k < s.length
  · rw [dif_pos e] at h; rw [if_pos e]; exact ⟨_, List.getElem?_eq_getElem e, h⟩
  · rw [dif_neg e] at h; rw [if_neg e]; exact h
def mixN (c : Int) (k : Nat) : Nat := (((modN c 2147483647) * 48271) + (7919 * k) + 11) % 2147483647
def mixV (c : Int) (k : Nat) : Nat := ((mixN c k * mixN c k % 2147483629) * ((mixN c k * mixN c k % 2147483629 + 48271 * k) + 7)) % 2147483587
theorem w_mix {c : Int} {k : Nat} {R : Nat → Prop} (h : R (mixV c k)) : W_mix c k R := by
  rintro _ rfl
  have b : mixN c k < 2 ^ 64 := Nat.lt_trans (Nat.mod_lt _ (by decide)) (by decide)
  refine ⟨.inl b, ?_⟩
  rintro _ rfl
  exact ⟨.inl (Nat.lt_trans (Nat.mod_lt _ (by decide)) (by decide)), h⟩
end My
namespace My
open Wk
theorem log2_bits (n : Nat) : n.log2 ≤ bits n := by
  unfold bits
  by_cases h : n = 0
  · subst h; decide
  · rw [if_neg h]; omega
theorem or_new {q k : Nat} (h : q.testBit k = false) : q ||| 2 ^ k = q ^^^ 2 ^ k := Nat.eq_of_testBit_eq fun i => by
  rw [Nat.testBit_or, Nat.testBit_xor, Nat.testBit_two_pow]
  by_cases e : k = i
  · subst e; rw [h]; simp
  · rw [decide_eq_false e]; simp
theorem w_divided {a o : Nat} (ho : o ≠ 0) (ha : bits a ≤ 10000) {E : Prop} {R : Nat × Nat → Prop} (h : ∀ q r, pm q o ^^^ r = a → bits r < bits o → R (q, r)) : W_divided a o E R := by
  unfold W_divided
  rw [if_neg ho]
  refine whileW_ind (fun s => pm s.1 o ^^^ s.2 = a ∧ bits s.2 ≤ bits a ∧ ∀ j, s.1.testBit j = true → bits s.2 < j + bits o) (fun s => bits s.2) ⟨by rw [pm_zero_l, Nat.zero_xor], Nat.le_refl _, fun j hj => (by rw [Nat.zero_testBit] at hj; cases hj)⟩ ?_
  rintro ⟨q, one⟩ nx ⟨(h1 : pm q o ^^^ one = a), (h2 : bits one ≤ bits a), (h3 : ∀ j, q.testBit j = true → bits one < j + bits o)⟩ hn
  show if decide (bits o ≤ bits one) = true then _ else _
  by_cases c : bits o ≤ bits one
  · rw [if_pos (decide_eq_true c)]
    refine ⟨c, ?_⟩
    rintro _ rfl
    have po := bits_pos ho
    have one0 : one ≠ 0 := fun z => by rw [z, bits_zero] at c; omega
    have nb : q.testBit (bits one - bits o) = false := Bool.eq_false_iff.mpr fun z => by have := h3 _ z; omega
    refine ⟨by omega, ?_⟩
    rintro _ rfl
    refine ⟨?_, ?_⟩
    · unfold NShl
      have := log2_bits o
      omega
    · rintro _ rfl
      have es : bits (o <<< (bits one - bits o)) = bits one := by rw [bits_shl ho]; omega
      have lt : bits (one ^^^ o <<< (bits one - bits o)) < bits one := bits_xor_eq es.symm one0
      refine hn _ ⟨?_, ?_, fun j hj => ?_⟩ lt
      · show pm (q ||| 2 ^ (bits one - bits o)) o ^^^ (one ^^^ o <<< (bits one - bits o)) = a
        rw [or_new nb, pm_xor_l, pm_comm o (2 ^ _), pm_pow, xor_swap, Nat.xor_self, Nat.xor_zero]; exact h1
      · show bits (one ^^^ o <<< (bits one - bits o)) ≤ bits a
        omega
      · show bits (one ^^^ o <<< (bits one - bits o)) < j + bits o
        have hj' : (q ||| 2 ^ (bits one - bits o)).testBit j = true := hj
        rw [or_new nb, Nat.testBit_xor, Nat.testBit_two_pow] at hj'
        by_cases e : bits one - bits o = j
        · omega
        · rw [decide_eq_false e, Bool.xor_false] at hj'
          have := h3 j hj'; omega
  · rw [if_neg (by simpa using c)]
    exact h q one h1 (by omega)
theorem w_rest {a o : Nat} (ho : o ≠ 0) (ha : bits a ≤ 10000) {R : Nat → Prop} (h : ∀ q r, pm q o ^^^ r = a → bits r < bits o → R r) : W_rest a o R := by
  refine whileW_ind (fun one => (∃ q, pm q o ^^^ one = a) ∧ bits one ≤ bits a) bits ⟨⟨0, by rw [pm_zero_l, Nat.zero_xor]⟩, Nat.le_refl _⟩ ?_
  rintro one nx ⟨⟨q, h1⟩, h2⟩ hn
  show if decide (bits o ≤ bits one) = true then _ else _
  by_cases c : bits o ≤ bits one
  · rw [if_pos (decide_eq_true c)]
    have po := bits_pos ho
    have one0 : one ≠ 0 := fun z => by rw [z, bits_zero] at c; omega
    refine ⟨c, ?_, ?_⟩
    · unfold NShl
      have := log2_bits o
      omega
    · rintro _ rfl
      have es : bits (o <<< (bits one - bits o)) = bits one := by rw [bits_shl ho]; omega
      have lt : bits (one ^^^ o <<< (bits one - bits o)) < bits one := bits_xor_eq es.symm one0
      refine hn _ ⟨⟨q ^^^ 2 ^ (bits one - bits o), ?_⟩, by omega⟩ lt
      rw [pm_xor_l, pm_comm o (2 ^ _), pm_pow, xor_swap, Nat.xor_self, Nat.xor_zero]; exact h1
  · rw [if_neg (by simpa using c)]
    exact h q one h1 (by omega)
theorem bits_twice (n : Nat) : bits (n <<< 1) ≤ bits n + 1 := by
  by_cases h : n = 0
  · subst h; decide
  · rw [bits_shl h]; omega
theorem bits_halved {n : Nat} (h : 0 < n) : bits (n >>> 1) + 1 ≤ bits n := by
  have hp := bits_pos (n := n) (by omega)
  have : bits (n >>> 1) ≤ bits n - 1 := bits_le.mpr (by
    rw [Nat.shiftRight_eq_div_pow, Nat.pow_one]
    have := lt_bits n
    obtain ⟨k, hk⟩ : ∃ k, bits n = k + 1 := ⟨bits n - 1, by omega⟩
    rw [hk, Nat.pow_succ] at this
    rw [hk, Nat.add_sub_cancel]
    omega)
  omega
theorem pm_turn {f one other : Nat} : (if other &&& 1 = 1 then f ^^^ one else f) ^^^ pm (one <<< 1) (other >>> 1) = f ^^^ pm one other := by
  have e : pm one other = (if other &&& 1 = 1 then one else 0) ^^^ pm (one <<< 1) (other >>> 1) := by
    rw [pm_step, Nat.testBit_zero, Nat.and_one_is_mod, Nat.shiftLeft_eq, Nat.shiftRight_eq_div_pow, Nat.pow_one, Nat.mul_comm 2 one]
    congr 1
    by_cases c : other % 2 = 1 <;> simp [c]
  rw [e]
  by_cases c : other &&& 1 = 1
  · rw [if_pos c, if_pos c, Nat.xor_assoc]
  · rw [if_neg c, if_neg c, Nat.zero_xor]
theorem w_product {a b : Nat} (hl : bits a + bits b ≤ 100000) {R : Nat → Prop} (h : R (pm a b)) : W_product a b R := by
  refine whileW_ind (fun s => s.1 ^^^ pm s.2.1 s.2.2 = pm a b ∧ bits s.2.1 + bits s.2.2 ≤ 100000) (fun s => s.2.2) ⟨by rw [Nat.zero_xor], hl⟩ ?_
  rintro ⟨f, one, other⟩ nx ⟨(h1 : f ^^^ pm one other = _), (h2 : bits one + bits other ≤ _)⟩ hn
  show if decide (0 < other) = true then _ else _
  by_cases c : 0 < other
  · rw [if_pos (decide_eq_true c)]
    have ol : other &&& 1 ≤ 1 := Nat.and_le_right
    refine ⟨.inr (by omega), ?_⟩
    rintro _ rfl
    refine ⟨?_, ?_⟩
    · unfold NShl
      have := log2_bits one
      omega
    · rintro _ rfl _ rfl
      have t1 := bits_twice one
      have t2 := bits_halved c
      refine hn _ ⟨?_, by show bits (one <<< 1) + bits (other >>> 1) ≤ 100000; omega⟩ (by show other >>> 1 < other; rw [Nat.shiftRight_eq_div_pow, Nat.pow_one]; omega)
      show (f ^^^ one * (other &&& 1)) ^^^ pm (one <<< 1) (other >>> 1) = pm a b
      refine Eq.trans ?_ ((pm_turn (f := f) (one := one) (other := other)).trans h1)
      congr 1
      by_cases c2 : other &&& 1 = 1
      · rw [c2, if_pos rfl, Nat.mul_one]
      · rw [if_neg c2, show other &&& 1 = 0 by omega, Nat.mul_zero, Nat.xor_zero]
  · rw [if_neg (by simpa using c)]
    have : other = 0 := by omega
    subst this
    rw [pm_zero, Nat.xor_zero] at h1
    show R f
    rw [h1]; exact h
end My
namespace My
open Wk
theorem w_times {a b : Nat} (hl : bits a + bits b ≤ 100000) {R : Nat → Prop} (h : R (pm a b)) : W_times a b R := by
  refine whileW_ind (fun s => s.1 ^^^ pm s.2.1 s.2.2 = pm a b ∧ bits s.2.1 + bits s.2.2 ≤ 100000) (fun s => s.2.2) ⟨by rw [Nat.zero_xor], hl⟩ ?_
  rintro ⟨f, one, other⟩ nx ⟨(h1 : f ^^^ pm one other = _), (h2 : bits one + bits other ≤ _)⟩ hn
  show if decide (0 < other) = true then _ else _
  by_cases c : 0 < other
  · rw [if_pos (decide_eq_true c)]
    rintro _ rfl
    refine ⟨?_, ?_⟩
    · unfold NShl
      have := log2_bits one
      omega
    · rintro _ rfl _ rfl
      have t1 := bits_twice one
      have t2 := bits_halved c
      refine hn _ ⟨?_, by show bits (one <<< 1) + bits (other >>> 1) ≤ 100000; omega⟩ (by show other >>> 1 < other; rw [Nat.shiftRight_eq_div_pow, Nat.pow_one]; omega)
      show (if other &&& 1 = 1 then f ^^^ one else f) ^^^ pm (one <<< 1) (other >>> 1) = pm a b
      exact (pm_turn (f := f) (one := one) (other := other)).trans h1
  · rw [if_neg (by simpa using c)]
    have : other = 0 := by omega
    subst this
    rw [pm_zero, Nat.xor_zero] at h1
    show R f
    rw [h1]; exact h
end My
namespace My
open Wk
theorem dv_small {d g : Nat} (h : Dv d g) (hg : g ≠ 0) : d ≤ g := by
  have ⟨hb, hd⟩ := h.le hg
  by_cases e : bits g ≤ bits d
  · rcases h.eq e with e | e
    · omega
    · exact absurd e hg
  · refine Nat.le_of_lt (Nat.lt_of_lt_of_le (lt_bits d) ?_)
    refine Nat.le_of_not_lt fun z => ?_
    have := bits_le.mpr z
    omega
theorem rest_zero {a o q r : Nat} (e : pm q o ^^^ r = a) (hr : bits r < bits o) : r = 0 ↔ Dv o a := by
  constructor
  · intro z; exact ⟨q, by rw [← e, z, Nat.xor_zero]⟩
  · rintro ⟨q', e'⟩
    exact (rest_one (q := q) (q' := q') (r' := 0) hr (by rw [bits_zero]; omega) (by rw [e, e', Nat.xor_zero])).2
theorem bits_two {a : Nat} (h : 2 ≤ a) : 2 ≤ bits a := by
  refine Nat.le_of_not_lt fun z => ?_
  have := bits_le.mp (show bits a ≤ 1 by omega)
  omega
theorem two_bits {a : Nat} (h : 2 ≤ bits a) : 2 ≤ a := by
  refine Nat.le_of_not_lt fun z => ?_
  have := bits_le.mpr (show a < 2 ^ 1 by omega)
  omega
def pw (a : Nat) : Nat → Nat
  | 0 => 1
  | n + 1 => pm (pw a n) a
def prodF (fs : List (Nat × Nat)) : Nat := fs.foldl (fun acc f => pm acc (pw f.1 f.2)) 1
/-- nothing goes into it but 1 and itself -/
def Irr (a : Nat) : Prop := 2 ≤ a ∧ ∀ d, 2 ≤ d → d < a → ¬ Dv d a
structure Facs (P : Nat) (fs : List (Nat × Nat)) : Prop where
  prod : prodF fs = P
  rise : fs.Pairwise (fun f g => f.1 < g.1)
  irr : ∀ f ∈ fs, Irr f.1 ∧ 1 ≤ f.2 ∧ f.2 ≤ 16 ∧ bits f.1 ≤ 17
theorem bits_pw {a : Nat} (ha : 2 ≤ a) : ∀ n, n + 1 ≤ bits (pw a n)
  | 0 => by show 1 ≤ bits 1; decide
  | n + 1 => by
    have h1 := bits_pw ha n
    have h2 := bits_two ha
    have : pw a n ≠ 0 := fun z => by rw [z, bits_zero] at h1; omega
    have := bits_pm a (pw a n) this (by omega)
    show n + 1 + 1 ≤ bits (pm (pw a n) a)
    omega
theorem w_factors {y : Nat} (hy : 2 ≤ y) (hy2 : bits y ≤ 17) {E : Prop} {R : List (Nat × Nat) → Prop} (hn : ∀ R' : Unit → Prop, R' () → W_need_poly (An.i ((y : Nat) : Int)) 2 E R') (h : ∀ fs, Facs y fs → R fs) : W_factors (An.i ((y : Nat) : Int)) E R := by
  refine hn _ ⟨y, rfl, ?_⟩
  refine whileW_ind (fun s => 2 ≤ s.1 ∧ 1 ≤ s.2.1 ∧ bits s.2.1 ≤ 17 ∧ pm (prodF s.2.2) s.2.1 = y ∧ s.2.2.Pairwise (fun f g => f.1 < g.1) ∧ (∀ f ∈ s.2.2, f.1 < s.1 ∧ Irr f.1 ∧ 1 ≤ f.2 ∧ f.2 ≤ 16 ∧ bits f.1 ≤ 17) ∧ (∀ d, 2 ≤ d → d < s.1 → ¬ Dv d s.2.1) ∧ s.2.2.length + 2 ≤ s.1) (fun s => 2 ^ 18 - s.1)
    ⟨Nat.le_refl 2, by show 1 ≤ y; omega, hy2, pm_one_l y, List.Pairwise.nil, fun f hf => (by cases hf), fun d h1 h2 => absurd h2 (by show ¬ d < 2; omega), Nat.le_refl _⟩ ?_
  rintro ⟨one, poly, found⟩ nx ⟨(i1 : 2 ≤ one), (i2 : 1 ≤ poly), (i3 : bits poly ≤ 17), (i4 : pm (prodF found) poly = y), (i5 : found.Pairwise _), (i6 : ∀ f ∈ found, f.1 < one ∧ _), (i7 : ∀ d, 2 ≤ d → d < one → ¬ Dv d poly), (i8 : found.length + 2 ≤ one)⟩ hx
  show if decide (1 < poly) = true then _ else _
  by_cases c : 1 < poly
  · rw [if_pos (decide_eq_true c)]
    have op : one ≤ poly := Nat.le_of_not_lt fun z => i7 poly c z (Dv.rfl' poly)
    have plt : poly < 2 ^ 17 := bits_le.mp i3
    have key : ∀ one2, one ≤ one2 → one2 ≤ poly → (∀ d, 2 ≤ d → d < one2 → ¬ Dv d poly) → W_divided poly one2 E fun z2 => whileW (fun (poly3, power1, quotient2, rest2) T => T (decide (rest2 = 0))) (fun (poly3, power1, quotient2, rest2) nx2 bk2 => ∀ power2 : Nat, power2 = power1 + 1 → W_divided quotient2 one2 (E) fun z3 => nx2 (quotient2, power2, z3.1, z3.2)) (poly, 0, z2.1, z2.2) fun (poly3, power1, quotient2, rest2) => jn (fun kk => if 0 < power1 then ((found.length < 1000000) ∧ kk (found ++ [(one2, power1)])) else (kk found)) fun found2 => ∀ one3 : Nat, one3 = one2 + 1 → nx (one3, poly3, found2) := by
      intro one2 ho hop hno
      have o2 : 2 ≤ one2 := by omega
      have ob := bits_two o2
      refine w_divided (by omega) (by omega) fun q r e hr => ?_
      refine whileW_ind (fun s => 1 ≤ s.1 ∧ bits s.1 ≤ 17 ∧ pm (pw one2 s.2.1) s.1 = poly ∧ pm s.2.2.1 one2 ^^^ s.2.2.2 = s.1 ∧ bits s.2.2.2 < bits one2) (fun s => bits s.1) ⟨i2, i3, pm_one_l poly, e, hr⟩ ?_
      rintro ⟨p3, pwr, q2, r2⟩ nx2 ⟨(j1 : 1 ≤ p3), (j2 : bits p3 ≤ 17), (j3 : pm (pw one2 pwr) p3 = poly), (j4 : pm q2 one2 ^^^ r2 = p3), (j5 : bits r2 < bits one2)⟩ hx2
      show if decide (r2 = 0) = true then _ else _
      by_cases c2 : r2 = 0
      · rw [if_pos (decide_eq_true c2)]
        rintro _ rfl
        rw [c2, Nat.xor_zero] at j4
        have q0 : q2 ≠ 0 := fun z => by rw [z, pm_zero_l] at j4; omega
        have bq := bits_pm one2 q2 q0 (by omega)
        rw [j4] at bq
        refine w_divided (by omega) (by omega) fun q' r' e' hr' => hx2 _ ⟨by show 1 ≤ q2; omega, by show bits q2 ≤ 17; omega, ?_, e', hr'⟩ (by show bits q2 < bits p3; omega)
        show pm (pm (pw one2 pwr) one2) q2 = poly
        rw [pm_assoc, pm_comm q2 one2, j4]; exact j3
      · rw [if_neg (by simpa using c2)]
        have nd : ¬ Dv one2 p3 := fun z => c2 ((rest_zero j4 j5).mpr z)
        have dp : Dv p3 poly := ⟨pw one2 pwr, j3⟩
        have fin : ∀ fd : List (Nat × Nat), pm (prodF fd) p3 = y → fd.Pairwise (fun f g => f.1 < g.1) → (∀ f ∈ fd, f.1 < one2 + 1 ∧ Irr f.1 ∧ 1 ≤ f.2 ∧ f.2 ≤ 16 ∧ bits f.1 ≤ 17) → fd.length + 2 ≤ one2 + 1 → nx (one2 + 1, p3, fd) := fun fd h1 h2 h3 h4 => hx _ ⟨by show 2 ≤ one2 + 1; omega, j1, j2, h1, h2, h3, fun d d2 dl dd => by
          have dl' : d < one2 + 1 := dl
          by_cases e1 : d = one2
          · subst e1; exact nd dd
          · exact hno d d2 (by omega) (dd.tr dp), h4⟩ (by show 2 ^ 18 - (one2 + 1) < 2 ^ 18 - one; omega)
        refine jnI ?_
        show if 0 < pwr then _ else _
        by_cases c3 : 0 < pwr
        · rw [if_pos c3]
          refine ⟨by omega, ?_⟩
          rintro _ rfl
          have dvo : Dv one2 poly := by
            rw [← j3]
            obtain ⟨n, rfl⟩ : ∃ n, pwr = n + 1 := ⟨pwr - 1, by omega⟩
            exact (Dv.mul' (pw one2 n) (Dv.rfl' one2)).mul p3
          have bo := (dvo.le (by omega)).1
          have bp := bits_pw o2 pwr
          have b3 := bits_pm p3 (pw one2 pwr) (fun z => by rw [z, bits_zero] at bp; omega) (by omega)
          rw [j3] at b3
          have b1 := bits_pos (n := p3) (by omega)
          refine fin _ ?_ ?_ ?_ ?_
          · unfold prodF
            rw [List.foldl_append]
            show pm (pm (prodF found) (pw one2 pwr)) p3 = y
            rw [pm_assoc, j3]; exact i4
          · exact List.pairwise_append.mpr ⟨i5, List.pairwise_singleton _ _, fun a ha b hb => by rw [List.mem_singleton.mp hb]; have := (i6 a ha).1; show a.1 < one2; omega⟩
          · intro f hf
            rcases List.mem_append.mp hf with m | m
            · obtain ⟨a, b⟩ := i6 f m
              exact ⟨by omega, b⟩
            · rw [List.mem_singleton.mp m]
              exact ⟨Nat.lt_succ_self _, ⟨o2, fun d d2 dl dd => hno d d2 dl (dd.tr dvo)⟩, c3, by show pwr ≤ 16; omega, by show bits one2 ≤ 17; omega⟩
          · rw [List.length_append, List.length_singleton]; omega
        · rw [if_neg c3]
          rintro _ rfl
          have : pwr = 0 := by omega
          subst this
          have e3 : p3 = poly := by rw [← j3]; exact (pm_one_l p3).symm
          exact fin found (by rw [e3]; exact i4) i5 (fun f hf => by obtain ⟨a, b⟩ := i6 f hf; exact ⟨by omega, b⟩) (by omega)
    rintro _ rfl
    have ob := bits_two i1
    by_cases c4 : ((bits poly : Nat) : Int) < (((2 * (bits one) : Nat) : Int) - ((1 : Nat) : Int))
    · rw [if_pos c4]
      refine key poly op (Nat.le_refl _) fun d d2 dl dd => ?_
      obtain ⟨q, hq⟩ := dd
      have q0 : q ≠ 0 := fun z => by rw [z, pm_zero_l] at hq; omega
      have b4 := bits_pm d q q0 (by omega)
      rw [hq] at b4
      have bd := bits_two d2
      -- one of the two is small
      by_cases o : bits d < bits one
      · refine i7 d d2 ?_ ⟨q, hq⟩
        refine Nat.lt_of_not_le fun z => ?_
        have h1 := lt_bits d
        have h2 : 2 ^ bits d ≤ one := by
          refine Nat.le_of_not_lt fun z2 => ?_
          have := bits_le.mpr z2; omega
        omega
      · have bq : bits q < bits one := by omega
        have q2 : 2 ≤ q := by
          refine Nat.le_of_not_lt fun z => ?_
          have : q = 1 := by omega
          rw [this, pm_one_l] at hq
          omega
        refine i7 q q2 ?_ ⟨d, by rw [pm_comm]; exact hq⟩
        refine Nat.lt_of_not_le fun z => ?_
        have h1 := lt_bits q
        have h2 : 2 ^ bits q ≤ one := by
          refine Nat.le_of_not_lt fun z2 => ?_
          have := bits_le.mpr z2; omega
        omega
    · rw [if_neg c4]
      exact key one (Nat.le_refl _) op i7
  · rw [if_neg (by simpa using c)]
    have : poly = 1 := by omega
    subst this
    rw [pm_comm, pm_one_l] at i4
    exact h found ⟨i4, i5, fun f hf => (i6 f hf).2⟩
end My
namespace My
open Wk
/-- alike over a polynomial -/
def Cg (y a b : Nat) : Prop := Dv y (a ^^^ b)
theorem Cg.rfl' (y a : Nat) : Cg y a a := by unfold Cg; rw [Nat.xor_self]; exact Dv.zero y
theorem Cg.symm {y a b : Nat} (h : Cg y a b) : Cg y b a := by unfold Cg; rw [Nat.xor_comm]; exact h
theorem Cg.tr {y a b c : Nat} (h : Cg y a b) (k : Cg y b c) : Cg y a c := by
  have e : (a ^^^ b) ^^^ (b ^^^ c) = a ^^^ c := by rw [Nat.xor_assoc, ← Nat.xor_assoc b b c, Nat.xor_self, Nat.zero_xor]
  have := Dv.xor h k
  rw [e] at this; exact this
theorem Cg.mul {y a b c d : Nat} (h : Cg y a b) (k : Cg y c d) : Cg y (pm a c) (pm b d) := by
  have e : pm (a ^^^ b) c ^^^ pm b (c ^^^ d) = pm a c ^^^ pm b d := by
    rw [pm_xor_l, pm_xor_r, Nat.xor_assoc, ← Nat.xor_assoc (pm b c), Nat.xor_self, Nat.zero_xor]
  unfold Cg
  rw [← e]
  exact Dv.xor (Dv.mul c h) (Dv.mul' b k)
theorem Cg.of_rest {y q r a : Nat} (e : pm q y ^^^ r = a) : Cg y a r := by
  refine ⟨q, ?_⟩
  rw [← e, Nat.xor_assoc, Nat.xor_self, Nat.xor_zero]
theorem Cg.eq {y a b : Nat} (h : Cg y a b) (ha : bits a < bits y) (hb : bits b < bits y) : a = b := by
  obtain ⟨q, e⟩ := h
  have e' : pm q y ^^^ b = pm 0 y ^^^ a := by rw [e, pm_zero_l, Nat.zero_xor, Nat.xor_assoc, Nat.xor_self, Nat.xor_zero]
  exact (rest_one hb ha e').2.symm
theorem xp_add (a b : Nat) : pm (2 ^ a) (2 ^ b) = 2 ^ (a + b) := by rw [pm_pow, Nat.shiftLeft_eq, Nat.pow_add]
/-- x to the n leaves 1 -/
def One (y n : Nat) : Prop := Cg y (2 ^ n) 1
theorem One.zero (y : Nat) : One y 0 := Cg.rfl' y 1
theorem One.add {y a b : Nat} (h : One y a) (k : One y b) : One y (a + b) := by
  have := Cg.mul h k
  rw [xp_add, pm_one_l] at this; exact this
theorem One.sub {y a b : Nat} (h : One y (a + b)) (k : One y a) : One y b := by
  have := Cg.mul k (Cg.rfl' y (2 ^ b))
  rw [xp_add, pm_one_l] at this
  exact this.symm.tr h
theorem One.mul {y a : Nat} (h : One y a) : ∀ k, One y (a * k)
  | 0 => One.zero y
  | k + 1 => by rw [Nat.mul_succ]; exact (h.mul k).add h
theorem One.dvd {y a b : Nat} (h : One y a) (k : a ∣ b) : One y b := by obtain ⟨c, rfl⟩ := k; exact h.mul c
theorem One.mod {y a b : Nat} (h : One y a) (k : One y b) : One y (b % a) := by
  refine One.sub (a := a * (b / a)) ?_ (h.mul _)
  rw [Nat.div_add_mod]; exact k
theorem One.gcd {y : Nat} : ∀ {a b : Nat}, One y a → One y b → One y (Nat.gcd a b) := by
  intro a
  induction a using Nat.strongRecOn with
  | ind a ih =>
    intro b h k
    by_cases z : a = 0
    · subst z; rw [Nat.gcd_zero_left]; exact k
    · rw [Nat.gcd_rec]
      exact ih (b % a) (Nat.mod_lt _ (by omega)) (h.mod k) h
/-- a prime -/
def Pr (q : Nat) : Prop := 2 ≤ q ∧ ∀ d, 2 ≤ d → d < q → ¬ d ∣ q
theorem pr_ex : ∀ m, 2 ≤ m → ∃ q, Pr q ∧ q ∣ m := by
  intro m
  induction m using Nat.strongRecOn with
  | ind m ih =>
    intro hm
    by_cases h : ∃ d, 2 ≤ d ∧ d < m ∧ d ∣ m
    · obtain ⟨d, h1, h2, h3⟩ := h
      obtain ⟨q, hq, hd⟩ := ih d h2 h1
      exact ⟨q, hq, Nat.dvd_trans hd h3⟩
    · exact ⟨m, ⟨hm, fun d h1 h2 h3 => h ⟨d, h1, h2, h3⟩⟩, Nat.dvd_refl m⟩
/-- the order -/
def Ord (y e : Nat) : Prop := 1 ≤ e ∧ ∀ n, One y n ↔ e ∣ n
theorem ord_of {y t : Nat} (ht : 1 ≤ t) (h1 : One y t) (h2 : ∀ q, Pr q → q ∣ t → ¬ One y (t / q)) : Ord y t := by
  refine ⟨ht, fun n => ⟨fun hn => ?_, fun hd => h1.dvd hd⟩⟩
  have hg := hn.gcd h1
  obtain ⟨k, hk⟩ := Nat.gcd_dvd_right n t
  by_cases c : k = 1
  · subst c
    rw [Nat.mul_one] at hk
    rw [hk]; exact Nat.gcd_dvd_left n t
  · have k0 : k ≠ 0 := fun z => by rw [z, Nat.mul_zero] at hk; omega
    obtain ⟨q, hq, j, hj⟩ := pr_ex k (by omega)
    have q2 := hq.1
    have e1 : t = q * (Nat.gcd n t * j) := by
      conv => lhs; rw [hk, hj]
      rw [← Nat.mul_assoc, Nat.mul_comm (Nat.gcd n t) q, Nat.mul_assoc]
    refine (h2 q hq ⟨_, e1⟩ ?_).elim
    have e2 : t / q = Nat.gcd n t * j := by
      conv => lhs; rw [e1]
      exact Nat.mul_div_cancel_left _ (by omega)
    rw [e2]; exact hg.mul j
theorem div_ex (o : Nat) (ho : o ≠ 0) : ∀ a : Nat, ∃ q r, pm q o ^^^ r = a ∧ bits r < bits o := by
  intro a
  induction hb : bits a using Nat.strongRecOn generalizing a with
  | ind n ih =>
    by_cases c : bits o ≤ bits a
    · have po := bits_pos ho
      have a0 : a ≠ 0 := fun z => by rw [z, bits_zero] at c; omega
      have es : bits (o <<< (bits a - bits o)) = bits a := by rw [bits_shl ho]; omega
      have lt : bits (a ^^^ o <<< (bits a - bits o)) < bits a := bits_xor_eq es.symm a0
      obtain ⟨q, r, e, hr⟩ := ih _ (by omega) (a ^^^ o <<< (bits a - bits o)) rfl
      refine ⟨q ^^^ 2 ^ (bits a - bits o), r, ?_, hr⟩
      rw [pm_xor_l, pm_comm o (2 ^ _), pm_pow, Nat.xor_assoc, Nat.xor_comm (o <<< _) r, ← Nat.xor_assoc, e, Nat.xor_assoc, Nat.xor_self, Nat.xor_zero]
    · exact ⟨0, a, by rw [pm_zero_l, Nat.zero_xor], by omega⟩
theorem bits_lt_lt {a b : Nat} (h : bits a < bits b) : a < b := by
  refine Nat.lt_of_lt_of_le (lt_bits a) (Nat.le_of_not_lt fun z => ?_)
  have := bits_le.mpr z; omega
theorem least_ex {P : Nat → Prop} : ∀ n, P n → ∃ m, P m ∧ ∀ k, k < m → ¬ P k := by
  intro n
  induction n using Nat.strongRecOn with
  | ind n ih =>
    intro h
    by_cases c : ∃ k, k < n ∧ P k
    · obtain ⟨k, h1, h2⟩ := c
      exact ih k h1 h2
    · exact ⟨n, h, fun k h1 h2 => c ⟨k, h1, h2⟩⟩
/-- what goes into a product goes into one of the two -/
theorem irr_prime {p a b : Nat} (hp : Irr p) (h : Dv p (pm a b)) : Dv p a ∨ Dv p b := by
  obtain ⟨c, ⟨c0, hc⟩, hmin⟩ := least_ex (P := fun c => c ≠ 0 ∧ Dv p (pm c b)) p ⟨by have := hp.1; omega, (Dv.rfl' p).mul b⟩
  have key : ∀ a', Dv p (pm a' b) → Dv c a' := fun a' ha => by
    obtain ⟨q, r, e, hr⟩ := div_ex c c0 a'
    refine (rest_zero e hr).mp (Classical.byContradiction fun r0 => ?_)
    refine hmin r (bits_lt_lt hr) ⟨r0, ?_⟩
    have e2 : r = pm q c ^^^ a' := by rw [← e, ← Nat.xor_assoc, Nat.xor_self, Nat.zero_xor]
    rw [e2, pm_xor_l, pm_assoc]
    exact Dv.xor (Dv.mul' q hc) ha
  have d1 := key p ((Dv.rfl' p).mul b)
  have p2 := hp.1
  have le := dv_small d1 (by omega)
  by_cases c1 : c = 1
  · subst c1
    rw [pm_one_l] at hc; exact .inr hc
  · by_cases cp : c = p
    · subst cp; exact .inl (key a h)
    · exact (hp.2 c (by omega) (by omega) d1).elim
theorem irr_pw {p a : Nat} (hp : Irr p) : ∀ k, Dv p (pw a k) → Dv p a
  | 0, h => by
    have := dv_small h (by show 1 ≠ 0; decide)
    have h2 := hp.1
    have : p ≤ 1 := this
    omega
  | k + 1, h => (irr_prime hp h).elim (irr_pw hp k) id
theorem not_dv_one {p : Nat} (hp : 2 ≤ p) : ¬ Dv p 1 := fun h => by have := dv_small h (by decide); omega
/-! x to the 2 ** d - 1 -/
def md (p d a : Nat) : Nat := if (2 * a).testBit d = true then (2 * a) ^^^ p else 2 * a
theorem md_cg (p d a : Nat) : Cg p (pm 2 a) (md p d a) := by
  have e : pm 2 a = 2 * a := by
    have := pm_dbl a 1
    rw [pm_one_l, Nat.mul_one] at this; exact this
  rw [e]
  unfold md
  by_cases c : (2 * a).testBit d = true
  · rw [if_pos c]
    refine ⟨1, ?_⟩
    rw [pm_one_l, ← Nat.xor_assoc, Nat.xor_self, Nat.zero_xor]
  · rw [if_neg c]; exact Cg.rfl' _ _
def prodL (l : List Nat) : Nat := l.foldr pm 1
theorem prodL_perm {l k : List Nat} (h : l.Perm k) : prodL l = prodL k := by
  induction h with
  | nil => rfl
  | cons x _ ih => show pm x (prodL _) = pm x (prodL _); rw [ih]
  | swap x y l => show pm y (pm x (prodL l)) = pm x (pm y (prodL l)); rw [← pm_assoc, pm_comm x y, pm_assoc]
  | trans _ _ ih1 ih2 => exact ih1.trans ih2
theorem prodL_map {p d : Nat} : ∀ l : List Nat, Cg p (prodL (l.map (md p d))) (pm (2 ^ l.length) (prodL l))
  | [] => by show Cg p 1 (pm (2 ^ 0) 1); rw [show (2 : Nat) ^ 0 = 1 from rfl, pm_one_l]; exact Cg.rfl' _ _
  | a :: l => by
    show Cg p (pm (md p d a) (prodL (l.map (md p d)))) (pm (2 ^ (l.length + 1)) (pm a (prodL l)))
    have e : pm (2 ^ (l.length + 1)) (pm a (prodL l)) = pm (pm 2 a) (pm (2 ^ l.length) (prodL l)) := by
      have : (2 : Nat) ^ (l.length + 1) = pm 2 (2 ^ l.length) := by
        have := xp_add 1 l.length
        rw [Nat.pow_one] at this
        rw [this, Nat.add_comm]
      rw [this, pm_assoc, pm_assoc, ← pm_assoc (prodL l) (2 ^ l.length) a, pm_comm a (2 ^ l.length), pm_assoc]
    rw [e]
    exact Cg.mul (md_cg p d a).symm (prodL_map l)
theorem irr_list {p : Nat} (hp : Irr p) : ∀ l : List Nat, Dv p (prodL l) → ∃ a ∈ l, Dv p a
  | [], h => (not_dv_one hp.1 h).elim
  | a :: l, h => (irr_prime hp h).elim (fun q => ⟨a, List.mem_cons_self .., q⟩) fun q => by
    obtain ⟨b, hb, q2⟩ := irr_list hp l q
    exact ⟨b, List.mem_cons_of_mem _ hb, q2⟩
theorem fermat {p d : Nat} (hp : Irr p) (ho : p.testBit 0 = true) (hd : bits p = d + 1) (h1 : 1 ≤ d) : One p (2 ^ d - 1) := by
  have pd : p.testBit d = true := by
    have := bits_bit (n := p) (by have := hp.1; omega)
    rwa [hd, Nat.add_sub_cancel] at this
  have plt : p < 2 ^ (d + 1) := by rw [← hd]; exact lt_bits p
  have pge : 2 ^ d ≤ p := Nat.le_of_not_lt fun z => by
    rw [testBit_big z (Nat.le_refl _)] at pd; cases pd
  have tw : 2 ^ (d + 1) = 2 * 2 ^ d := by rw [Nat.pow_succ, Nat.mul_comm]
  have bit0 : ∀ a : Nat, (2 * a).testBit 0 = false := fun a => by rw [Nat.testBit_zero]; simp
  -- on the ones below 2 ** d but 0 md is one to one
  have mlt : ∀ a, a < 2 ^ d → md p d a < 2 ^ d := fun a ha => by
    unfold md
    refine Nat.lt_pow_two_of_testBit _ fun j hj => ?_
    by_cases c : (2 * a).testBit d = true
    · rw [if_pos c, Nat.testBit_xor]
      by_cases e : j = d
      · subst e; rw [c, pd]; rfl
      · rw [testBit_big (show 2 * a < 2 ^ (d + 1) by omega) (by omega), testBit_big plt (by omega)]; rfl
    · rw [if_neg c]
      by_cases e : j = d
      · subst e; simpa using c
      · exact testBit_big (show 2 * a < 2 ^ (d + 1) by omega) (by omega)
  have m0 : ∀ a, a ≠ 0 → md p d a ≠ 0 := fun a ha z => by
    unfold md at z
    by_cases c : (2 * a).testBit d = true
    · rw [if_pos c] at z
      have := xor0 z
      rw [← this, bit0] at ho; cases ho
    · rw [if_neg c] at z; omega
  have minj : ∀ a b, md p d a = md p d b → a = b := fun a b h => by
    unfold md at h
    by_cases c : (2 * a).testBit d = true <;> by_cases e : (2 * b).testBit d = true
    · rw [if_pos c, if_pos e] at h
      have : 2 * a = 2 * b := by
        have := congrArg (· ^^^ p) h
        simp only [Nat.xor_assoc, Nat.xor_self, Nat.xor_zero] at this
        exact this
      omega
    · rw [if_pos c, if_neg e] at h
      have := congrArg (fun x => x.testBit 0) h
      simp only [Nat.testBit_xor, bit0, ho] at this
      cases this
    · rw [if_neg c, if_pos e] at h
      have := congrArg (fun x => x.testBit 0) h
      simp only [Nat.testBit_xor, bit0, ho] at this
      cases this
    · rw [if_neg c, if_neg e] at h; omega
  have L : (List.range' 1 (2 ^ d - 1)).Nodup := List.nodup_range'
  have mem : ∀ x, x ∈ List.range' 1 (2 ^ d - 1) ↔ 1 ≤ x ∧ x < 2 ^ d := fun x => by
    rw [List.mem_range'_1]
    have := Nat.two_pow_pos d
    omega
  have perm : ((List.range' 1 (2 ^ d - 1)).map (md p d)).Perm (List.range' 1 (2 ^ d - 1)) := by
    have nd : ((List.range' 1 (2 ^ d - 1)).map (md p d)).Nodup := List.pairwise_map.mpr (L.imp fun {a b} hne e => hne (minj a b e))
    refine List.perm_iff_count.mpr fun x => ?_
    rw [nd.count, L.count]
    have : x ∈ (List.range' 1 (2 ^ d - 1)).map (md p d) ↔ x ∈ List.range' 1 (2 ^ d - 1) := by
      rw [List.mem_map, mem]
      constructor
      · rintro ⟨a, ha, rfl⟩
        rw [mem] at ha
        have := m0 a (by omega)
        have := mlt a ha.2
        omega
      · intro hx
        by_cases e : x.testBit 0 = true
        · -- (x ^^^ p) / 2
          have ev : (x ^^^ p).testBit 0 = false := by rw [Nat.testBit_xor, e, ho]; rfl
          have hh : 2 * ((x ^^^ p) / 2) = x ^^^ p := by
            rw [Nat.testBit_zero] at ev
            have := of_decide_eq_false ev
            omega
          have xd : x.testBit d = false := testBit_big hx.2 (Nat.le_refl _)
          have lt : x ^^^ p < 2 ^ (d + 1) := Nat.xor_lt_two_pow (by omega) plt
          refine ⟨(x ^^^ p) / 2, ?_, ?_⟩
          · rw [mem]
            have : x ^^^ p ≠ 0 := fun z => by have := xor0 z; omega
            omega
          · unfold md
            rw [hh, if_pos (by rw [Nat.testBit_xor, xd, pd]; rfl), Nat.xor_assoc, Nat.xor_self, Nat.xor_zero]
        · have hh : 2 * (x / 2) = x := by
            rw [Nat.testBit_zero] at e
            have : ¬ (x % 2 = 1) := by simpa using e
            omega
          refine ⟨x / 2, ?_, ?_⟩
          · rw [mem]; omega
          · unfold md
            rw [hh, if_neg (by rw [testBit_big hx.2 (Nat.le_refl _)]; simp)]
    by_cases q : x ∈ List.range' 1 (2 ^ d - 1)
    · rw [if_pos q, if_pos (this.mpr q)]
    · rw [if_neg q, if_neg (fun z => q (this.mp z))]
  have c1 := prodL_map (p := p) (d := d) (List.range' 1 (2 ^ d - 1))
  rw [prodL_perm perm, List.length_range'] at c1
  have c2 : Dv p (pm (2 ^ (2 ^ d - 1) ^^^ 1) (prodL (List.range' 1 (2 ^ d - 1)))) := by
    have := c1.symm
    unfold Cg at this
    rw [pm_xor_l, pm_one_l]; exact this
  rcases irr_prime hp c2 with h | h
  · exact h
  · obtain ⟨a, ha, hda⟩ := irr_list hp _ h
    rw [mem] at ha
    have := dv_small hda (by omega)
    omega
/-! squares and powers -/
theorem sq_xor (a b : Nat) : pm (a ^^^ b) (a ^^^ b) = pm a a ^^^ pm b b := by
  rw [pm_xor_l, pm_xor_r, pm_xor_r, pm_comm b a]
  rw [Nat.xor_assoc, ← Nat.xor_assoc (pm b a), Nat.xor_self, Nat.zero_xor]
theorem pw_add (a m : Nat) : ∀ n, pw a (m + n) = pm (pw a m) (pw a n)
  | 0 => by show pw a m = pm (pw a m) 1; rw [pm_comm, pm_one_l]
  | n + 1 => by show pm (pw a (m + n)) a = pm (pw a m) (pm (pw a n) a); rw [pw_add a m n, pm_assoc]
theorem pw_one (a : Nat) : pw a 1 = a := pm_one_l a
theorem pw_mul (a b : Nat) : ∀ n, pw (pm a b) n = pm (pw a n) (pw b n)
  | 0 => (pm_one_l 1).symm
  | n + 1 => by
    show pm (pw (pm a b) n) (pm a b) = pm (pm (pw a n) a) (pm (pw b n) b)
    rw [pw_mul a b n, pm_assoc, pm_assoc]
    congr 1
    rw [← pm_assoc, ← pm_assoc]
    congr 1
    exact pm_comm _ _
theorem pw_dv {a b n m : Nat} (h : Dv a b) (hm : m ≤ n) : Dv (pw a m) (pw b n) := by
  obtain ⟨c, rfl⟩ := h
  obtain ⟨k, rfl⟩ : ∃ k, n = m + k := ⟨n - m, by omega⟩
  rw [pw_mul, pw_add a m k, ← pm_assoc]
  exact (Dv.mul' _ (Dv.rfl' _)).mul _
theorem two_pw (n : Nat) : ∀ j, pw (2 ^ n ^^^ 1) (2 ^ j) = 2 ^ (n * 2 ^ j) ^^^ 1
  | 0 => by rw [Nat.pow_zero, pw_one, Nat.mul_one]
  | j + 1 => by
    have e : (2 : Nat) ^ (j + 1) = 2 ^ j + 2 ^ j := by rw [Nat.pow_succ]; omega
    rw [e, pw_add, two_pw n j, sq_xor, xp_add, pm_one_l, Nat.mul_add]
/-- where p to the k goes into a product and p not into one of the two -/
theorem pw_other {p a b : Nat} (hp : Irr p) (ha : ¬ Dv p a) : ∀ k, Dv (pw p k) (pm a b) → Dv (pw p k) b := by
  intro k
  induction k generalizing b with
  | zero => intro _; exact ⟨b, by show pm b 1 = b; rw [pm_comm, pm_one_l]⟩
  | succ k ih =>
    intro h
    have h1 : Dv p (pm a b) := Dv.tr ⟨pw p k, rfl⟩ h
    rcases irr_prime hp h1 with q | q
    · exact (ha q).elim
    · obtain ⟨c, rfl⟩ := q
      obtain ⟨z, hz⟩ := h
      have p0 : p ≠ 0 := by have := hp.1; omega
      -- cancel p
      have e : pm (pm z (pw p k) ^^^ pm a c) p = 0 := by
        rw [pm_xor_l, pm_assoc, pm_assoc]
        have hz' : pm z (pm (pw p k) p) = pm a (pm c p) := hz
        rw [hz', Nat.xor_self]
      have e2 : pm z (pw p k) ^^^ pm a c = 0 := Classical.byContradiction fun z0 => pm_ne z0 p0 e
      obtain ⟨w, hw⟩ := ih (b := c) ⟨z, xor0 e2⟩
      exact ⟨w, by show pm w (pm (pw p k) p) = pm c p; rw [← pm_assoc, hw]⟩
theorem irr_irr {p q : Nat} (hp : Irr p) (hq : Irr q) (h : Dv p q) : p = q := by
  have h1 := dv_small h (by have := hq.1; omega)
  have := hp.1
  refine Classical.byContradiction fun z => hq.2 p hp.1 (by omega) h
theorem prodF_snoc (fs : List (Nat × Nat)) (f : Nat × Nat) : prodF (fs ++ [f]) = pm (prodF fs) (pw f.1 f.2) := by
  unfold prodF; rw [List.foldl_append]; rfl
/-- what all powers go into, the product goes into -/
theorem prodF_dv {z : Nat} : ∀ fs : List (Nat × Nat), fs.Pairwise (fun f g => f.1 < g.1) → (∀ f ∈ fs, Irr f.1) → (∀ f ∈ fs, Dv (pw f.1 f.2) z) → Dv (prodF fs) z := by
  intro fs
  suffices h : ∀ k, k ≤ fs.length → fs.Pairwise (fun f g => f.1 < g.1) → (∀ f ∈ fs, Irr f.1) → (∀ f ∈ fs, Dv (pw f.1 f.2) z) → Dv (prodF (fs.take k)) z by
    have := h fs.length (Nat.le_refl _)
    rwa [List.take_length] at this
  intro k
  induction k with
  | zero => intro _ _ _ _; exact ⟨z, by show pm z 1 = z; rw [pm_comm, pm_one_l]⟩
  | succ k ih =>
    intro hk h1 h2 h3
    have lt : k < fs.length := by omega
    rw [List.take_succ_eq_append_getElem lt, prodF_snoc]
    obtain ⟨c, rfl⟩ := ih (by omega) h1 h2 h3
    have hm := List.getElem_mem lt
    have hi := h2 _ hm
    -- this one does not go into those ahead
    have no : ∀ l : List (Nat × Nat), (∀ f ∈ l, Irr f.1 ∧ f.1 ≠ fs[k].1) → ∀ j, j ≤ l.length → ¬ Dv fs[k].1 (prodF (l.take j)) := by
      intro l hl j
      induction j with
      | zero => intro _ hd; exact not_dv_one hi.1 hd
      | succ j ihj =>
        intro hj hd
        have lj : j < l.length := by omega
        rw [List.take_succ_eq_append_getElem lj, prodF_snoc] at hd
        rcases irr_prime hi hd with q | q
        · exact ihj (by omega) q
        · have := hl _ (List.getElem_mem lj)
          exact this.2 (irr_irr hi this.1 (irr_pw hi _ q)).symm
    have no' := no (fs.take k) (fun f hf => ⟨h2 f (List.mem_of_mem_take hf), fun e => by
      obtain ⟨i, hi2, e2⟩ := List.getElem_of_mem hf
      rw [List.length_take] at hi2
      rw [List.getElem_take] at e2
      have := List.pairwise_iff_getElem.mp h1 i k (by omega) lt (by omega)
      rw [e2] at this; omega⟩) (fs.take k).length (Nat.le_refl _)
    rw [List.take_length] at no'
    have hd := h3 _ hm
    rw [pm_comm] at hd
    obtain ⟨w, hw⟩ := pw_other hi no' _ hd
    exact ⟨w, by rw [pm_comm (pw _ _) (prodF _), ← pm_assoc, hw]⟩
/-! no polynomial goes twice into x to an odd number and 1 -/
theorem count_fl {p : Nat → Bool} {n j : Nat} : ((List.range n).filter p).count j = if j < n ∧ p j = true then 1 else 0 := by
  have nd : ((List.range n).filter p).Nodup := (List.nodup_range).filter _
  have hm : j ∈ (List.range n).filter p ↔ j < n ∧ p j = true := by simp [List.mem_filter, List.mem_range]
  by_cases q : j < n ∧ p j = true
  · rw [if_pos q, nd.count, if_pos (hm.mpr q)]
  · rw [if_neg q, nd.count, if_neg (fun z => q (hm.mp z))]
def der (a : Nat) : Nat := mof ((List.range (bits a)).filter fun i => a.testBit (i + 1) && decide (i % 2 = 0))
theorem der_bit (a i : Nat) : (der a).testBit i = (a.testBit (i + 1) && decide (i % 2 = 0)) := by
  unfold der
  rw [mof_bit, count_fl]
  by_cases q : i < bits a
  · by_cases r : (a.testBit (i + 1) && decide (i % 2 = 0)) = true
    · rw [if_pos ⟨q, r⟩, r]; rfl
    · rw [if_neg (fun z => r z.2)]
      have : (a.testBit (i + 1) && decide (i % 2 = 0)) = false := by simpa using r
      rw [this]; rfl
  · rw [if_neg (fun z => q z.1), testBit_big (lt_bits a) (by omega)]; rfl
theorem der_xor (a b : Nat) : der (a ^^^ b) = der a ^^^ der b := Nat.eq_of_testBit_eq fun i => by
  rw [Nat.testBit_xor, der_bit, der_bit, der_bit, Nat.testBit_xor]
  cases a.testBit (i + 1) <;> cases b.testBit (i + 1) <;> cases decide (i % 2 = 0) <;> rfl
theorem der_zero : der 0 = 0 := by decide
theorem der_four (a : Nat) : der (2 * (2 * a)) = 2 * (2 * der a) := Nat.eq_of_testBit_eq fun i => by
  have dbl : ∀ b j, (2 * b).testBit (j + 1) = b.testBit j := fun b j => by rw [Nat.testBit_add_one, Nat.mul_div_cancel_left _ (by decide)]
  have dbl0 : ∀ b, (2 * b).testBit 0 = false := fun b => by rw [Nat.testBit_zero]; simp
  rw [der_bit, dbl]
  cases i with
  | zero => rw [dbl0, dbl0]; rfl
  | succ i =>
    rw [dbl, dbl]
    cases i with
    | zero => rw [dbl0]; simp
    | succ i =>
      rw [dbl, der_bit]
      have : decide ((i + 1 + 1) % 2 = 0) = decide (i % 2 = 0) := by
        by_cases c : i % 2 = 0
        · rw [decide_eq_true c, decide_eq_true (by omega)]
        · rw [decide_eq_false c, decide_eq_false (by omega)]
      rw [this]
def Evn (b : Nat) : Prop := ∀ i, b.testBit (2 * i + 1) = false
theorem der_ev (b : Nat) : ∀ h, Evn b → der (pm h b) = pm (der h) b := by
  induction b using Nat.strongRecOn with
  | ind b ih =>
    intro h hb
    by_cases z : b = 0
    · subst z; rw [pm_zero, pm_zero, der_zero]
    · have b1 : (b / 2).testBit 0 = false := by have := hb 0; rwa [Nat.mul_zero, Nat.zero_add, Nat.testBit_add_one] at this
      have st : ∀ g, pm g b = (if b.testBit 0 = true then g else 0) ^^^ pm (2 * (2 * g)) (b / 2 / 2) := fun g => by
        rw [pm_step g b, pm_step (2 * g) (b / 2), b1]
        congr 1
        rw [if_neg Bool.false_ne_true, Nat.zero_xor]
      rw [st h, st (der h), der_xor, ih (b / 2 / 2) (by omega) _ (fun i => by
        have := hb (i + 1)
        rw [show 2 * (i + 1) + 1 = 2 * i + 1 + 1 + 1 by omega, Nat.testBit_add_one, Nat.testBit_add_one] at this; exact this), der_four]
      congr 1
      by_cases c : b.testBit 0 = true
      · rw [if_pos c, if_pos c]
      · rw [if_neg c, if_neg c, der_zero]
theorem sq_ev : ∀ a, Evn (pm a a) := by
  intro a
  induction a using Nat.strongRecOn with
  | ind a ih =>
    intro i
    by_cases z : a = 0
    · subst z; rw [pm_zero, Nat.zero_testBit]
    · have e : pm a a = (if a.testBit 0 = true then 1 else 0) ^^^ 2 * (2 * pm (a / 2) (a / 2)) := by
        conv => lhs; rw [dbl_half a]
        rw [sq_xor, pm_dbl, pm_comm (2 * (a / 2)), pm_dbl]
        congr 1
        by_cases c : a.testBit 0 = true
        · rw [if_pos c, pm_one_l]
        · rw [if_neg c, pm_zero]
      rw [e, Nat.testBit_xor]
      have e1 : (if a.testBit 0 = true then 1 else 0 : Nat).testBit (2 * i + 1) = false := by
        by_cases c : a.testBit 0 = true
        · rw [if_pos c, Nat.testBit_add_one]; show (0 : Nat).testBit _ = false; rw [Nat.zero_testBit]
        · rw [if_neg c, Nat.zero_testBit]
      rw [e1, Nat.testBit_add_one, Nat.mul_div_cancel_left _ (by decide)]
      cases i with
      | zero => rw [Nat.mul_zero, Nat.testBit_zero]; simp
      | succ i =>
        rw [show 2 * (i + 1) = 2 * i + 1 + 1 by omega, Nat.testBit_add_one, Nat.mul_div_cancel_left _ (by decide), ih (a / 2) (by omega) i]; rfl
theorem no_square {p m : Nat} (hp : Irr p) (hm : m % 2 = 1) : ¬ Dv (pm p p) (2 ^ m ^^^ 1) := by
  rintro ⟨h, e⟩
  have e2 : der (2 ^ m ^^^ 1) = 2 ^ (m - 1) := Nat.eq_of_testBit_eq fun i => by
    rw [der_bit, Nat.testBit_xor, Nat.testBit_two_pow, Nat.testBit_two_pow]
    have : (1 : Nat).testBit (i + 1) = false := by rw [Nat.testBit_add_one]; show (0 : Nat).testBit i = false; exact Nat.zero_testBit i
    rw [this, Bool.xor_false]
    by_cases c : m = i + 1
    · subst c
      rw [decide_eq_true rfl, decide_eq_true (by omega), decide_eq_true (by omega)]; rfl
    · rw [decide_eq_false c, decide_eq_false (show ¬ (m - 1 = i) by omega)]; rfl
  rw [← e, der_ev _ _ (sq_ev p)] at e2
  have d1 : Dv p (2 ^ (m - 1)) := by
    rw [← e2, ← pm_assoc]; exact ⟨_, rfl⟩
  have d2 : Dv p (2 ^ m) := by
    have := xp_add 1 (m - 1)
    rw [show 1 + (m - 1) = m by omega] at this
    rw [← this]; exact Dv.mul' _ d1
  have d3 : Dv p (2 ^ m ^^^ 1) := ⟨pm h p, by rw [pm_assoc]; exact e⟩
  have d4 := Dv.xor d2 d3
  rw [← Nat.xor_assoc, Nat.xor_self, Nat.zero_xor] at d4
  exact not_dv_one hp.1 d4
theorem odd_part : ∀ n : Nat, n ≠ 0 → ∃ m i, m % 2 = 1 ∧ n = m * 2 ^ i := by
  intro n
  induction n using Nat.strongRecOn with
  | ind n ih =>
    intro h
    rcases Nat.mod_two_eq_zero_or_one n with e | e
    · obtain ⟨m, i, h1, h2⟩ := ih (n / 2) (by omega) (by omega)
      refine ⟨m, i + 1, h1, ?_⟩
      rw [Nat.pow_succ, ← Nat.mul_assoc, ← h2]; omega
    · exact ⟨n, 0, e, by rw [Nat.pow_zero, Nat.mul_one]⟩
/-- where p to the k goes into x to the n and 1 -/
theorem two_part {p k n J : Nat} (hp : Irr p) (hk : 2 ^ (J - 1) < k) (hJ : J ≠ 0) (h : Dv (pw p k) (2 ^ n ^^^ 1)) : 2 ^ J ∣ n := by
  by_cases n0 : n = 0
  · subst n0; exact Nat.dvd_zero _
  obtain ⟨m, i, hm, rfl⟩ := odd_part n n0
  rw [← two_pw] at h
  have kp : 1 ≤ k := by have := Nat.two_pow_pos (J - 1); omega
  have ip := Nat.two_pow_pos i
  have key : k ≤ 2 ^ i := Nat.le_of_not_lt fun lt => by
    have d1 : Dv p (pw (2 ^ m ^^^ 1) (2 ^ i)) := by
      refine Dv.tr ?_ h
      obtain ⟨k', rfl⟩ : ∃ k', k = k' + 1 := ⟨k - 1, by omega⟩
      exact ⟨pw p k', rfl⟩
    obtain ⟨g, hg⟩ := irr_pw hp _ d1
    have ng : ¬ Dv p g := fun ⟨w, hw⟩ => no_square hp hm ⟨w, by rw [← pm_assoc, hw]; exact hg⟩
    obtain ⟨z, hz⟩ := h
    rw [← hg, pw_mul] at hz
    have e1 : k = (k - 2 ^ i) + 2 ^ i := by omega
    rw [e1, pw_add, ← pm_assoc] at hz
    have pz : pw p (2 ^ i) ≠ 0 := fun z0 => by have := bits_pw hp.1 (2 ^ i); rw [z0, bits_zero] at this; omega
    have e2 : pm (pm z (pw p (k - 2 ^ i)) ^^^ pw g (2 ^ i)) (pw p (2 ^ i)) = 0 := by rw [pm_xor_l, hz, Nat.xor_self]
    have e3 : pm z (pw p (k - 2 ^ i)) ^^^ pw g (2 ^ i) = 0 := Classical.byContradiction fun z0 => pm_ne z0 pz e2
    have e4 := xor0 e3
    refine ng (irr_pw hp (2 ^ i) ?_)
    rw [← e4]
    refine Dv.mul' z ?_
    obtain ⟨k', hk'⟩ : ∃ k', k - 2 ^ i = k' + 1 := ⟨k - 2 ^ i - 1, by omega⟩
    rw [hk']
    exact ⟨pw p k', rfl⟩
  have lt : J - 1 < i := Nat.lt_of_not_le fun z => by
    have := Nat.pow_le_pow_right (show 0 < 2 by decide) z
    omega
  have : 2 ^ J ∣ 2 ^ i := Nat.pow_dvd_pow 2 (by omega)
  exact Nat.dvd_trans this (Nat.dvd_mul_left _ _)
theorem odd_dv {p y : Nat} (h : Dv p y) (hy : y.testBit 0 = true) : p.testBit 0 = true := by
  obtain ⟨q, rfl⟩ := h
  rw [pm_half, Nat.testBit_xor] at hy
  have : (2 * pm q (p / 2)).testBit 0 = false := by rw [Nat.testBit_zero]; simp
  rw [this, Bool.xor_false] at hy
  by_cases c : p.testBit 0 = true
  · exact c
  · rw [if_neg c, Nat.zero_testBit] at hy; cases hy
theorem prodF_mem {f : Nat × Nat} : ∀ fs : List (Nat × Nat), f ∈ fs → Dv (pw f.1 f.2) (prodF fs) := by
  intro fs
  suffices h : ∀ (fs : List (Nat × Nat)) (acc : Nat), (f ∈ fs ∨ Dv (pw f.1 f.2) acc) → Dv (pw f.1 f.2) (fs.foldl (fun acc f => pm acc (pw f.1 f.2)) acc) from fun hf => h fs 1 (.inl hf)
  intro fs
  induction fs with
  | nil => rintro acc (h | h); · cases h
           · exact h
  | cons g fs ih =>
    rintro acc (h | h)
    · rcases List.mem_cons.mp h with e | e
      · subst e; exact ih _ (.inr (Dv.mul' _ (Dv.rfl' _)))
      · exact ih _ (.inl e)
    · exact ih _ (.inr (h.mul _))
theorem ord_main {y : Nat} {fs : List (Nat × Nat)} (F : Facs y fs) {L J : Nat} {ts : Nat × Nat → Nat} (ht : ∀ f ∈ fs, Ord f.1 (ts f)) (hLo : L % 2 = 1) (hL1 : ∀ f ∈ fs, ts f ∣ L) (hL2 : ∀ n, (∀ f ∈ fs, ts f ∣ n) → L ∣ n)
    (hJ1 : ∀ f ∈ fs, f.2 ≤ 2 ^ J) (hJ2 : J = 0 ∨ ∃ f ∈ fs, 2 ^ (J - 1) < f.2) : Ord y (L * 2 ^ J) := by
  have dvy : ∀ f ∈ fs, Dv (pw f.1 f.2) y := fun f hf => by rw [← F.prod]; exact prodF_mem fs hf
  refine ⟨Nat.mul_pos (by omega) (Nat.two_pow_pos J), fun n => ⟨fun h => ?_, fun h => One.dvd ?_ h⟩⟩
  · have h1 : L ∣ n := hL2 n fun f hf => ((ht f hf).2 n).mp (Dv.tr (Dv.tr (by
      obtain ⟨k', hk'⟩ : ∃ k', f.2 = k' + 1 := ⟨f.2 - 1, by have := (F.irr f hf).2.1; omega⟩
      exact ⟨pw f.1 k', by rw [hk']; rfl⟩) (dvy f hf)) h)
    have h2 : 2 ^ J ∣ n := by
      rcases hJ2 with z | ⟨f, hf, hlt⟩
      · subst z; exact ⟨n, by rw [Nat.pow_zero, Nat.one_mul]⟩
      · by_cases z : J = 0
        · subst z; exact ⟨n, by rw [Nat.pow_zero, Nat.one_mul]⟩
        · exact two_part (F.irr f hf).1 hlt z (Dv.tr (dvy f hf) h)
    refine Nat.Coprime.mul_dvd_of_dvd_of_dvd (Nat.Coprime.pow_right J ?_) h1 h2
    show Nat.gcd L 2 = 1
    rw [Nat.gcd_comm, Nat.gcd_rec, hLo]
    decide
  · show Dv y (2 ^ (L * 2 ^ J) ^^^ 1)
    rw [← F.prod, ← two_pw]
    refine prodF_dv fs F.rise (fun f hf => (F.irr f hf).1) fun f hf => pw_dv ?_ (hJ1 f hf)
    exact ((ht f hf).2 L).mpr (hL1 f hf)
end My
namespace My
open Wk
theorem w_needG {x : An} {least : Nat} {R : Unit → Prop} {E : Prop} (hT : ∀ T, x = An.o T → isA "int" x = false) (h1 : ∀ y : Int, x = An.i y → ((least : Nat) : Int) ≤ y → y < ((2 ^ 17 : Nat) : Int) → R ()) (h2 : (∀ y : Int, x = An.i y → ((least : Nat) : Int) ≤ y → y < ((2 ^ 17 : Nat) : Int) → False) → E) : W_need_poly x least E R := by
  have isI : ∀ y : Int, decide (isA "int" (An.i y) = true ∧ ¬ isA "bool" (An.i y) = true) = true := fun y => by
    have e1 : isA "int" (An.i y) = true := by show (("int" : String) == "int" || (("int" : String) == "int" && ("int" : String) == "bool")) = true; decide
    have e2 : isA "bool" (An.i y) = false := by show (("int" : String) == "bool" || (("bool" : String) == "int" && ("int" : String) == "bool")) = false; decide
    rw [e1, e2]; rfl
  have no : isA "int" x = false ∨ isA "bool" x = true → (∀ y : Int, x ≠ An.i y) → W_need_poly x least E R := fun hb hn => by
    refine jnI ?_
    unfold W_is_whole
    rw [decide_eq_false (fun z => hb.elim (fun q => by rw [q] at z; cases z.1) fun q => z.2 q)]
    show if false = true then _ else _
    rw [if_neg (by simp)]
    show if true = true then _ else _
    rw [if_pos rfl]
    exact h2 fun y e _ _ => hn y e
  cases x with
  | i y =>
    refine jnI ?_
    unfold W_is_whole
    rw [isI]
    show if true = true then _ else _
    rw [if_pos rfl]
    refine ⟨y, rfl, by decide, ?_⟩
    by_cases c : ((least : Nat) : Int) ≤ y ∧ y < ((2 ^ (16 + 1) : Nat) : Int)
    · rw [decide_eq_false (fun z => z c)]
      show if false = true then _ else _
      rw [if_neg (by simp)]
      exact h1 y rfl c.1 c.2
    · rw [decide_eq_true c]
      show if true = true then _ else _
      rw [if_pos rfl]
      exact h2 fun y' e a b => c (by cases e; exact ⟨a, b⟩)
  | b b => exact no (.inr (by show (("bool" : String) == "bool" || (("bool" : String) == "int" && ("bool" : String) == "bool")) = true; decide)) fun y e => by cases e
  | n => exact no (.inl (by decide)) fun y e => by cases e
  | s s => exact no (.inl (by show (("str" : String) == "int" || (("int" : String) == "int" && ("str" : String) == "bool")) = false; decide)) fun y e => by cases e
  | o T => exact no (.inl (hT T rfl)) fun y e => by cases e
theorem dv_pw {p k : Nat} (h : 1 ≤ k) : Dv p (pw p k) := by
  obtain ⟨k', rfl⟩ : ∃ k', k = k' + 1 := ⟨k - 1, by omega⟩
  exact ⟨pw p k', rfl⟩
theorem cg_one {y e r : Nat} (h : Cg y (2 ^ e) r) (hr : bits r < bits y) (hy : 2 ≤ y) : r = 1 ↔ One y e := by
  constructor
  · intro z; subst z; exact h
  · intro o
    refine (h.symm.tr o).eq hr ?_
    have := bits_two hy
    show bits 1 < bits y
    have : bits 1 = 1 := by decide
    omega
theorem bit_one {e : Nat} : e &&& 1 = 1 ↔ e % 2 = 1 := by rw [Nat.and_one_is_mod]
theorem w_power_left {e y : Nat} (hy : y ≠ 0) (hb : bits y ≤ 1000) {R : Nat → Prop} (h : ∀ r, Cg y (2 ^ e) r → bits r < bits y → R r) : W_power_left e y R := by
  refine w_divided hy (by have : bits 1 = 1 := by decide
                          omega) fun q1 r1 e1 b1 => w_divided hy (by have : bits 2 = 2 := by decide
                                                                     omega) fun q2 r2 e2 b2 => ?_
  refine whileW_ind (fun s => bits s.1 < bits y ∧ bits s.2.1 < bits y ∧ ∃ F S, Cg y (2 ^ F) s.1 ∧ Cg y (2 ^ S) s.2.1 ∧ F + S * s.2.2 = e) (fun s => s.2.2) ⟨b1, b2, 0, 1, Cg.of_rest e1, Cg.of_rest e2, by show 0 + 1 * e = e; omega⟩ ?_
  rintro ⟨f, sq, ex⟩ nx ⟨(h1 : bits f < _), (h2 : bits sq < _), F, S, (h3 : Cg y (2 ^ F) f), (h4 : Cg y (2 ^ S) sq), (h5 : F + S * ex = e)⟩ hn
  show if decide (0 < ex) = true then _ else _
  by_cases c : 0 < ex
  · rw [if_pos (decide_eq_true c)]
    have fin : ∀ f2 F2, bits f2 < bits y → Cg y (2 ^ F2) f2 → F2 + (S + S) * (ex / 2) = e → W_times sq sq fun z5 => W_divided z5 y False fun z6 => ∀ exponent3 : Nat, exponent3 = ex >>> 1 → nx (f2, z6.2, exponent3) := fun f2 F2 g1 g2 g3 => by
      have := bits_pm_le sq sq
      refine w_times (by omega) (w_divided hy (by omega) fun q r er hr => ?_)
      rintro _ rfl
      refine hn _ ⟨g1, hr, F2, S + S, g2, ?_, ?_⟩ ?_
      · have := Cg.mul h4 h4
        rw [xp_add] at this
        exact this.tr (Cg.of_rest er)
      · show F2 + (S + S) * (ex >>> 1) = e
        rw [Nat.shiftRight_eq_div_pow, Nat.pow_one]; exact g3
      · show ex >>> 1 < ex
        rw [Nat.shiftRight_eq_div_pow, Nat.pow_one]; omega
    refine jnI ?_
    obtain ⟨k, hk⟩ : ∃ k, k = ex / 2 := ⟨_, rfl⟩
    by_cases o : ex &&& 1 = 1
    · rw [if_pos o]
      have o' := bit_one.mp o
      have := bits_pm_le f sq
      refine w_times (by omega) (w_divided hy (by omega) fun q r er hr => ?_)
      refine fin r (F + S) hr ?_ ?_
      · have := Cg.mul h3 h4
        rw [xp_add] at this
        exact this.tr (Cg.of_rest er)
      · rw [← h5, ← hk, show ex = k + k + 1 by omega, Nat.mul_add, Nat.mul_add, Nat.add_mul]; omega
    · rw [if_neg o]
      have o' : ex % 2 = 0 := by
        have : ¬ (ex % 2 = 1) := fun z => o (bit_one.mpr z)
        omega
      exact fin f F h1 h3 (by rw [← h5, ← hk, show ex = k + k by omega, Nat.mul_add, Nat.add_mul])
  · rw [if_neg (by simpa using c)]
    have : ex = 0 := by omega
    subst this
    rw [Nat.mul_zero, Nat.add_zero] at h5
    subst h5
    exact h f h3 h1
theorem w_joined_order {a b : Nat} (ha : a < 2 ^ 64) (h0 : 0 < a) {R : Nat → Prop} (h : R (Nat.lcm a b)) : W_joined_order a b R := by
  refine whileW_ind (fun s => Nat.gcd s.1 s.2 = Nat.gcd a b) (fun s => s.2) rfl ?_
  rintro ⟨l, m⟩ nx (h1 : Nat.gcd l m = Nat.gcd a b) hn
  show if decide (0 < m) = true then _ else _
  by_cases c : 0 < m
  · rw [if_pos (decide_eq_true c)]
    refine ⟨c, hn _ ?_ (Nat.mod_lt _ c)⟩
    show Nat.gcd m (l % m) = _
    rw [← h1, Nat.gcd_comm l m, Nat.gcd_rec m l, Nat.gcd_comm]
  · rw [if_neg (by simpa using c)]
    have : m = 0 := by omega
    subst this
    rw [Nat.gcd_zero_right] at h1
    subst h1
    have gp : 0 < Nat.gcd a b := Nat.gcd_pos_of_pos_left b h0
    have gl : Nat.gcd a b ≤ a := Nat.gcd_le_left b h0
    refine ⟨.inl ha, ⟨gp, ?_⟩, h⟩
    have : (Nat.gcd a b).log2 < 64 := (Nat.log2_lt (by omega)).mpr (by omega)
    omega
theorem pr_coprime {q o : Nat} (hq : Pr q) (ho : Pr o) (h : q ≠ o) : Nat.Coprime q o := by
  refine Classical.byContradiction fun z => ?_
  have g1 := Nat.gcd_dvd_left q o
  have g2 := Nat.gcd_dvd_right q o
  have q2 := hq.1
  have o2 := ho.1
  have gp : 0 < Nat.gcd q o := Nat.gcd_pos_of_pos_left o (by omega)
  have gn : Nat.gcd q o ≠ 1 := z
  have gq : Nat.gcd q o ≤ q := Nat.le_of_dvd (by omega) g1
  have go : Nat.gcd q o ≤ o := Nat.le_of_dvd (by omega) g2
  by_cases c : Nat.gcd q o < q
  · exact hq.2 _ (by omega) c g1
  · by_cases d : Nat.gcd q o < o
    · exact ho.2 _ (by omega) d g2
    · omega
theorem w_primes_of {n : Nat} (h1 : 1 ≤ n) (hn : n < 2 ^ 18) {R : List Nat → Prop} (h : ∀ ps, (∀ q, Pr q → q ∣ n → q ∈ ps) → (∀ q ∈ ps, 2 ≤ q ∧ q ≤ n) → R ps) : W_primes_of n R := by
  refine whileW_ind (fun s => 2 ≤ s.2.2 ∧ 1 ≤ s.2.1 ∧ s.2.1 ≤ n ∧ (∀ q, Pr q → q ∣ n → q ∈ s.1 ∨ q ∣ s.2.1) ∧ (∀ q, Pr q → q ∣ s.2.1 → s.2.2 ≤ q) ∧ (∀ q ∈ s.1, 2 ≤ q ∧ q ≤ n) ∧ s.1.length + 2 ≤ s.2.2) (fun s => n + 2 - s.2.2)
    ⟨Nat.le_refl 2, h1, Nat.le_refl n, fun q _ hd => .inr hd, fun q hq _ => hq.1, fun q hq => (by cases hq), Nat.le_refl 2⟩ ?_
  rintro ⟨f, m, o⟩ nx ⟨(i1 : 2 ≤ o), (i2 : 1 ≤ m), (i3 : m ≤ n), (i4 : ∀ q, Pr q → q ∣ n → q ∈ f ∨ q ∣ m), (i5 : ∀ q, Pr q → q ∣ m → o ≤ q), (i6 : ∀ q ∈ f, 2 ≤ q ∧ q ≤ n), (i7 : f.length + 2 ≤ o)⟩ hx
  show if decide (1 < m) = true then _ else _
  by_cases c : 1 < m
  · rw [if_pos (decide_eq_true c)]
    have om : o ≤ m := by
      obtain ⟨q, hq, hd⟩ := pr_ex m c
      have := i5 q hq hd
      have := Nat.le_of_dvd (by omega) hd
      omega
    have no : NDiv o := ⟨by omega, by
      have : o.log2 < 18 := (Nat.log2_lt (by omega)).mpr (by omega)
      omega⟩
    have fin : ∀ f2, (m % o = 0 → o ∈ f2) → (∀ q ∈ f, q ∈ f2) → (∀ q ∈ f2, 2 ≤ q ∧ q ≤ n) → f2.length + 2 ≤ o + 1 → whileW (fun number3 T => (0 < o) ∧ T (decide ((number3 % o) = 0))) (fun number3 nx2 bk2 => (NDiv o) ∧ ∀ number4 : Nat, number4 = number3 / o → nx2 number4) m fun number3 => ∀ one2 : Nat, one2 = o + 1 → nx (f2, number3, one2) := by
      intro f2 g1 g2 g3 g4
      refine whileW_ind (fun m3 => 1 ≤ m3 ∧ m3 ≤ m ∧ m3 ∣ m ∧ (∀ q, Pr q → q ∣ m → (q = o ∧ m % o = 0) ∨ q ∣ m3)) (fun m3 => m3) ⟨i2, Nat.le_refl m, Nat.dvd_refl m, fun q _ hd => .inr hd⟩ ?_
      rintro m3 nx3 ⟨j1, j2, j3, j4⟩ hx3
      show (0 < o) ∧ if decide (m3 % o = 0) = true then _ else _
      refine ⟨by omega, ?_⟩
      by_cases c3 : m3 % o = 0
      · rw [if_pos (decide_eq_true c3)]
        refine ⟨no, ?_⟩
        rintro _ rfl
        have od : o ∣ m3 := Nat.dvd_of_mod_eq_zero c3
        have odm := Nat.dvd_trans od j3
        have hom : m % o = 0 := Nat.mod_eq_zero_of_dvd odm
        have po : Pr o := by
          obtain ⟨q, hq, hd⟩ := pr_ex o i1
          have h5 := i5 q hq (Nat.dvd_trans hd odm)
          have h6 := Nat.le_of_dvd (by omega) hd
          have : q = o := by omega
          subst this; exact hq
        have ed : o * (m3 / o) = m3 := Nat.mul_div_cancel' od
        have lt : m3 / o < m3 := Nat.div_lt_self (by omega) (by omega)
        refine hx3 _ ⟨?_, by omega, Nat.dvd_trans ⟨o, by rw [Nat.mul_comm]; exact ed.symm⟩ j3, fun q hq hd => ?_⟩ lt
        · refine Nat.pos_of_ne_zero fun z => ?_
          rw [z, Nat.mul_zero] at ed; omega
        · by_cases e : q = o
          · exact .inl ⟨e, hom⟩
          · rcases j4 q hq hd with g | g
            · exact .inl g
            · rw [← ed] at g
              exact .inr ((pr_coprime hq po e).dvd_of_dvd_mul_left g)
      · rw [if_neg (by simpa using c3)]
        rintro _ rfl
        refine hx _ ⟨by show 2 ≤ o + 1; omega, j1, by show m3 ≤ n; omega, fun q hq hd => ?_, fun q hq hd => ?_, g3, g4⟩ (by show n + 2 - (o + 1) < n + 2 - o; omega)
        · rcases i4 q hq hd with g | g
          · exact .inl (g2 q g)
          · rcases j4 q hq g with ⟨rfl, hh⟩ | g'
            · exact .inl (g1 hh)
            · exact .inr g'
        · have := i5 q hq (Nat.dvd_trans hd j3)
          show o + 1 ≤ q
          have : q ≠ o := fun e => by subst e; exact c3 (Nat.mod_eq_zero_of_dvd hd)
          omega
    refine jnI ⟨by omega, ?_⟩
    by_cases d : m % o = 0
    · rw [if_pos d]
      refine ⟨by omega, fin _ (fun _ => by simp) (fun q hq => List.mem_append_left _ hq) (fun q hq => ?_) (by rw [List.length_append, List.length_singleton]; omega)⟩
      rcases List.mem_append.mp hq with g | g
      · exact i6 q g
      · rw [List.mem_singleton.mp g]; omega
    · rw [if_neg d]
      exact fin _ (fun z => (d z).elim) (fun q hq => hq) i6 (by omega)
  · rw [if_neg (by simpa using c)]
    have m1 : m = 1 := by omega
    refine h f (fun q hq hd => ?_) i6
    rcases i4 q hq hd with g | g
    · exact g
    · have g' : q ∣ m := g
      rw [m1] at g'
      have := Nat.le_of_dvd (by decide) g'
      have := hq.1
      omega
theorem w_order_of_one {p : Nat} (hp : Irr p) (ho : p.testBit 0 = true) (hb : bits p ≤ 17) {R : Nat → Prop} (h : ∀ t, Ord p t → t % 2 = 1 → t ≤ 2 ^ (bits p - 1) → R t) : W_order_of_one p R := by
  have b2 := bits_two hp.1
  obtain ⟨d, hd⟩ : ∃ d, bits p = d + 1 := ⟨bits p - 1, by omega⟩
  have p2 := hp.1
  unfold W_order_of_one
  rw [hd, Nat.add_sub_cancel]
  have dp : 2 ≤ 2 ^ d := by
    have := Nat.pow_le_pow_right (show 0 < 2 by decide) (show 1 ≤ d by omega)
    omega
  have dl : 2 ^ d ≤ 2 ^ 16 := Nat.pow_le_pow_right (by decide) (by omega)
  refine ⟨by omega, by omega, by omega, ?_⟩
  rintro turns ht
  have one0 := fermat hp ho hd (by omega)
  have todd : turns % 2 = 1 := by
    have : (2 : Nat) ^ d = 2 * 2 ^ (d - 1) := by
      conv => lhs; rw [show d = (d - 1) + 1 by omega]
      rw [Nat.pow_succ, Nat.mul_comm]
    omega
  rw [← ht] at one0
  refine w_primes_of (by omega) (by omega) fun ps hps hpl => ?_
  have ndv : ∀ q, 2 ≤ q → q ≤ turns → NDiv q := fun q h1 h2 => ⟨by omega, by
    have : q.log2 < 18 := (Nat.log2_lt (by omega)).mpr (by omega)
    omega⟩
  refine forW_ind (fun pre (t : Nat) => 1 ≤ t ∧ t ∣ turns ∧ One p t ∧ ∀ q ∈ pre, q ∣ t → ¬ One p (t / q)) ⟨by omega, Nat.dvd_refl _, one0, fun q hq => (by cases hq)⟩ ?_ ?_
  · rintro pre q post t nx bk e ⟨i1, i2, i3, i4⟩ hx _
    have qm : q ∈ ps := by rw [e]; exact List.mem_append_right _ (List.mem_cons_self ..)
    have ⟨q2, ql⟩ := hpl q qm
    refine whileW_ind (fun t3 => 1 ≤ t3 ∧ t3 ∣ t ∧ One p t3) (fun t3 => t3) ⟨i1, Nat.dvd_refl t, i3⟩ ?_
    rintro t3 nx3 ⟨j1, j2, j3⟩ hx3
    have stop : (q ∣ t3 → ¬ One p (t3 / q)) → nx t3 := fun hs => hx t3 ⟨j1, Nat.dvd_trans j2 i2, j3, fun r hr hd3 => by
      rcases List.mem_append.mp hr with g | g
      · refine fun o => i4 r g (Nat.dvd_trans hd3 j2) (o.dvd ?_)
        exact Nat.div_dvd_div hd3 j2
      · have := List.mem_singleton.mp g
        subst this; exact hs hd3⟩
    refine jnI ⟨by omega, ?_⟩
    by_cases c : t3 % q = 0
    · rw [if_pos c]
      have qd : q ∣ t3 := Nat.dvd_of_mod_eq_zero c
      refine ⟨ndv q q2 ql, w_power_left (by omega) (by omega) fun r hr hrb => ?_⟩
      have iff := cg_one hr hrb p2
      by_cases z : r = 1
      · rw [decide_eq_true z]
        show if true = true then _ else _
        rw [if_pos rfl]
        refine ⟨ndv q q2 ql, ?_⟩
        rintro _ rfl
        have ed : q * (t3 / q) = t3 := Nat.mul_div_cancel' qd
        refine hx3 _ ⟨Nat.pos_of_ne_zero fun z0 => by rw [z0, Nat.mul_zero] at ed; omega, Nat.dvd_trans ⟨q, by rw [Nat.mul_comm]; exact ed.symm⟩ j2, iff.mp z⟩ (Nat.div_lt_self (by omega) (by omega))
      · rw [decide_eq_false z]
        show if false = true then _ else _
        rw [if_neg (by simp)]
        exact stop fun _ o => z (iff.mpr o)
    · rw [if_neg c]
      show if false = true then _ else _
      rw [if_neg (by simp)]
      exact stop fun hd3 => (c (Nat.mod_eq_zero_of_dvd hd3)).elim
  · rintro t ⟨i1, i2, i3, i4⟩
    refine h t (ord_of i1 i3 fun q hq hd3 => i4 q (hps q hq (Nat.dvd_trans hd3 i2)) hd3) ?_ ?_
    · obtain ⟨k, hk⟩ := i2
      rcases Nat.mod_two_eq_zero_or_one t with z | z
      · exfalso
        obtain ⟨u, hu⟩ : ∃ u, t = 2 * u := ⟨t / 2, by omega⟩
        rw [hk, hu, Nat.mul_assoc] at todd
        omega
      · exact z
    · have := Nat.le_of_dvd (by omega) i2
      rw [hd, Nat.add_sub_cancel]
      omega
theorem Ord.uniq {p s t : Nat} (hs : Ord p s) (ht : Ord p t) : s = t :=
  Nat.dvd_antisymm ((hs.2 t).mp ((ht.2 t).mpr (Nat.dvd_refl t))) ((ht.2 s).mp ((hs.2 s).mpr (Nat.dvd_refl s)))
open Classical in
noncomputable def ordN (p : Nat) : Nat := if h : ∃ t, Ord p t then Classical.choose h else 0
theorem ordN_eq {p t : Nat} (h : Ord p t) : ordN p = t := by
  have ex : ∃ t, Ord p t := ⟨t, h⟩
  unfold ordN
  rw [dif_pos ex]
  exact (Classical.choose_spec ex).uniq h
theorem bits_dv {d a : Nat} (h : Dv d a) (ha : a ≠ 0) : bits d ≤ bits a := (h.le ha).1
theorem prodF_app (fs gs : List (Nat × Nat)) : Dv (prodF fs) (prodF (fs ++ gs)) := by
  unfold prodF
  rw [List.foldl_append]
  generalize fs.foldl (fun acc f => pm acc (pw f.1 f.2)) 1 = acc
  suffices h : ∀ (gs : List (Nat × Nat)) (b : Nat), Dv acc b → Dv acc (gs.foldl (fun acc f => pm acc (pw f.1 f.2)) b) from h gs acc (Dv.rfl' acc)
  intro gs
  induction gs with
  | nil => intro b hb; exact hb
  | cons g gs ih => intro b hb; exact ih _ (hb.mul _)
theorem w_order_of {y : Nat} (hy : 3 ≤ y) (hy2 : y < 2 ^ 17) (ho : y.testBit 0 = true) {E : Prop} {R : Nat → Prop} (h : ∀ e, Ord y e → e < 2 ^ 22 → R e) : W_order_of (An.i ((y : Nat) : Int)) E R := by
  refine w_needG (fun T e => by cases e) (fun _ _ _ _ => ?_) fun z => (z y rfl (by omega) (by omega)).elim
  refine ⟨y, rfl, ?_⟩
  have hyo : y &&& 1 = 1 := by
    rw [Nat.testBit_zero] at ho
    rw [Nat.and_one_is_mod]
    exact of_decide_eq_true ho
  rw [if_neg (by omega)]
  refine w_factors (by omega) (bits_le.mpr hy2) (fun R' r => w_needG (fun T e => by cases e) (fun _ _ _ _ => r) fun z => (z y rfl (by omega) (by omega)).elim) fun fs F => ?_
  have yb : bits y ≤ 17 := bits_le.mpr hy2
  have fo : ∀ f ∈ fs, f.1.testBit 0 = true := fun f hf => odd_dv (Dv.tr (dv_pw (F.irr f hf).2.1) (by rw [← F.prod]; exact prodF_mem fs hf)) ho
  refine forW_ind (fun pre (s : Nat × Nat) => s.1 % 2 = 1 ∧ s.1 * 2 ≤ 2 ^ bits (prodF pre) ∧ (∀ f ∈ pre, Ord f.1 (ordN f.1)) ∧ (∀ f ∈ pre, ordN f.1 ∣ s.1) ∧ (∀ n, (∀ f ∈ pre, ordN f.1 ∣ n) → s.1 ∣ n) ∧ ∃ J, s.2 = 2 ^ J ∧ (∀ f ∈ pre, f.2 ≤ 2 ^ J) ∧ (J = 0 ∨ ∃ f ∈ pre, 2 ^ (J - 1) < f.2))
    ⟨rfl, by show 1 * 2 ≤ 2 ^ bits 1; decide, fun f hf => (by cases hf), fun f hf => (by cases hf), fun n _ => Nat.one_dvd n, 0, rfl, fun f hf => (by cases hf), .inl rfl⟩ ?_ ?_
  · rintro pre f post ⟨fd, db⟩ nx bk e ⟨(i1 : fd % 2 = 1), (i2 : fd * 2 ≤ _), i3, (i4 : ∀ f ∈ pre, ordN f.1 ∣ fd), (i5 : ∀ n, _ → fd ∣ n), J, (i6 : db = 2 ^ J), i7, i8⟩ hx _
    have fm : f ∈ fs := by rw [e]; exact List.mem_append_right _ (List.mem_cons_self ..)
    obtain ⟨f1, f2, f3, f4⟩ := F.irr f fm
    have fb := bits_two f1.1
    refine w_order_of_one f1 (fo f fm) f4 fun t ht todd tl => ?_
    have et := ordN_eq ht
    have pb : bits (prodF pre) ≤ 17 := by
      have : Dv (prodF pre) y := by rw [← F.prod, e]; exact prodF_app _ _
      have := bits_dv this (by omega)
      omega
    have pl : 2 ^ bits (prodF pre) ≤ 2 ^ 17 := Nat.pow_le_pow_right (by decide) pb
    refine w_joined_order (by omega) (by omega) ?_
    have tpos := ht.1
    have lodd : Nat.lcm fd t % 2 = 1 := by
      have hd : Nat.lcm fd t ∣ fd * t := Nat.lcm_dvd ⟨t, rfl⟩ ⟨fd, Nat.mul_comm _ _⟩
      have ho2 : (fd * t) % 2 = 1 := by rw [Nat.mul_mod, i1, todd]
      obtain ⟨k, hk⟩ := hd
      rcases Nat.mod_two_eq_zero_or_one (Nat.lcm fd t) with z | z
      · exfalso
        obtain ⟨u, hu⟩ : ∃ u, Nat.lcm fd t = 2 * u := ⟨Nat.lcm fd t / 2, by omega⟩
        rw [hk, hu, Nat.mul_assoc] at ho2
        omega
      · exact z
    have lle : Nat.lcm fd t ≤ fd * t := Nat.le_of_dvd (Nat.mul_pos (by omega) (by omega)) (Nat.lcm_dvd ⟨t, rfl⟩ ⟨fd, Nat.mul_comm _ _⟩)
    have lbd : Nat.lcm fd t * 2 ≤ 2 ^ bits (prodF (pre ++ [f])) := by
      have p0 : prodF pre ≠ 0 := fun z => by
        have : Dv (prodF pre) y := by rw [← F.prod, e]; exact prodF_app _ _
        rw [z] at this
        obtain ⟨w, hw⟩ := this
        rw [pm_zero] at hw; omega
      have w0 : pw f.1 f.2 ≠ 0 := fun z => by have := bits_pw f1.1 f.2; rw [z, bits_zero] at this; omega
      have wb : bits f.1 ≤ bits (pw f.1 f.2) := by
        exact bits_dv (dv_pw f2) w0
      rw [prodF_snoc]
      have eb := bits_pm (pw f.1 f.2) (prodF pre) p0 w0
      have : 2 ^ (bits (prodF pre) + (bits f.1 - 1)) ≤ 2 ^ bits (pm (prodF pre) (pw f.1 f.2)) := Nat.pow_le_pow_right (by decide) (by omega)
      refine Nat.le_trans ?_ this
      rw [Nat.pow_add]
      calc Nat.lcm fd t * 2 ≤ (fd * t) * 2 := Nat.mul_le_mul_right 2 lle
        _ = (fd * 2) * t := by rw [Nat.mul_assoc, Nat.mul_comm t 2, ← Nat.mul_assoc]
        _ ≤ 2 ^ bits (prodF pre) * 2 ^ (bits f.1 - 1) := Nat.mul_le_mul i2 tl
    refine whileW_ind (fun d => ∃ J, d = 2 ^ J ∧ (∀ g ∈ pre, g.2 ≤ 2 ^ J) ∧ (J = 0 ∨ ∃ g ∈ pre ++ [f], 2 ^ (J - 1) < g.2) ∧ J ≤ 20) (fun d => 2 ^ 21 - d) ⟨J, i6, i7, i8.imp id (fun ⟨g, a, b⟩ => ⟨g, List.mem_append_left _ a, b⟩), ?_⟩ ?_
    · rcases i8 with z | ⟨g, hg, hlt⟩
      · omega
      · have gm : g ∈ fs := by rw [e]; exact List.mem_append_left _ hg
        have := (F.irr g gm).2.2.1
        have : J - 1 < 5 := Nat.lt_of_not_le fun z => by
          have := Nat.pow_le_pow_right (show 0 < 2 by decide) z
          omega
        omega
    rintro d nx2 ⟨J2, rfl, k1, k2, k3⟩ hx2
    show if decide (2 ^ J2 < f.2) = true then _ else _
    by_cases c : 2 ^ J2 < f.2
    · rw [if_pos (decide_eq_true c)]
      rintro _ rfl
      have lt5 : J2 < 5 := Nat.lt_of_not_le fun z => by
        have := Nat.pow_le_pow_right (show 0 < 2 by decide) z
        omega
      have ep : 2 ^ J2 * 2 = 2 ^ (J2 + 1) := (Nat.pow_succ ..).symm
      refine hx2 _ ⟨J2 + 1, ep, fun g hg => Nat.le_trans (k1 g hg) (Nat.pow_le_pow_right (by decide) (by omega)), .inr ⟨f, List.mem_append_right _ (List.mem_singleton_self f), by rw [Nat.add_sub_cancel]; exact c⟩, by omega⟩ ?_
      have := Nat.two_pow_pos J2
      show 2 ^ 21 - 2 ^ J2 * 2 < 2 ^ 21 - 2 ^ J2
      omega
    · rw [if_neg (by simpa using c)]
      refine hx _ ⟨lodd, lbd, fun g hg => ?_, fun g hg => ?_, fun n hall => ?_, J2, rfl, fun g hg => ?_, k2⟩
      · rcases List.mem_append.mp hg with m | m
        · exact i3 g m
        · rw [List.mem_singleton.mp m, et]; exact ht
      · rcases List.mem_append.mp hg with m | m
        · exact Nat.dvd_trans (i4 g m) (Nat.dvd_lcm_left ..)
        · rw [List.mem_singleton.mp m, et]; exact Nat.dvd_lcm_right ..
      · refine Nat.lcm_dvd (i5 n fun g hg => hall g (List.mem_append_left _ hg)) ?_
        rw [← et]; exact hall f (List.mem_append_right _ (List.mem_singleton_self f))
      · rcases List.mem_append.mp hg with m | m
        · exact k1 g m
        · rw [List.mem_singleton.mp m]; omega
  · rintro ⟨fd, db⟩ ⟨(i1 : fd % 2 = 1), (i2 : fd * 2 ≤ _), i3, (i4 : ∀ f ∈ fs, ordN f.1 ∣ fd), (i5 : ∀ n, _ → fd ∣ n), J, (i6 : db = 2 ^ J), i7, i8⟩
    subst i6
    rw [F.prod] at i2
    have pl : 2 ^ bits y ≤ 2 ^ 17 := Nat.pow_le_pow_right (by decide) yb
    have jl : J ≤ 5 := by
      rcases i8 with z | ⟨g, hg, hlt⟩
      · omega
      · have := (F.irr g hg).2.2.1
        have : J - 1 < 5 := Nat.lt_of_not_le fun z => by
          have := Nat.pow_le_pow_right (show 0 < 2 by decide) z
          omega
        omega
    have jp : 2 ^ J ≤ 2 ^ 5 := Nat.pow_le_pow_right (by decide) jl
    refine ⟨.inl (by omega), h _ (ord_main F (ts := fun f => ordN f.1) i3 i1 i4 i5 i7 i8) ?_⟩
    calc fd * 2 ^ J ≤ 2 ^ 16 * 2 ^ 5 := Nat.mul_le_mul (by omega) jp
      _ < 2 ^ 22 := by decide
end My
namespace My
open Wk
theorem w_power {e y : Nat} (hy : 2 ≤ y) (hb : bits y ≤ 1000) {R : Nat → Prop} (h : ∀ r, Cg y (2 ^ e) r → bits r < bits y → R r) : W_power e y R := by
  have yb := bits_two hy
  have y0 : y ≠ 0 := by omega
  refine w_rest y0 (by have : bits 2 = 2 := by decide
                       omega) fun q2 r2 e2 b2 => ?_
  refine whileW_ind (fun s => bits s.1 < bits y ∧ bits s.2.1 < bits y ∧ ∃ F S, Cg y (2 ^ F) s.1 ∧ Cg y (2 ^ S) s.2.1 ∧ F + S * s.2.2 = e) (fun s => s.2.2) ⟨by
    show bits 1 < bits y
    have : bits 1 = 1 := by decide
    omega, b2, 0, 1, Cg.rfl' _ _, Cg.of_rest e2, by show 0 + 1 * e = e; omega⟩ ?_
  rintro ⟨f, sq, ex⟩ nx ⟨(h1 : bits f < _), (h2 : bits sq < _), F, S, (h3 : Cg y (2 ^ F) f), (h4 : Cg y (2 ^ S) sq), (h5 : F + S * ex = e)⟩ hn
  show if decide (0 < ex) = true then _ else _
  by_cases c : 0 < ex
  · rw [if_pos (decide_eq_true c)]
    have fin : ∀ f2 F2, bits f2 < bits y → Cg y (2 ^ F2) f2 → F2 + (S + S) * (ex / 2) = e → W_product sq sq fun z5 => W_rest z5 y fun z6 => ∀ exponent3 : Nat, exponent3 = ex >>> 1 → nx (f2, z6, exponent3) := fun f2 F2 g1 g2 g3 => by
      have := bits_pm_le sq sq
      refine w_product (by omega) (w_rest y0 (by omega) fun q r er hr => ?_)
      rintro _ rfl
      refine hn _ ⟨g1, hr, F2, S + S, g2, ?_, ?_⟩ ?_
      · have := Cg.mul h4 h4
        rw [xp_add] at this
        exact this.tr (Cg.of_rest er)
      · show F2 + (S + S) * (ex >>> 1) = e
        rw [Nat.shiftRight_eq_div_pow, Nat.pow_one]; exact g3
      · show ex >>> 1 < ex
        rw [Nat.shiftRight_eq_div_pow, Nat.pow_one]; omega
    refine jnI ?_
    obtain ⟨k, hk⟩ : ∃ k, k = ex / 2 := ⟨_, rfl⟩
    by_cases o : ex &&& 1 = 1
    · rw [if_pos o]
      have o' := bit_one.mp o
      have := bits_pm_le f sq
      refine w_product (by omega) (w_rest y0 (by omega) fun q r er hr => ?_)
      refine fin r (F + S) hr ?_ ?_
      · have := Cg.mul h3 h4
        rw [xp_add] at this
        exact this.tr (Cg.of_rest er)
      · rw [← h5, ← hk, show ex = k + k + 1 by omega, Nat.mul_add, Nat.mul_add, Nat.add_mul]; omega
    · rw [if_neg o]
      have o' : ex % 2 = 0 := by
        have : ¬ (ex % 2 = 1) := fun z => o (bit_one.mpr z)
        omega
      exact fin f F h1 h3 (by rw [← h5, ← hk, show ex = k + k by omega, Nat.mul_add, Nat.add_mul])
  · rw [if_neg (by simpa using c)]
    have : ex = 0 := by omega
    subst this
    rw [Nat.mul_zero, Nat.add_zero] at h5
    subst h5
    exact h f h3 h1
theorem w_primes {n : Nat} (h1 : 1 ≤ n) (hn : n < 2 ^ 22) {R : List Nat → Prop} (h : ∀ ps, (∀ q ∈ ps, 2 ≤ q ∧ q ∣ n) → R ps) : W_primes n R := by
  refine whileW_ind (fun s => 2 ≤ s.2.2 ∧ 1 ≤ s.2.1 ∧ s.2.1 ∣ n ∧ (∀ q ∈ s.1, 2 ≤ q ∧ q ∣ n) ∧ s.1.length + 2 ≤ s.2.2 ∧ s.2.2 ≤ 2 ^ 12) (fun s => 2 ^ 13 - s.2.2)
    ⟨Nat.le_refl 2, h1, Nat.dvd_refl n, fun q hq => (by cases hq), Nat.le_refl 2, by show 2 ≤ 2 ^ 12; decide⟩ ?_
  rintro ⟨f, m, o⟩ nx ⟨(i1 : 2 ≤ o), (i2 : 1 ≤ m), (i3 : m ∣ n), (i6 : ∀ q ∈ f, 2 ≤ q ∧ q ∣ n), (i7 : f.length + 2 ≤ o), (i8 : o ≤ 2 ^ 12)⟩ hx
  show NMul o o ∧ if decide (o * o ≤ m) = true then _ else _
  refine ⟨.inl (by omega), ?_⟩
  have mn : m ≤ n := Nat.le_of_dvd h1 i3
  by_cases c : o * o ≤ m
  · rw [if_pos (decide_eq_true c)]
    have ol : o < 2 ^ 11 := Nat.lt_of_not_le fun z => by
      have := Nat.mul_le_mul z z
      omega
    have no : NDiv o := ⟨by omega, by
      have : o.log2 < 18 := (Nat.log2_lt (by omega)).mpr (by omega)
      omega⟩
    have fin : ∀ f2, (∀ q ∈ f2, 2 ≤ q ∧ q ∣ n) → f2.length + 2 ≤ o + 1 → whileW (fun number3 T => (0 < o) ∧ T (decide ((number3 % o) = 0))) (fun number3 nx2 bk2 => (NDiv o) ∧ ∀ number4 : Nat, number4 = number3 / o → nx2 number4) m fun number3 => ∀ one2 : Nat, one2 = o + 1 → nx (f2, number3, one2) := by
      intro f2 g3 g4
      refine whileW_ind (fun m3 => 1 ≤ m3 ∧ m3 ∣ n) (fun m3 => m3) ⟨i2, i3⟩ ?_
      rintro m3 nx3 ⟨j1, j2⟩ hx3
      show (0 < o) ∧ if decide (m3 % o = 0) = true then _ else _
      refine ⟨by omega, ?_⟩
      by_cases c3 : m3 % o = 0
      · rw [if_pos (decide_eq_true c3)]
        refine ⟨no, ?_⟩
        rintro _ rfl
        have ed : o * (m3 / o) = m3 := Nat.mul_div_cancel' (Nat.dvd_of_mod_eq_zero c3)
        exact hx3 _ ⟨Nat.pos_of_ne_zero fun z => by rw [z, Nat.mul_zero] at ed; omega, Nat.dvd_trans ⟨o, by rw [Nat.mul_comm]; exact ed.symm⟩ j2⟩ (Nat.div_lt_self (by omega) (by omega))
      · rw [if_neg (by simpa using c3)]
        rintro _ rfl
        exact hx _ ⟨by show 2 ≤ o + 1; omega, j1, j2, g3, g4, by show o + 1 ≤ 2 ^ 12; omega⟩ (by show 2 ^ 13 - (o + 1) < 2 ^ 13 - o; omega)
    refine jnI ⟨by omega, ?_⟩
    by_cases d : m % o = 0
    · rw [if_pos d]
      refine ⟨by omega, fin _ (fun q hq => ?_) (by rw [List.length_append, List.length_singleton]; omega)⟩
      rcases List.mem_append.mp hq with g | g
      · exact i6 q g
      · rw [List.mem_singleton.mp g]; exact ⟨i1, Nat.dvd_trans (Nat.dvd_of_mod_eq_zero d) i3⟩
    · rw [if_neg d]
      exact fin _ i6 (by omega)
  · rw [if_neg (by simpa using c)]
    show _ ∧ _
    by_cases q1 : 1 < m
    · rw [decide_eq_true q1]
      refine ⟨by show 1 * 1 < 1000000 ∧ 1 < 1000000; decide, by show f.length + 1 < 1000000; omega, h _ fun q hq => ?_⟩
      rcases List.mem_append.mp hq with g | g
      · exact i6 q g
      · have : q ∈ [m] := g
        rw [List.mem_singleton.mp this]; exact ⟨q1, i3⟩
    · rw [decide_eq_false q1]
      refine ⟨by show 1 * 0 < 1000000 ∧ 0 < 1000000; decide, by show f.length + 0 < 1000000; omega, h _ fun q hq => ?_⟩
      rcases List.mem_append.mp hq with g | g
      · exact i6 q g
      · have : q ∈ ([] : List Nat) := g
        cases this
theorem w_right {y : Nat} (hy : 3 ≤ y) (hy2 : y < 2 ^ 17) (ho : y.testBit 0 = true) {R : Bool → Prop} (h : R true) : W_right y R := by
  have yb : bits y ≤ 17 := bits_le.mpr hy2
  refine w_order_of hy hy2 ho fun e he hel => ?_
  have e1 := he.1
  refine jnI ?_
  rw [if_neg (by omega)]
  refine w_power (by omega) (by omega) fun r hr hrb => ?_
  have r1 : r = 1 := (cg_one hr hrb (by omega)).mpr ((he.2 e).mpr (Nat.dvd_refl e))
  rw [decide_eq_false (fun z => z r1)]
  show if false = true then _ else _
  rw [if_neg (by simp)]
  refine w_primes e1 hel fun ps hps => forW_unit (fun q hq nx bk hn => ?_) h
  obtain ⟨q2, qd⟩ := hps q hq
  have ql := Nat.le_of_dvd e1 qd
  refine ⟨⟨by omega, ?_⟩, w_power (by omega) (by omega) fun r hr hrb => ?_⟩
  · have : q.log2 < 22 := (Nat.log2_lt (by omega)).mpr (by omega)
    omega
  · rw [if_neg fun z => ?_]
    · exact hn
    · have := (he.2 _).mp ((cg_one hr hrb (by omega)).mp z)
      have ed : q * (e / q) = e := Nat.mul_div_cancel' qd
      have pos : 0 < e / q := Nat.pos_of_ne_zero fun z => by rw [z, Nat.mul_zero] at ed; omega
      have le := Nat.le_of_dvd pos this
      have := Nat.div_lt_self (n := e) (k := q) (by omega) (by omega)
      omega
theorem pm_bit0 (a b : Nat) : (pm a b).testBit 0 = (a.testBit 0 && b.testBit 0) := by
  rw [pm_half, Nat.testBit_xor]
  have : (2 * pm a (b / 2)).testBit 0 = false := by rw [Nat.testBit_zero]; simp
  rw [this, Bool.xor_false]
  by_cases c : b.testBit 0 = true
  · rw [if_pos c, c, Bool.and_true]
  · rw [if_neg c, Nat.zero_testBit]
    have : b.testBit 0 = false := by simpa using c
    rw [this, Bool.and_false]
theorem odd3 (k : Nat) : (3 + 2 * k).testBit 0 = true := by rw [Nat.testBit_zero]; exact decide_eq_true (by omega)
theorem w_drawn {c : Int} {R : Nat → Prop} (h : ∀ z, 3 ≤ z → z < 2 ^ 17 → z.testBit 0 = true → R z) : W_drawn c R := by
  have fb : ∀ z, 2 ≤ bits z → bits z ≤ 17 → z.testBit 0 = true → R z := fun z h1 h2 h3 => by
    have := two_bits h1
    have o : z % 2 = 1 := by rw [Nat.testBit_zero] at h3; exact of_decide_eq_true h3
    exact h z (by omega) (bits_le.mp h2) h3
  unfold W_drawn
  by_cases q0 : modN c 3 = 0
  · rw [if_pos q0]
    have := modN_lt (i := c / ((3 : Nat) : Int)) (show 0 < 65535 by decide)
    exact h _ (by omega) (by omega) (odd3 _)
  · rw [if_neg q0]
    refine w_mix ?_
    rintro one rfl
    have o1 : ∀ z : Nat, 2 ≤ 3 + 2 * (z % 7) ∧ bits (3 + 2 * (z % 7)) ≤ 4 := fun z => ⟨by omega, bits_le.mpr (by have := Nat.mod_lt z (show 0 < 7 by decide); omega)⟩
    have o1' := o1 (mixV c 1)
    have oo1 := odd3 (mixV c 1 % 7)
    generalize 3 + 2 * (mixV c 1 % 7) = one at o1' oo1 ⊢
    have ob := bits_two o1'.1
    by_cases q1 : modN c 3 = 1
    · rw [if_pos q1]
      refine w_mix ?_
      rintro other rfl
      have o2 : ∀ z : Nat, 2 ≤ 3 + 2 * (z % 31) ∧ bits (3 + 2 * (z % 31)) ≤ 6 := fun z => ⟨by omega, bits_le.mpr (by have := Nat.mod_lt z (show 0 < 31 by decide); omega)⟩
      have o2' := o2 (mixV c 2)
      have oo2 := odd3 (mixV c 2 % 31)
      generalize 3 + 2 * (mixV c 2 % 31) = other at o2' oo2 ⊢
      have pb := bits_two o2'.1
      refine w_product (by omega) (w_mix ?_)
      have o3 : ∀ z : Nat, 2 ≤ 3 + 2 * (z % 15) ∧ bits (3 + 2 * (z % 15)) ≤ 5 := fun z => ⟨by omega, bits_le.mpr (by have := Nat.mod_lt z (show 0 < 15 by decide); omega)⟩
      have o3' := o3 (mixV c 3)
      have oo3 := odd3 (mixV c 3 % 15)
      generalize 3 + 2 * (mixV c 3 % 15) = third at o3' oo3 ⊢
      have tb := bits_two o3'.1
      have b1 := bits_pm other one (by omega) (by omega)
      have b2 := bits_pm third (pm one other) (pm_ne (by omega) (by omega)) (by omega)
      exact w_product (by omega) (fb _ (by omega) (by omega) (by rw [pm_bit0, pm_bit0, oo1, oo2, oo3]; rfl))
    · rw [if_neg q1]
      refine w_mix ⟨Nat.lt_trans (Nat.mod_lt _ (by decide)) (by decide), ?_⟩
      refine forW_ind (fun pre (f : Nat) => 2 ≤ bits f ∧ bits f ≤ 4 + pre.length * 3 ∧ f.testBit 0 = true) ⟨ob, by show bits one ≤ 4 + 0 * 3; omega, oo1⟩ ?_ ?_
      · rintro pre x post f nx bk e ⟨f1, f2, f3⟩ hx _
        have hl : pre.length + (post.length + 1) ≤ 4 := by
          have := congrArg List.length e
          rw [List.length_range, List.length_append, List.length_cons] at this
          rw [← this]; exact Nat.le_of_lt (Nat.mod_lt _ (by decide))
        have b1 := bits_pm one f (fun z => by rw [z, bits_zero] at f1; omega) (by omega)
        refine w_product (by omega) (hx _ ⟨by omega, ?_, by rw [pm_bit0, f3, oo1]; rfl⟩)
        rw [List.length_append, List.length_singleton]; omega
      · rintro f ⟨f1, f2, f3⟩
        rw [List.length_range] at f2
        have : ∀ a : Nat, a % 4 ≤ 3 := fun a => Nat.le_of_lt_succ (Nat.mod_lt _ (by decide))
        have := this (mixV c 4)
        exact fb f f1 (by omega) f3
theorem w_refused {x : An} (hT : ∀ T, x = An.o T → isA "int" x = false) (hx : ∀ y : Int, x = An.i y → 3 ≤ y → y < 131072 → y % 2 = 0) {R : Bool → Prop} (h : R true) : W_refused x R := by
  refine jnI ?_
  have p : ((2 ^ 17 : Nat) : Int) = 131072 := by decide
  refine w_needG hT (fun y e a b => ?_) fun _ => h
  rw [p] at b
  have y3 : (3 : Int) ≤ y := a
  have ev := hx y e y3 b
  refine ⟨y.toNat, by rw [e]; congr 1; omega, ?_⟩
  rw [if_pos ?_]
  · exact h
  · rw [Nat.and_one_is_mod]; omega
theorem w_law {s : List Int} (hs : s.length ≤ 63) {R : Bool → Prop} (h : R true) : W_law s R := by
  refine ⟨by decide, compW_map (fun k => ((mixV (cellV s 0) (5 + k) : Nat) : Int)) (fun k _ kk hk => w_cell (w_mix hk)) ?_⟩
  refine ⟨?_, forW_unit (fun c _ nx bk q => ?_) h⟩
  · have : (cutT s none (some 8)).length ≤ 8 := by show (s.take 8).length ≤ 8; rw [List.length_take]; omega
    rw [List.length_map, List.length_range]
    omega
  · rintro great hg
    refine jnI (w_drawn fun z h1 h2 h3 => w_right h1 h2 h3 ?_)
    rw [if_pos rfl]
    have m10 := modN_lt (i := c) (show 0 < 10 by decide)
    have m99 := modN_lt (i := c) (show 0 < 99 by decide)
    have fin : ∀ x : An, (∀ T, x = An.o T → isA "int" x = false) → (∀ y : Int, x = An.i y → 3 ≤ y → y < 131072 → y % 2 = 0) → W_refused x fun z5 => if (!z5) = true then R false else nx () := fun x a b => w_refused a b (by
      show if false = true then _ else _
      rw [if_neg (by simp)]; exact q)
    have ni : ∀ y : Int, (y < 3 ∨ 131072 ≤ y ∨ y % 2 = 0) → ∀ T : Int, An.i y = An.i T → 3 ≤ T → T < 131072 → T % 2 = 0 := fun y hy T e a b => by
      have e' : y = T := by cases e; rfl
      omega
    have hk : modN c 10 = 0 ∨ modN c 10 = 1 ∨ modN c 10 = 2 ∨ modN c 10 = 3 ∨ modN c 10 = 4 ∨ modN c 10 = 5 ∨ modN c 10 = 6 ∨ modN c 10 = 7 ∨ modN c 10 = 8 ∨ modN c 10 = 9 := by omega
    rcases hk with e | e | e | e | e | e | e | e | e | e <;> rw [e]
    · exact ⟨_, rfl, fin _ (fun T e => by cases e) (ni _ (.inr (.inr (by omega))))⟩
    · exact ⟨_, rfl, fin _ (fun T e => by cases e) (ni _ (.inl (by omega)))⟩
    · exact ⟨_, rfl, fin _ (fun T e => by cases e) (ni _ (.inl (by omega)))⟩
    · exact ⟨_, rfl, fin _ (fun T e => by cases e) (ni _ (.inl (by omega)))⟩
    · exact ⟨_, rfl, fin _ (fun T e => by cases e) (ni _ (.inr (.inl (by omega))))⟩
    · exact ⟨_, rfl, fin _ (fun T e => by cases e) (ni _ (.inr (.inl (by omega))))⟩
    · exact ⟨_, rfl, fin _ (fun T e => by cases e) (fun y e => by cases e)⟩
    · exact ⟨_, rfl, fin _ (fun T e => by cases e) (fun y e => by cases e)⟩
    · exact ⟨_, rfl, fin _ (fun T e => by cases e) (fun y e => by cases e)⟩
    · exact ⟨_, rfl, fin _ (fun T e => by cases e; decide) (fun y e => by cases e)⟩
end My
namespace My
open PySem L2 Wk
theorem all_mk {l : PySem.W.OpenLaw} {w : World} {K : PySem.W.Frag} {h : Heap} {mg : Str → Option Value} {fa f_times f_divided f_is_whole f_need_poly f_factors f_power_left f_primes_of f_order_of_one f_joined_order f_order_of f_cell f_mix f_product f_rest f_power f_primes f_drawn f_refused f_right f_law C_BadMask : Addr} (X : K.In h) (G : h.Ns mainGlobals mg) (hfa : mg "law" = some (.ref fa))
    {oc_times kV_times dc_times pm_times cd_times ct_times : Value} {od_times an_times : Option Addr} {sl_times : Array (Option Value)} {oc_divided kV_divided dc_divided pm_divided cd_divided ct_divided : Value} {od_divided an_divided : Option Addr} {sl_divided : Array (Option Value)} {oc_is_whole kV_is_whole dc_is_whole pm_is_whole cd_is_whole ct_is_whole : Value} {od_is_whole an_is_whole : Option Addr} {sl_is_whole : Array (Option Value)} {oc_need_poly kV_need_poly dc_need_poly pm_need_poly cd_need_poly ct_need_poly : Value} {od_need_poly an_need_poly : Option Addr} {sl_need_poly : Array (Option Value)} {oc_factors kV_factors dc_factors pm_factors cd_factors ct_factors : Value} {od_factors an_factors : Option Addr} {sl_factors : Array (Option Value)} {oc_power_left kV_power_left dc_power_left pm_power_left cd_power_left ct_power_left : Value} {od_power_left an_power_left : Option Addr} {sl_power_left : Array (Option Value)} {oc_primes_of kV_primes_of dc_primes_of pm_primes_of cd_primes_of ct_primes_of : Value} {od_primes_of an_primes_of : Option Addr} {sl_primes_of : Array (Option Value)} {oc_order_of_one kV_order_of_one dc_order_of_one pm_order_of_one cd_order_of_one ct_order_of_one : Value} {od_order_of_one an_order_of_one : Option Addr} {sl_order_of_one : Array (Option Value)} {oc_joined_order kV_joined_order dc_joined_order pm_joined_order cd_joined_order ct_joined_order : Value} {od_joined_order an_joined_order : Option Addr} {sl_joined_order : Array (Option Value)} {oc_order_of kV_order_of dc_order_of pm_order_of cd_order_of ct_order_of : Value} {od_order_of an_order_of : Option Addr} {sl_order_of : Array (Option Value)} {oc_cell kV_cell dc_cell pm_cell cd_cell ct_cell : Value} {od_cell an_cell : Option Addr} {sl_cell : Array (Option Value)} {oc_mix kV_mix dc_mix pm_mix cd_mix ct_mix : Value} {od_mix an_mix : Option Addr} {sl_mix : Array (Option Value)} {oc_product kV_product dc_product pm_product cd_product ct_product : Value} {od_product an_product : Option Addr} {sl_product : Array (Option Value)} {oc_rest kV_rest dc_rest pm_rest cd_rest ct_rest : Value} {od_rest an_rest : Option Addr} {sl_rest : Array (Option Value)} {oc_power kV_power dc_power pm_power cd_power ct_power : Value} {od_power an_power : Option Addr} {sl_power : Array (Option Value)} {oc_primes kV_primes dc_primes pm_primes cd_primes ct_primes : Value} {od_primes an_primes : Option Addr} {sl_primes : Array (Option Value)} {oc_drawn kV_drawn dc_drawn pm_drawn cd_drawn ct_drawn : Value} {od_drawn an_drawn : Option Addr} {sl_drawn : Array (Option Value)} {oc_refused kV_refused dc_refused pm_refused cd_refused ct_refused : Value} {od_refused an_refused : Option Addr} {sl_refused : Array (Option Value)} {oc_right kV_right dc_right pm_right cd_right ct_right : Value} {od_right an_right : Option Addr} {sl_right : Array (Option Value)} {oc_law kV_law dc_law pm_law cd_law ct_law : Value} {od_law an_law : Option Addr} {sl_law : Array (Option Value)}
    (aC_BadMask : PySem.W.nsIn K mainGlobals "BadMask" = some (some (.ref C_BadMask))) (xX_BadMask : PySem.W.excIn K C_BadMask [.type "ValueError", .type "Exception", .type "BaseException", .type "object"] "ValueError.__new__" = true) (kX_BadMask : PySem.W.keepIn K (.ref C_BadMask) = true) (bX_BadMask : PySem.W.subIn K (.ref C_BadMask) (.type "BaseException") = some true) (tX_BadMask : PySem.W.typeIn K (.ref C_BadMask) = some (.type "type")) (iX_BadMask : PySem.W.isClsIn K C_BadMask = true)
    {t_MOST_DEGREE : Tok} (u_MOST_DEGREE : PySem.W.nsIn K mainGlobals "MOST_DEGREE" = some (some (.int 16 t_MOST_DEGREE)))
    (sX_BadMask_BadMask : PySem.W.subIn K (.ref C_BadMask) (.ref C_BadMask) = some true)
    (a_times : PySem.W.nsIn K mainGlobals "times" = some (some (.ref f_times)))
    (l_times : K.lookup f_times = some ⟨oc_times, od_times, .func (PySem.W.fnOf "times" "times" (defArgs s_times) (defBody s_times) (defScope s_times) .none kV_times dc_times pm_times an_times cd_times ct_times), sl_times⟩) (c_times : PySem.W.codeIn K cd_times "times" = true) (k_times : PySem.W.keepIn K (.ref f_times) = true)
    (a_divided : PySem.W.nsIn K mainGlobals "divided" = some (some (.ref f_divided)))
    (l_divided : K.lookup f_divided = some ⟨oc_divided, od_divided, .func (PySem.W.fnOf "divided" "divided" (defArgs s_divided) (defBody s_divided) (defScope s_divided) .none kV_divided dc_divided pm_divided an_divided cd_divided ct_divided), sl_divided⟩) (c_divided : PySem.W.codeIn K cd_divided "divided" = true) (k_divided : PySem.W.keepIn K (.ref f_divided) = true)
    (a_is_whole : PySem.W.nsIn K mainGlobals "is_whole" = some (some (.ref f_is_whole)))
    (l_is_whole : K.lookup f_is_whole = some ⟨oc_is_whole, od_is_whole, .func (PySem.W.fnOf "is_whole" "is_whole" (defArgs s_is_whole) (defBody s_is_whole) (defScope s_is_whole) .none kV_is_whole dc_is_whole pm_is_whole an_is_whole cd_is_whole ct_is_whole), sl_is_whole⟩) (c_is_whole : PySem.W.codeIn K cd_is_whole "is_whole" = true) (k_is_whole : PySem.W.keepIn K (.ref f_is_whole) = true)
    (a_need_poly : PySem.W.nsIn K mainGlobals "need_poly" = some (some (.ref f_need_poly)))
    (l_need_poly : K.lookup f_need_poly = some ⟨oc_need_poly, od_need_poly, .func (PySem.W.fnOf "need_poly" "need_poly" (defArgs s_need_poly) (defBody s_need_poly) (defScope s_need_poly) .none kV_need_poly dc_need_poly pm_need_poly an_need_poly cd_need_poly ct_need_poly), sl_need_poly⟩) (c_need_poly : PySem.W.codeIn K cd_need_poly "need_poly" = true) (k_need_poly : PySem.W.keepIn K (.ref f_need_poly) = true)
    (a_factors : PySem.W.nsIn K mainGlobals "factors" = some (some (.ref f_factors)))
    (l_factors : K.lookup f_factors = some ⟨oc_factors, od_factors, .func (PySem.W.fnOf "factors" "factors" (defArgs s_factors) (defBody s_factors) (defScope s_factors) .none kV_factors dc_factors pm_factors an_factors cd_factors ct_factors), sl_factors⟩) (c_factors : PySem.W.codeIn K cd_factors "factors" = true) (k_factors : PySem.W.keepIn K (.ref f_factors) = true)
    (a_power_left : PySem.W.nsIn K mainGlobals "power_left" = some (some (.ref f_power_left)))
    (l_power_left : K.lookup f_power_left = some ⟨oc_power_left, od_power_left, .func (PySem.W.fnOf "power_left" "power_left" (defArgs s_power_left) (defBody s_power_left) (defScope s_power_left) .none kV_power_left dc_power_left pm_power_left an_power_left cd_power_left ct_power_left), sl_power_left⟩) (c_power_left : PySem.W.codeIn K cd_power_left "power_left" = true) (k_power_left : PySem.W.keepIn K (.ref f_power_left) = true)
    (a_primes_of : PySem.W.nsIn K mainGlobals "primes_of" = some (some (.ref f_primes_of)))
    (l_primes_of : K.lookup f_primes_of = some ⟨oc_primes_of, od_primes_of, .func (PySem.W.fnOf "primes_of" "primes_of" (defArgs s_primes_of) (defBody s_primes_of) (defScope s_primes_of) .none kV_primes_of dc_primes_of pm_primes_of an_primes_of cd_primes_of ct_primes_of), sl_primes_of⟩) (c_primes_of : PySem.W.codeIn K cd_primes_of "primes_of" = true) (k_primes_of : PySem.W.keepIn K (.ref f_primes_of) = true)
    (a_order_of_one : PySem.W.nsIn K mainGlobals "order_of_one" = some (some (.ref f_order_of_one)))
    (l_order_of_one : K.lookup f_order_of_one = some ⟨oc_order_of_one, od_order_of_one, .func (PySem.W.fnOf "order_of_one" "order_of_one" (defArgs s_order_of_one) (defBody s_order_of_one) (defScope s_order_of_one) .none kV_order_of_one dc_order_of_one pm_order_of_one an_order_of_one cd_order_of_one ct_order_of_one), sl_order_of_one⟩) (c_order_of_one : PySem.W.codeIn K cd_order_of_one "order_of_one" = true) (k_order_of_one : PySem.W.keepIn K (.ref f_order_of_one) = true)
    (a_joined_order : PySem.W.nsIn K mainGlobals "joined_order" = some (some (.ref f_joined_order)))
    (l_joined_order : K.lookup f_joined_order = some ⟨oc_joined_order, od_joined_order, .func (PySem.W.fnOf "joined_order" "joined_order" (defArgs s_joined_order) (defBody s_joined_order) (defScope s_joined_order) .none kV_joined_order dc_joined_order pm_joined_order an_joined_order cd_joined_order ct_joined_order), sl_joined_order⟩) (c_joined_order : PySem.W.codeIn K cd_joined_order "joined_order" = true) (k_joined_order : PySem.W.keepIn K (.ref f_joined_order) = true)
    (a_order_of : PySem.W.nsIn K mainGlobals "order_of" = some (some (.ref f_order_of)))
    (l_order_of : K.lookup f_order_of = some ⟨oc_order_of, od_order_of, .func (PySem.W.fnOf "order_of" "order_of" (defArgs s_order_of) (defBody s_order_of) (defScope s_order_of) .none kV_order_of dc_order_of pm_order_of an_order_of cd_order_of ct_order_of), sl_order_of⟩) (c_order_of : PySem.W.codeIn K cd_order_of "order_of" = true) (k_order_of : PySem.W.keepIn K (.ref f_order_of) = true)
    (a_cell : PySem.W.nsIn K mainGlobals "_law_cell" = some (some (.ref f_cell)))
    (l_cell : K.lookup f_cell = some ⟨oc_cell, od_cell, .func (PySem.W.fnOf "_law_cell" "_law_cell" (defArgs s_cell) (defBody s_cell) (defScope s_cell) .none kV_cell dc_cell pm_cell an_cell cd_cell ct_cell), sl_cell⟩) (c_cell : PySem.W.codeIn K cd_cell "_law_cell" = true) (k_cell : PySem.W.keepIn K (.ref f_cell) = true)
    (a_mix : PySem.W.nsIn K mainGlobals "_law_mix" = some (some (.ref f_mix)))
    (l_mix : K.lookup f_mix = some ⟨oc_mix, od_mix, .func (PySem.W.fnOf "_law_mix" "_law_mix" (defArgs s_mix) (defBody s_mix) (defScope s_mix) .none kV_mix dc_mix pm_mix an_mix cd_mix ct_mix), sl_mix⟩) (c_mix : PySem.W.codeIn K cd_mix "_law_mix" = true) (k_mix : PySem.W.keepIn K (.ref f_mix) = true)
    (a_product : PySem.W.nsIn K mainGlobals "_law_product" = some (some (.ref f_product)))
    (l_product : K.lookup f_product = some ⟨oc_product, od_product, .func (PySem.W.fnOf "_law_product" "_law_product" (defArgs s_product) (defBody s_product) (defScope s_product) .none kV_product dc_product pm_product an_product cd_product ct_product), sl_product⟩) (c_product : PySem.W.codeIn K cd_product "_law_product" = true) (k_product : PySem.W.keepIn K (.ref f_product) = true)
    (a_rest : PySem.W.nsIn K mainGlobals "_law_rest" = some (some (.ref f_rest)))
    (l_rest : K.lookup f_rest = some ⟨oc_rest, od_rest, .func (PySem.W.fnOf "_law_rest" "_law_rest" (defArgs s_rest) (defBody s_rest) (defScope s_rest) .none kV_rest dc_rest pm_rest an_rest cd_rest ct_rest), sl_rest⟩) (c_rest : PySem.W.codeIn K cd_rest "_law_rest" = true) (k_rest : PySem.W.keepIn K (.ref f_rest) = true)
    (a_power : PySem.W.nsIn K mainGlobals "_law_power" = some (some (.ref f_power)))
    (l_power : K.lookup f_power = some ⟨oc_power, od_power, .func (PySem.W.fnOf "_law_power" "_law_power" (defArgs s_power) (defBody s_power) (defScope s_power) .none kV_power dc_power pm_power an_power cd_power ct_power), sl_power⟩) (c_power : PySem.W.codeIn K cd_power "_law_power" = true) (k_power : PySem.W.keepIn K (.ref f_power) = true)
    (a_primes : PySem.W.nsIn K mainGlobals "_law_primes" = some (some (.ref f_primes)))
    (l_primes : K.lookup f_primes = some ⟨oc_primes, od_primes, .func (PySem.W.fnOf "_law_primes" "_law_primes" (defArgs s_primes) (defBody s_primes) (defScope s_primes) .none kV_primes dc_primes pm_primes an_primes cd_primes ct_primes), sl_primes⟩) (c_primes : PySem.W.codeIn K cd_primes "_law_primes" = true) (k_primes : PySem.W.keepIn K (.ref f_primes) = true)
    (a_drawn : PySem.W.nsIn K mainGlobals "_law_drawn" = some (some (.ref f_drawn)))
    (l_drawn : K.lookup f_drawn = some ⟨oc_drawn, od_drawn, .func (PySem.W.fnOf "_law_drawn" "_law_drawn" (defArgs s_drawn) (defBody s_drawn) (defScope s_drawn) .none kV_drawn dc_drawn pm_drawn an_drawn cd_drawn ct_drawn), sl_drawn⟩) (c_drawn : PySem.W.codeIn K cd_drawn "_law_drawn" = true) (k_drawn : PySem.W.keepIn K (.ref f_drawn) = true)
    (a_refused : PySem.W.nsIn K mainGlobals "_law_refused" = some (some (.ref f_refused)))
    (l_refused : K.lookup f_refused = some ⟨oc_refused, od_refused, .func (PySem.W.fnOf "_law_refused" "_law_refused" (defArgs s_refused) (defBody s_refused) (defScope s_refused) .none kV_refused dc_refused pm_refused an_refused cd_refused ct_refused), sl_refused⟩) (c_refused : PySem.W.codeIn K cd_refused "_law_refused" = true) (k_refused : PySem.W.keepIn K (.ref f_refused) = true)
    (a_right : PySem.W.nsIn K mainGlobals "_law_right" = some (some (.ref f_right)))
    (l_right : K.lookup f_right = some ⟨oc_right, od_right, .func (PySem.W.fnOf "_law_right" "_law_right" (defArgs s_right) (defBody s_right) (defScope s_right) .none kV_right dc_right pm_right an_right cd_right ct_right), sl_right⟩) (c_right : PySem.W.codeIn K cd_right "_law_right" = true) (k_right : PySem.W.keepIn K (.ref f_right) = true)
    (a_law : PySem.W.nsIn K mainGlobals "law" = some (some (.ref f_law)))
    (l_law : K.lookup f_law = some ⟨oc_law, od_law, .func (PySem.W.fnOf "law" "law" (defArgs s_law) (defBody s_law) (defScope s_law) .none kV_law dc_law pm_law an_law cd_law ct_law), sl_law⟩) (c_law : PySem.W.codeIn K cd_law "law" = true) (k_law : PySem.W.keepIn K (.ref f_law) = true)
    (z_bool : PySem.W.nsIn K mainGlobals "bool" = some none)
    (z_int : PySem.W.nsIn K mainGlobals "int" = some none)
    (z_isinstance : PySem.W.nsIn K mainGlobals "isinstance" = some none)
    (z_len : PySem.W.nsIn K mainGlobals "len" = some none)
    (z_range : PySem.W.nsIn K mainGlobals "range" = some none)
    : ∃ (fd : FuncData) (sp : Sp), (∀ (s : Shared) (v : Value), BindsTo s fd ⟨[v], []⟩ [("_law_script", v)]) ∧ (∀ (H : Hp) (a : Addr) (ns : List Int), ns.length ≤ 63 → SqL K H a (ns.map V.int) → sp [.ref a] H (fun v _ => v = .bl true) fun _ _ _ => False) ∧ ∀ base : Heap, K.In base → base.Ns mainGlobals mg → FnOk l.prog w K mg base CX0 6 fa fd ["_law_script"] sp := by
  have e := hfa.symm.trans (PySem.W.mg_of X G a_law)
  cases e
  have F_times := fun_mk (st := s_times) l_times c_times k_times
  have b_times := F_times.binds (ps := ["one", "other"]) fun _ _ _ _ _ _ us hl => match us, hl with | [_, _], _ => rfl
  have F_divided := fun_mk (st := s_divided) l_divided c_divided k_divided
  have b_divided := F_divided.binds (ps := ["one", "other"]) fun _ _ _ _ _ _ us hl => match us, hl with | [_, _], _ => rfl
  have F_is_whole := fun_mk (st := s_is_whole) l_is_whole c_is_whole k_is_whole
  have b_is_whole := F_is_whole.binds (ps := ["thing"]) fun _ _ _ _ _ _ us hl => match us, hl with | [_], _ => rfl
  have F_need_poly := fun_mk (st := s_need_poly) l_need_poly c_need_poly k_need_poly
  have b_need_poly := F_need_poly.binds (ps := ["thing", "least"]) fun _ _ _ _ _ _ us hl => match us, hl with | [_, _], _ => rfl
  have F_factors := fun_mk (st := s_factors) l_factors c_factors k_factors
  have b_factors := F_factors.binds (ps := ["poly"]) fun _ _ _ _ _ _ us hl => match us, hl with | [_], _ => rfl
  have F_power_left := fun_mk (st := s_power_left) l_power_left c_power_left k_power_left
  have b_power_left := F_power_left.binds (ps := ["exponent", "poly"]) fun _ _ _ _ _ _ us hl => match us, hl with | [_, _], _ => rfl
  have F_primes_of := fun_mk (st := s_primes_of) l_primes_of c_primes_of k_primes_of
  have b_primes_of := F_primes_of.binds (ps := ["number"]) fun _ _ _ _ _ _ us hl => match us, hl with | [_], _ => rfl
  have F_order_of_one := fun_mk (st := s_order_of_one) l_order_of_one c_order_of_one k_order_of_one
  have b_order_of_one := F_order_of_one.binds (ps := ["poly"]) fun _ _ _ _ _ _ us hl => match us, hl with | [_], _ => rfl
  have F_joined_order := fun_mk (st := s_joined_order) l_joined_order c_joined_order k_joined_order
  have b_joined_order := F_joined_order.binds (ps := ["one", "other"]) fun _ _ _ _ _ _ us hl => match us, hl with | [_, _], _ => rfl
  have F_order_of := fun_mk (st := s_order_of) l_order_of c_order_of k_order_of
  have b_order_of := F_order_of.binds (ps := ["poly"]) fun _ _ _ _ _ _ us hl => match us, hl with | [_], _ => rfl
  have F_cell := fun_mk (st := s_cell) l_cell c_cell k_cell
  have b_cell := F_cell.binds (ps := ["_law_script", "_law_k"]) fun _ _ _ _ _ _ us hl => match us, hl with | [_, _], _ => rfl
  have F_mix := fun_mk (st := s_mix) l_mix c_mix k_mix
  have b_mix := F_mix.binds (ps := ["_law_cell_here", "_law_k"]) fun _ _ _ _ _ _ us hl => match us, hl with | [_, _], _ => rfl
  have F_product := fun_mk (st := s_product) l_product c_product k_product
  have b_product := F_product.binds (ps := ["_law_one", "_law_other"]) fun _ _ _ _ _ _ us hl => match us, hl with | [_, _], _ => rfl
  have F_rest := fun_mk (st := s_rest) l_rest c_rest k_rest
  have b_rest := F_rest.binds (ps := ["_law_one", "_law_other"]) fun _ _ _ _ _ _ us hl => match us, hl with | [_, _], _ => rfl
  have F_power := fun_mk (st := s_power) l_power c_power k_power
  have b_power := F_power.binds (ps := ["_law_exponent", "_law_poly"]) fun _ _ _ _ _ _ us hl => match us, hl with | [_, _], _ => rfl
  have F_primes := fun_mk (st := s_primes) l_primes c_primes k_primes
  have b_primes := F_primes.binds (ps := ["_law_number"]) fun _ _ _ _ _ _ us hl => match us, hl with | [_], _ => rfl
  have F_drawn := fun_mk (st := s_drawn) l_drawn c_drawn k_drawn
  have b_drawn := F_drawn.binds (ps := ["_law_cell_here"]) fun _ _ _ _ _ _ us hl => match us, hl with | [_], _ => rfl
  have F_refused := fun_mk (st := s_refused) l_refused c_refused k_refused
  have b_refused := F_refused.binds (ps := ["_law_thing"]) fun _ _ _ _ _ _ us hl => match us, hl with | [_], _ => rfl
  have F_right := fun_mk (st := s_right) l_right c_right k_right
  have b_right := F_right.binds (ps := ["_law_poly"]) fun _ _ _ _ _ _ us hl => match us, hl with | [_], _ => rfl
  have F_law := fun_mk (st := s_law) l_law c_law k_law
  refine ⟨PySem.W.fnOf "law" "law" (defArgs s_law) (defBody s_law) (defScope s_law) .none kV_law dc_law pm_law an_law cd_law ct_law, sp_law K ⟨C_BadMask⟩, fun s v => .of_eq rfl, fun H a ns hl  hS => ⟨H, .ref a, ns, fun b => b = true, rfl, Ex.rfl', ⟨a, rfl, hS⟩, w_law hl  rfl, fun z hz _ _ _ => by subst hz; rfl⟩, fun base _ _ => ?_⟩
  have T : Tz K mg ⟨C_BadMask⟩ := ⟨⟨xX_BadMask, PySem.W.mg_of X G aC_BadMask, kX_BadMask, bX_BadMask, tX_BadMask⟩, ⟨_, PySem.W.mg_of X G u_MOST_DEGREE, _, rfl⟩, exm_of bX_BadMask iX_BadMask tX_BadMask sX_BadMask_BadMask⟩
  have C_times := ok_times (P := l.prog) (w0 := w) (base := base) T F_times (PySem.W.mg_of X G a_times) b_times
  have C_divided := ok_divided (P := l.prog) (w0 := w) (base := base) T F_divided (PySem.W.mg_of X G a_divided) b_divided
  have C_is_whole := ok_is_whole (P := l.prog) (w0 := w) (base := base) T F_is_whole (PySem.W.mg_of X G a_is_whole) b_is_whole (PySem.W.mg_none_of X G z_bool) (PySem.W.mg_none_of X G z_int) (PySem.W.mg_none_of X G z_isinstance)
  have C_need_poly := ok_need_poly (P := l.prog) (w0 := w) (base := base) T F_need_poly (PySem.W.mg_of X G a_need_poly) b_need_poly C_is_whole
  have C_factors := ok_factors (P := l.prog) (w0 := w) (base := base) T F_factors (PySem.W.mg_of X G a_factors) b_factors C_need_poly C_divided
  have C_power_left := ok_power_left (P := l.prog) (w0 := w) (base := base) T F_power_left (PySem.W.mg_of X G a_power_left) b_power_left C_divided C_times
  have C_primes_of := ok_primes_of (P := l.prog) (w0 := w) (base := base) T F_primes_of (PySem.W.mg_of X G a_primes_of) b_primes_of
  have C_order_of_one := ok_order_of_one (P := l.prog) (w0 := w) (base := base) T F_order_of_one (PySem.W.mg_of X G a_order_of_one) b_order_of_one C_primes_of C_power_left
  have C_joined_order := ok_joined_order (P := l.prog) (w0 := w) (base := base) T F_joined_order (PySem.W.mg_of X G a_joined_order) b_joined_order
  have C_order_of := ok_order_of (P := l.prog) (w0 := w) (base := base) T F_order_of (PySem.W.mg_of X G a_order_of) b_order_of C_need_poly C_factors C_order_of_one C_joined_order
  have C_cell := ok_cell (P := l.prog) (w0 := w) (base := base) T F_cell (PySem.W.mg_of X G a_cell) b_cell (PySem.W.mg_none_of X G z_len)
  have C_mix := ok_mix (P := l.prog) (w0 := w) (base := base) T F_mix (PySem.W.mg_of X G a_mix) b_mix
  have C_product := ok_product (P := l.prog) (w0 := w) (base := base) T F_product (PySem.W.mg_of X G a_product) b_product
  have C_rest := ok_rest (P := l.prog) (w0 := w) (base := base) T F_rest (PySem.W.mg_of X G a_rest) b_rest
  have C_power := ok_power (P := l.prog) (w0 := w) (base := base) T F_power (PySem.W.mg_of X G a_power) b_power C_rest C_product
  have C_primes := ok_primes (P := l.prog) (w0 := w) (base := base) T F_primes (PySem.W.mg_of X G a_primes) b_primes (PySem.W.mg_none_of X G z_int)
  have C_drawn := ok_drawn (P := l.prog) (w0 := w) (base := base) T F_drawn (PySem.W.mg_of X G a_drawn) b_drawn C_mix C_product (PySem.W.mg_none_of X G z_range)
  have C_refused := ok_refused (P := l.prog) (w0 := w) (base := base) T F_refused (PySem.W.mg_of X G a_refused) b_refused C_order_of
  have C_right := ok_right (P := l.prog) (w0 := w) (base := base) T F_right (PySem.W.mg_of X G a_right) b_right C_order_of C_power C_primes (PySem.W.mg_none_of X G z_bool) (PySem.W.mg_none_of X G z_int) (PySem.W.mg_none_of X G z_isinstance)
  exact ok_law T F_law C_cell C_mix C_drawn C_right C_refused (PySem.W.mg_none_of X G z_range)
theorem walk {l : PySem.W.OpenLaw} {q : Program} {loose : List Str} {XP : (Str → Option Value) → Heap → Prop} {YP : World → Heap → Prop} {d : DefRec} {K : Params → PySem.W.Frag} (hn : l.most = some 63) (hdf : d.params.defaults = [])
    (hY : ∀ (w : World) (h : Heap), YP w h → (K w.params).In h)
    (F : ∀ (w : World) (mg : Str → Option Value) (fa : Addr) (h : Heap), (K w.params).In h → h.Ns mainGlobals mg → mg d.name = some (.ref fa) → ∃ (fd : FuncData) (sp : Sp), (∀ (s : Shared) (u : Value), BindsTo s fd ⟨[u], []⟩ [("_law_script", u)]) ∧ (∀ (H : Hp) (a : Addr) (ns : List Int), ns.length ≤ 63 → SqL (K w.params) H a (ns.map V.int) → sp [.ref a] H (fun v _ => v = .bl true) fun _ _ _ => False) ∧ ∀ base : Heap, (K w.params).In base → base.Ns mainGlobals mg → FnOk l.prog w (K w.params) mg base CX0 6 fa fd ["_law_script"] sp) :
    PySem.W.WalkO q loose XP YP l.row.toRowW d [] (fun f vs => PySem.call f vs) := by
  refine Att.attach_call hn hdf fun w s₀ s₁ mg mb fa o pm cd doc a vs ns G Y ho hd hcd hmg hobj hints hlen hg => ?_
  have KX := hY w _ Y
  obtain ⟨fd, sp, hb, hsp, hF⟩ := F w mg fa _ KX G.T.g hmg
  exact law_call (k := 6) (x := "_law_script") (CX := CX0) KX G.T.g G.T.b G.T.builtins G.T.nolimit hg hobj hints (Nat.le_trans hlen (by decide)) ⟨rfl, by decide, by decide⟩ hF hb (fun H hO hS => hsp H a ns hlen hS) fun H e s' z => z
end My
open PySem PySem.W PyProof.Rows
set_option maxRecDepth 100000 in
set_option maxHeartbeats 0 in
theorem PySem.Challenge.cw_sumwires_k79_orders_holds : PySem.Challenge.rw_sumwires_k79_orders.Holds := by
  w_on; o_law; k_head; (case hw => w_witness2)
  k_fill
  refine My.walk (l := PySem.Challenge.rw_sumwires_k79_orders) rfl rfl (fun w h Y => PySem.W.kIn_of Y) ?F
  case F =>
    intro w mg fa h KX G hmg
    refine' My.all_mk KX G hmg ?aC_BadMask ?xX_BadMask ?kX_BadMask ?bX_BadMask ?tX_BadMask ?iX_BadMask ?u_MOST_DEGREE ?sX_BadMask_BadMask ?a_times ?l_times ?c_times ?k_times ?a_divided ?l_divided ?c_divided ?k_divided ?a_is_whole ?l_is_whole ?c_is_whole ?k_is_whole ?a_need_poly ?l_need_poly ?c_need_poly ?k_need_poly ?a_factors ?l_factors ?c_factors ?k_factors ?a_power_left ?l_power_left ?c_power_left ?k_power_left ?a_primes_of ?l_primes_of ?c_primes_of ?k_primes_of ?a_order_of_one ?l_order_of_one ?c_order_of_one ?k_order_of_one ?a_joined_order ?l_joined_order ?c_joined_order ?k_joined_order ?a_order_of ?l_order_of ?c_order_of ?k_order_of ?a_cell ?l_cell ?c_cell ?k_cell ?a_mix ?l_mix ?c_mix ?k_mix ?a_product ?l_product ?c_product ?k_product ?a_rest ?l_rest ?c_rest ?k_rest ?a_power ?l_power ?c_power ?k_power ?a_primes ?l_primes ?c_primes ?k_primes ?a_drawn ?l_drawn ?c_drawn ?k_drawn ?a_refused ?l_refused ?c_refused ?k_refused ?a_right ?l_right ?c_right ?k_right ?a_law ?l_law ?c_law ?k_law ?z_bool ?z_int ?z_isinstance ?z_len ?z_range
    (case aC_BadMask => k_is); (case xX_BadMask => k_exc); (case kX_BadMask => k_is); (case bX_BadMask => k_is)
    (case tX_BadMask => k_is); (case iX_BadMask => k_is); (case u_MOST_DEGREE => k_is); (case sX_BadMask_BadMask => first | rfl | k_is)
    (case a_times => k_is); (case l_times => k_is); (case c_times => k_is); (case k_times => k_is)
    (case a_divided => k_is); (case l_divided => k_is); (case c_divided => k_is); (case k_divided => k_is)
    (case a_is_whole => k_is); (case l_is_whole => k_is); (case c_is_whole => k_is); (case k_is_whole => k_is)
    (case a_need_poly => k_is); (case l_need_poly => k_is); (case c_need_poly => k_is); (case k_need_poly => k_is)
    (case a_factors => k_is); (case l_factors => k_is); (case c_factors => k_is); (case k_factors => k_is)
    (case a_power_left => k_is); (case l_power_left => k_is); (case c_power_left => k_is); (case k_power_left => k_is)
    (case a_primes_of => k_is); (case l_primes_of => k_is); (case c_primes_of => k_is); (case k_primes_of => k_is)
    (case a_order_of_one => k_is); (case l_order_of_one => k_is); (case c_order_of_one => k_is); (case k_order_of_one => k_is)
    (case a_joined_order => k_is); (case l_joined_order => k_is); (case c_joined_order => k_is); (case k_joined_order => k_is)
    (case a_order_of => k_is); (case l_order_of => k_is); (case c_order_of => k_is); (case k_order_of => k_is)
    (case a_cell => k_is); (case l_cell => k_is); (case c_cell => k_is); (case k_cell => k_is)
    (case a_mix => k_is); (case l_mix => k_is); (case c_mix => k_is); (case k_mix => k_is)
    (case a_product => k_is); (case l_product => k_is); (case c_product => k_is); (case k_product => k_is)
    (case a_rest => k_is); (case l_rest => k_is); (case c_rest => k_is); (case k_rest => k_is)
    (case a_power => k_is); (case l_power => k_is); (case c_power => k_is); (case k_power => k_is)
    (case a_primes => k_is); (case l_primes => k_is); (case c_primes => k_is); (case k_primes => k_is)
    (case a_drawn => k_is); (case l_drawn => k_is); (case c_drawn => k_is); (case k_drawn => k_is)
    (case a_refused => k_is); (case l_refused => k_is); (case c_refused => k_is); (case k_refused => k_is)
    (case a_right => k_is); (case l_right => k_is); (case c_right => k_is); (case k_right => k_is)
    (case a_law => k_is); (case l_law => k_is); (case c_law => k_is); (case k_law => k_is)
    (case z_bool => k_is); (case z_int => k_is); (case z_isinstance => k_is); (case z_len => k_is)
    (case z_range => k_is)
