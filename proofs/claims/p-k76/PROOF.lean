import PyProof.Rows.All
import Wide.All
import OpenK.AllK
import Wide.FinOn
import HandS.ForMost
import HandS.Wide
import HandS.WideBits
import HandS.IsInst
import HandS.Steps
import HandS.Exc
import HandS.ExcOwn
import HandS.TryOnly
import HandS.WordsExc
import HandS.EndBits
import HandS.Rev
import HandS.RevTup
import HandS.Walk
import HandS.Zip
import HandS.SortInts
import HandS.More
import HandS.SetFor
import KE.GoesMore
import KE.KDictZip
import HandS.Iter
import HandS.Keys
import HandS.Defaults
import HandS.ExcIs
import PySem.Challenge.RW_sumwires_k76_heard_rows_and_what_bars_le
set_option Elab.async false
set_option linter.all false
set_option maxRecDepth 100000
set_option maxHeartbeats 4000000
set_option exponentiation.threshold 4000
/-! Wk: a typed layer over the hand layer. A state is a pair (F, H): H the tracked heap, F that part of it which nobody changes any more. -/
namespace Wk
open PySem L2

abbrev Ex (H H' : Hp) : Prop := ∀ a o, H a = some o → H' a = some o
theorem Ex.rfl' {H : Hp} : Ex H H := fun _ _ h => h
theorem Ex.tr {H H1 H2 : Hp} (a : Ex H H1) (b : Ex H1 H2) : Ex H H2 := fun x o h => b x o (a x o h)
theorem Ex.new {H : Hp} {p : Addr} {o : HO} (h : H p = none) : Ex H (upd H p o) := fun a u e => by
  rw [upd_ne (ne_of_none e h)]; exact e
theorem Ex.non {H H' : Hp} (e : Ex H H') {p : Addr} (h : H' p = none) : H p = none := by
  cases q : H p with
  | none => rfl
  | some o => rw [e p o q] at h; cases h

/-- from (F0, H0) to (F, H): all is kept, and F has grown by nothing but what is new to H0 -/
structure Wf (F0 H0 F H : Hp) : Prop where
  h : Ex H0 H
  f : Ex F H
  g : Ex F0 F
  n : ∀ a o, F a = some o → F0 a = none → H0 a = none
theorem Wf.id {F H : Hp} (e : Ex F H) : Wf F H F H := ⟨Ex.rfl', e, Ex.rfl', fun a o h h' => by rw [h] at h'; cases h'⟩
theorem Wf.tr {F0 H0 F H F' H' : Hp} (a : Wf F0 H0 F H) (b : Wf F H F' H') : Wf F0 H0 F' H' := ⟨a.h.tr b.h, b.f, a.g.tr b.g, fun x o h h0 => by
  cases q : F x with
  | none => exact a.h.non (b.n x o h q)
  | some u => exact a.n x u q h0⟩
/-- a new object that stays as it is -/
theorem Wf.new {F H : Hp} {p : Addr} {o : HO} (e : Ex F H) (hp : H p = none) : Wf F H (upd F p o) (upd H p o) := ⟨Ex.new hp, fun a u h => by
    by_cases q : a = p
    · subst q; rw [upd_same] at h ⊢; exact h
    · rw [upd_ne q] at h ⊢; exact e a u h, Ex.new (e.non hp), fun a u h h0 => by
    by_cases q : a = p
    · subst q; exact hp
    · rw [upd_ne q, h0] at h; cases h⟩
/-- a new object that is still changed -/
theorem Wf.newX {F H : Hp} {p : Addr} {o : HO} (e : Ex F H) (hp : H p = none) : Wf F H F (upd H p o) := ⟨Ex.new hp, e.tr (Ex.new hp), Ex.rfl', fun a u h h0 => by rw [h] at h0; cases h0⟩
/-- the heap alone has grown -/
theorem Wf.grow {F H H' : Hp} (e : Ex F H) (h : Ex H H') : Wf F H F H' := ⟨h, e.tr h, Ex.rfl', fun a u h h0 => by rw [h] at h0; cases h0⟩

/-- one's own object, not yet in F -/
structure Xc (H0 F H : Hp) (p : Addr) (o : HO) : Prop where
  z : H0 p = none
  n : F p = none
  h : H p = some o
section
variable {F0 H0 F H F' H' : Hp} {p q : Addr} {o u : HO}
theorem Xc.mk' (w : Wf F0 H0 F H) (hp : H p = none) : Xc H0 F (upd H p o) p o := ⟨w.h.non hp, w.f.non hp, upd_same⟩
theorem Xc.step (x : Xc H0 F H p o) (w : Wf F H F' H') : Xc H0 F' H' p o := ⟨x.z, (by
  cases q : F' p with
  | none => rfl
  | some u => have := w.n p u q x.n; rw [x.h] at this; cases this), w.h _ _ x.h⟩
theorem Xc.other (x : Xc H0 F H p o) (h : p ≠ q) : Xc H0 F (upd H q u) p o := ⟨x.z, x.n, by rw [upd_ne h]; exact x.h⟩
theorem Xc.set (x : Xc H0 F H p o) : Xc H0 F (upd H p u) p u := ⟨x.z, x.n, upd_same⟩
theorem Wf.set (w : Wf F0 H0 F H) (x : Xc H0 F H p o) : Wf F0 H0 F (upd H p u) := ⟨fun a v e => by
    rw [upd_ne (ne_of_none e x.z)]; exact w.h a v e, fun a v e => by rw [upd_ne (ne_of_none e x.n)]; exact w.f a v e, w.g, w.n⟩
/-- it is changed no more -/
theorem Wf.freeze (w : Wf F0 H0 F H) (x : Xc H0 F H p o) : Wf F0 H0 (upd F p o) H := ⟨w.h, fun a v e => by
    by_cases q : a = p
    · subst q; rw [upd_same] at e; rw [← e]; exact x.h
    · rw [upd_ne q] at e; exact w.f a v e, w.g.tr (Ex.new x.n), fun a v e e0 => by
    by_cases q : a = p
    · subst q; exact x.z
    · rw [upd_ne q] at e; exact w.n a v e e0⟩
theorem Xc.frz (x : Xc H0 F H p o) (y : Xc H0 F H q u) (h : p ≠ q) : Xc H0 (upd F q u) H p o := ⟨x.z, by rw [upd_ne h]; exact x.n, x.h⟩
theorem Xc.ne (x : Xc H0 F H p o) (h : H q = none) : p ≠ q := ne_of_none x.h h
end

/-! ### what represents what -/
structure Rep (α : Type) where
  r : Hp → V → α → Prop
  mono : ∀ {F F' : Hp} {v : V} {x : α}, Ex F F' → r F v x → r F' v x
def pI : Rep Int := ⟨fun _ v x => v = .int x, fun _ h => h⟩
def pN : Rep Nat := ⟨fun _ v x => v = .int (x : Int), fun _ h => h⟩
def pB : Rep Bool := ⟨fun _ v x => v = .bl x, fun _ h => h⟩
def pS : Rep Str := ⟨fun _ v x => v = .str x, fun _ h => h⟩
def pU : Rep Unit := ⟨fun _ v _ => v = .non, fun _ h => h⟩
def All {α : Type} (e : Rep α) (F : Hp) : List V → List α → Prop
  | [], [] => True
  | v :: vs, x :: xs => e.r F v x ∧ All e F vs xs
  | _, _ => False
section
variable {α β γ : Type} {e : Rep α} {F F' : Hp} {vs ws : List V} {xs ys : List α} {v : V} {x : α}
theorem All.mono (h : Ex F F') : ∀ {vs : List V} {xs : List α}, All e F vs xs → All e F' vs xs
  | [], [], _ => trivial
  | _ :: _, _ :: _, ⟨a, b⟩ => ⟨e.mono h a, All.mono h b⟩
  | [], _ :: _, q => q.elim
  | _ :: _, [], q => q.elim
theorem All.len : ∀ {vs : List V} {xs : List α}, All e F vs xs → vs.length = xs.length
  | [], [], _ => rfl
  | _ :: _, _ :: _, ⟨_, b⟩ => by rw [List.length_cons, List.length_cons, All.len b]
  | [], _ :: _, q => q.elim
  | _ :: _, [], q => q.elim
theorem All.get : ∀ {vs : List V} {xs : List α} {i : Nat} {x : α}, All e F vs xs → xs[i]? = some x → ∃ v, vs[i]? = some v ∧ e.r F v x
  | _ :: _, _ :: _, 0, _, ⟨a, _⟩, h => by simp at h; subst h; exact ⟨_, rfl, a⟩
  | _ :: _, _ :: _, i + 1, _, ⟨_, b⟩, h => by
    obtain ⟨v, h1, h2⟩ := All.get (i := i) b (by simpa using h)
    exact ⟨v, by simpa using h1, h2⟩
  | [], [], _, _, _, h => by simp at h
  | [], _ :: _, _, _, q, _ => q.elim
  | _ :: _, [], _, _, q, _ => q.elim
theorem All.got : ∀ {vs : List V} {xs : List α} {i : Nat} {v : V}, All e F vs xs → vs[i]? = some v → ∃ x, xs[i]? = some x ∧ e.r F v x
  | _ :: _, _ :: _, 0, _, ⟨a, _⟩, h => by simp at h; subst h; exact ⟨_, rfl, a⟩
  | _ :: _, _ :: _, i + 1, _, ⟨_, b⟩, h => by
    obtain ⟨v, h1, h2⟩ := All.got (i := i) b (by simpa using h)
    exact ⟨v, by simpa using h1, h2⟩
  | [], [], _, _, _, h => by simp at h
  | [], _ :: _, _, _, q, _ => q.elim
  | _ :: _, [], _, _, q, _ => q.elim
theorem All.app : ∀ {vs : List V} {xs : List α}, All e F vs xs → All e F ws ys → All e F (vs ++ ws) (xs ++ ys)
  | [], [], _, b => b
  | _ :: _, _ :: _, ⟨a, a'⟩, b => ⟨a, All.app a' b⟩
  | [], _ :: _, q, _ => q.elim
  | _ :: _, [], q, _ => q.elim
theorem All.snoc (a : All e F vs xs) (b : e.r F v x) : All e F (vs ++ [v]) (xs ++ [x]) := a.app ⟨b, trivial⟩
theorem All.set : ∀ {vs : List V} {xs : List α} (i : Nat), All e F vs xs → e.r F v x → All e F (vs.set i v) (xs.set i x)
  | [], [], _, _, _ => trivial
  | _ :: _, _ :: _, 0, ⟨_, b⟩, r => ⟨r, b⟩
  | _ :: _, _ :: _, i + 1, ⟨a, b⟩, r => ⟨a, All.set i b r⟩
  | [], _ :: _, _, q, _ => q.elim
  | _ :: _, [], _, q, _ => q.elim
theorem All.take : ∀ {vs : List V} {xs : List α} (i : Nat), All e F vs xs → All e F (vs.take i) (xs.take i)
  | [], [], i, _ => by simp [All]
  | _ :: _, _ :: _, 0, _ => trivial
  | _ :: _, _ :: _, i + 1, ⟨a, b⟩ => ⟨a, All.take i b⟩
  | [], _ :: _, _, q => q.elim
  | _ :: _, [], _, q => q.elim
theorem All.drop : ∀ {vs : List V} {xs : List α} (i : Nat), All e F vs xs → All e F (vs.drop i) (xs.drop i)
  | [], [], i, _ => by simp [All]
  | _ :: _, _ :: _, 0, h => h
  | _ :: _, _ :: _, i + 1, ⟨_, b⟩ => All.drop i b
  | [], _ :: _, _, q => q.elim
  | _ :: _, [], _, q => q.elim
theorem All.ints {vs : List V} : ∀ {xs : List Int}, All pI F vs xs → vs = xs.map V.int := by
  induction vs with
  | nil => intro xs h; cases xs with
    | nil => rfl
    | cons _ _ => exact h.elim
  | cons v vs ih => intro xs h; cases xs with
    | nil => exact h.elim
    | cons y ys => obtain ⟨a, b⟩ := h; rw [ih b, List.map_cons]; rw [show v = .int y from a]
theorem All.ofInts : ∀ {xs : List Int}, All pI F (xs.map V.int) xs
  | [] => trivial
  | _ :: _ => ⟨rfl, All.ofInts⟩
theorem All.nats {vs : List V} : ∀ {xs : List Nat}, All pN F vs xs → vs = (xs.map Int.ofNat).map V.int := by
  induction vs with
  | nil => intro xs h; cases xs with
    | nil => rfl
    | cons _ _ => exact h.elim
  | cons v vs ih => intro xs h; cases xs with
    | nil => exact h.elim
    | cons y ys => obtain ⟨a, b⟩ := h; rw [ih b, List.map_cons, List.map_cons]; rw [show v = .int (y : Int) from a]; rfl
end
/-- a list, a tuple of things of one kind, pairs, triples -/
def pL {α : Type} (e : Rep α) : Rep (List α) := ⟨fun F v xs => ∃ p vs, v = .ref p ∧ F p = some (.lst vs) ∧ All e F vs xs, fun h ⟨p, vs, a, b, c⟩ => ⟨p, vs, a, h _ _ b, c.mono h⟩⟩
def pTL {α : Type} (e : Rep α) : Rep (List α) := ⟨fun F v xs => ∃ p vs, v = .ref p ∧ F p = some (.tup vs) ∧ All e F vs xs, fun h ⟨p, vs, a, b, c⟩ => ⟨p, vs, a, h _ _ b, c.mono h⟩⟩
def pT2 {α β : Type} (e : Rep α) (f : Rep β) : Rep (α × β) := ⟨fun F v x => ∃ p u w, v = .ref p ∧ F p = some (.tup [u, w]) ∧ e.r F u x.1 ∧ f.r F w x.2, fun h ⟨p, u, w, a, b, c, d⟩ => ⟨p, u, w, a, h _ _ b, e.mono h c, f.mono h d⟩⟩
def pT3 {α β γ : Type} (e : Rep α) (f : Rep β) (g : Rep γ) : Rep (α × β × γ) := ⟨fun F v x => ∃ p u w y, v = .ref p ∧ F p = some (.tup [u, w, y]) ∧ e.r F u x.1 ∧ f.r F w x.2.1 ∧ g.r F y x.2.2, fun h ⟨p, u, w, y, a, b, c, d, k⟩ => ⟨p, u, w, y, a, h _ _ b, e.mono h c, f.mono h d, g.mono h k⟩⟩
def pO {α : Type} (e : Rep α) : Rep (Option α) := ⟨fun F v x => match x with | none => v = .non | some y => e.r F v y, fun {_ _ _ x} h q => by cases x with | none => exact q | some y => exact e.mono h q⟩
/-- the script: read only -/
def pScr (K : PySem.W.Frag) : Rep (List Int) := ⟨fun F v xs => ∃ a, v = .ref a ∧ SqL K F a (xs.map V.int), fun h ⟨a, e, q⟩ => ⟨a, e, by
  rcases q with (q | ⟨o, q⟩) | q
  · exact .inl (.inl (h _ _ q))
  · exact .inl (.inr ⟨o, h _ _ q⟩)
  · exact .inr q⟩⟩
/-- one's own list -/
structure XL {α : Type} (e : Rep α) (H0 F H : Hp) (p : Addr) (xs : List α) : Prop where
  x : ∃ vs, Xc H0 F H p (.lst vs) ∧ All e F vs xs
section
variable {α : Type} {e : Rep α} {F0 H0 F H F' H' : Hp} {p q : Addr} {o : HO} {xs : List α} {y : α} {v : V}
theorem XL.step (x : XL e H0 F H p xs) (w : Wf F H F' H') : XL e H0 F' H' p xs := let ⟨vs, a, b⟩ := x.x; ⟨vs, a.step w, b.mono w.g⟩
theorem XL.other {u : HO} (x : XL e H0 F H p xs) (h : p ≠ q) : XL e H0 F (upd H q u) p xs := let ⟨vs, a, b⟩ := x.x; ⟨vs, a.other h, b⟩
theorem XL.ne (x : XL e H0 F H p xs) (h : H q = none) : p ≠ q := let ⟨_, a, _⟩ := x.x; a.ne h
theorem XL.nil (w : Wf F0 H0 F H) (hp : H p = none) : XL e H0 F (upd H p (.lst [])) p [] := ⟨[], Xc.mk' w hp, trivial⟩
theorem XL.frz {u : HO} {β : Type} {e' : Rep β} {ys : List β} (x : XL e H0 F H p xs) (z : Xc H0 F H q u) (h : p ≠ q) : XL e H0 (upd F q u) H p xs := let ⟨vs, a, b⟩ := x.x; ⟨vs, a.frz z h, b.mono (Ex.new z.n)⟩
theorem XL.zero (x : XL e H0 F H p xs) : H0 p = none := let ⟨_, a, _⟩ := x.x; a.z
end
/-! ### typed loops -/
def forW {α S : Type} : List α → S → (α → S → (S → Prop) → (S → Prop) → Prop) → (S → Prop) → Prop
  | [], s, _, k => k s
  | x :: xs, s, b, k => b x s (fun s' => forW xs s' b k) k
def compG {α β : Type} : List α → List β → (α → (Option β → Prop) → Prop) → (List β → Prop) → Prop
  | [], acc, _, k => k acc
  | x :: xs, acc, b, k => b x fun o => compG xs (acc ++ o.toList) b k
def compW {α β : Type} (xs : List α) (b : α → (Option β → Prop) → Prop) (k : List β → Prop) : Prop := compG xs [] b k
def whileW {S : Type} (test : S → (Bool → Prop) → Prop) (body : S → (S → Prop) → (S → Prop) → Prop) (s : S) (k : S → Prop) : Prop :=
  ∃ I : Nat → S → Prop, (∃ m, I m s) ∧ ∀ m s, I m s → test s fun b => if b = true then body s (fun s' => ∃ m', m' < m ∧ I m' s') k else k s

/-! ### steps of readings -/
section
variable {K : PySem.W.Frag} {σ σ1 : L2.St} {H H1 : Hp} {te ta tb tc : TE} {tt tu : TT} {tA tR : TA} {Q : VK} {v w x y z : V} {D : Ends} {t u : TS} {i j : Int} {a b m n : Nat} {p q : Prop}
theorem e_val (h : Val te σ H v) (q : Q v H) : te σ H Q := h Q q
theorem v_eq (h : Val te σ H v) (e : v = w) : Val te σ H w := e ▸ h
theorem vi_of (h : Val te σ H (.int i)) (e : i = j) : Val te σ H (.int j) := e ▸ h
theorem vb_of {b c : Bool} (h : Val te σ H (.bl b)) (e : b = c) : Val te σ H (.bl c) := e ▸ h
theorem v2 {r : R2} (ha : Val ta σ H x) (hb : Val tb σ H y) (hr : ∀ Q : VK, Q z H → r x y H Q) : Val (tOp r ta tb) σ H z := fun Q k => ha _ (hb _ (hr Q k))
theorem v1 {r : V → Hp → VK → Prop} (ha : Val ta σ H x) (hr : ∀ Q : VK, Q z H → r x H Q) : Val (tUn r ta) σ H z := fun Q k => ha _ (hr Q k)
theorem vi0 {g : Int → Int → V} (ha : Val ta σ H (.int i)) (hb : Val tb σ H (.int j)) : Val (tOp (rI0 g) ta tb) σ H (g i j) := fun _ k => ha _ (hb _ ⟨i, j, rfl, rfl, k⟩)
theorem viC {C : Int → Int → Prop} {g : Int → Int → V} (ha : Val ta σ H (.int i)) (hb : Val tb σ H (.int j)) (hc : C i j) : Val (tOp (rI C g) ta tb) σ H (g i j) := fun _ k => ha _ (hb _ ⟨i, j, rfl, rfl, hc, k⟩)
/-! whole numbers from 0 on -/
theorem vn_add (ha : Val ta σ H (.int (a : Int))) (hb : Val tb σ H (.int (b : Int))) : Val (tOp (rI0 fun i j => .int (i + j)) ta tb) σ H (.int ((a + b : Nat) : Int)) := vi_of (vi0 ha hb) (by omega)
theorem vn_sub (ha : Val ta σ H (.int (a : Int))) (hb : Val tb σ H (.int (b : Int))) (h : b ≤ a) : Val (tOp (rI0 fun i j => .int (i - j)) ta tb) σ H (.int ((a - b : Nat) : Int)) := vi_of (vi0 ha hb) (by omega)
def NMul (a b : Nat) : Prop := a < 2 ^ 64 ∨ b < 2 ^ 64
theorem vn_mul (ha : Val ta σ H (.int (a : Int))) (hb : Val tb σ H (.int (b : Int))) (h : NMul a b) : Val (tOp (rI CMul fun i j => .int (i * j)) ta tb) σ H (.int ((a * b : Nat) : Int)) := vi_of (viC ha hb (by
  rcases h with h | h
  · exact .inl ⟨by omega, by omega⟩
  · exact .inr ⟨by omega, by omega⟩)) (by rw [Int.natCast_mul])
theorem vn_mulW (ha : Val ta σ H (.int (a : Int))) (hb : Val tb σ H (.int (b : Int))) (h : CMulX a b) : Val (tOp (rI CMulX fun i j => .int (i * j)) ta tb) σ H (.int ((a * b : Nat) : Int)) := vi_of (viC ha hb h) (by rw [Int.natCast_mul])
def NDiv (b : Nat) : Prop := 0 < b ∧ b.log2 < 9000
theorem vn_div (ha : Val ta σ H (.int (a : Int))) (hb : Val tb σ H (.int (b : Int))) (h : NDiv b) : Val (tOp (rI CDivW fun i j => .int (i / j)) ta tb) σ H (.int ((a / b : Nat) : Int)) := vi_of (viC ha hb ⟨by have := h.1; omega, h.2⟩) (by rw [Int.natCast_ediv])
theorem vi_div (ha : Val ta σ H (.int i)) (hb : Val tb σ H (.int (b : Int))) (h : NDiv b) : Val (tOp (rI CDivW fun i j => .int (i / j)) ta tb) σ H (.int (i / (b : Int))) := viC ha hb ⟨by have := h.1; omega, h.2⟩
theorem vn_mod (ha : Val ta σ H (.int (a : Int))) (hb : Val tb σ H (.int (b : Int))) (h : 0 < b) : Val (tOp (rI (fun _ j => 0 < j) fun i j => .int (i % j)) ta tb) σ H (.int ((a % b : Nat) : Int)) := vi_of (viC (C := fun _ j => 0 < j) ha hb (by omega)) (by rw [Int.natCast_emod])
/-- i % m, as a whole number from 0 on -/
def modN (i : Int) (m : Nat) : Nat := (i % (m : Int)).toNat
theorem modN_cast {i : Int} {m : Nat} (h : 0 < m) : ((modN i m : Nat) : Int) = i % (m : Int) := Int.toNat_of_nonneg (Int.emod_nonneg _ (by omega))
theorem modN_lt {i : Int} {m : Nat} (h : 0 < m) : modN i m < m := by
  have := modN_cast (i := i) h
  have := Int.emod_lt_of_pos i (show (0 : Int) < m by omega)
  omega
theorem vm_mod (ha : Val ta σ H (.int i)) (hb : Val tb σ H (.int (b : Int))) (h : 0 < b) : Val (tOp (rI (fun _ j => 0 < j) fun i j => .int (i % j)) ta tb) σ H (.int ((modN i b : Nat) : Int)) := vi_of (viC (C := fun _ j => 0 < j) ha hb (by omega)) (modN_cast h).symm
theorem bitAnd_N (a b : Nat) : Builtin.bitAnd (a : Int) (b : Int) = ((a &&& b : Nat) : Int) := by
  unfold Builtin.bitAnd
  rw [decide_eq_true (Int.natCast_nonneg a), decide_eq_true (Int.natCast_nonneg b)]
  rfl
theorem bitXor_N (a b : Nat) : Builtin.bitXor (a : Int) (b : Int) = ((a ^^^ b : Nat) : Int) := by rw [Bits.bitXor_pp (Int.natCast_nonneg a) (Int.natCast_nonneg b)]; rfl
theorem bitOr_N (a b : Nat) : Builtin.bitOr (a : Int) (b : Int) = ((a ||| b : Nat) : Int) := by rw [Bits.bitOr_pp (Int.natCast_nonneg a) (Int.natCast_nonneg b)]; rfl
theorem vn_and (ha : Val ta σ H (.int (a : Int))) (hb : Val tb σ H (.int (b : Int))) : Val (tOp (rI0 fun i j => .int (Builtin.bitAnd i j)) ta tb) σ H (.int ((a &&& b : Nat) : Int)) := vi_of (vi0 ha hb) (bitAnd_N a b)
theorem vn_or (ha : Val ta σ H (.int (a : Int))) (hb : Val tb σ H (.int (b : Int))) : Val (tOp (rI0 fun i j => .int (Builtin.bitOr i j)) ta tb) σ H (.int ((a ||| b : Nat) : Int)) := vi_of (vi0 ha hb) (bitOr_N a b)
theorem vn_xor (ha : Val ta σ H (.int (a : Int))) (hb : Val tb σ H (.int (b : Int))) : Val (tOp (rI0 fun i j => .int (Builtin.bitXor i j)) ta tb) σ H (.int ((a ^^^ b : Nat) : Int)) := vi_of (vi0 ha hb) (bitXor_N a b)
/-- i & 1 -/
theorem vm_odd (ha : Val ta σ H (.int i)) (hb : Val tb σ H (.int 1)) : Val (tOp (rI0 fun i j => .int (Builtin.bitAnd i j)) ta tb) σ H (.int ((modN i 2 : Nat) : Int)) := vi_of (vi0 ha hb) (by rw [PyProof.Rows.bitAnd_m1, modN_cast (by decide)]; rfl)
def NShl (a k : Nat) : Prop := a.log2 + k < 100000000
theorem NShl.ok {a k : Nat} (h : NShl a k) : CShl (a : Int) (k : Int) := by
  have e : (2 : Int) ^ 27 = 134217728 := by decide
  refine ⟨Int.natCast_nonneg _, ?_⟩
  rw [e]
  have b : Builtin.Int.intBits (a : Int) ≤ a.log2 + 1 := by
    unfold Builtin.Int.intBits
    split
    · omega
    · exact Nat.le_refl _
  unfold NShl at h
  omega
theorem vn_shl (ha : Val ta σ H (.int (a : Int))) (hb : Val tb σ H (.int (b : Int))) (h : NShl a b) : Val (tOp (rI CShl fun i j => .int (i * 2 ^ j.toNat)) ta tb) σ H (.int ((a <<< b : Nat) : Int)) := vi_of (viC ha hb h.ok) (by
  rw [Int.toNat_natCast, Nat.shiftLeft_eq, Int.natCast_mul, Int.natCast_pow]; rfl)
theorem vn_one (ha : Val ta σ H (.int 1)) (hb : Val tb σ H (.int (b : Int))) (h : b < 100000000) : Val (tOp (rI CShl fun i j => .int (i * 2 ^ j.toNat)) ta tb) σ H (.int ((2 ^ b : Nat) : Int)) := vi_of (vn_shl (a := 1) ha hb (by
  unfold NShl
  have : Nat.log2 1 = 0 := by decide
  omega)) (by rw [Nat.shiftLeft_eq, Nat.one_mul])
theorem vi_shl (ha : Val ta σ H (.int i)) (hb : Val tb σ H (.int (b : Int))) (h : CShl i (b : Int)) : Val (tOp (rI CShl fun i j => .int (i * 2 ^ j.toNat)) ta tb) σ H (.int (i * 2 ^ b)) := vi_of (viC ha hb h) (by rw [Int.toNat_natCast])
theorem vi_shr (ha : Val ta σ H (.int i)) (hb : Val tb σ H (.int (b : Int))) : Val (tOp (rI (fun _ j => 0 ≤ j) fun i j => .int (i / 2 ^ j.toNat)) ta tb) σ H (.int (i / 2 ^ b)) := vi_of (viC (C := fun _ j => 0 ≤ j) ha hb (Int.natCast_nonneg _)) (by rw [Int.toNat_natCast])
theorem vn_shr (ha : Val ta σ H (.int (a : Int))) (hb : Val tb σ H (.int (b : Int))) : Val (tOp (rI (fun _ j => 0 ≤ j) fun i j => .int (i / 2 ^ j.toNat)) ta tb) σ H (.int ((a >>> b : Nat) : Int)) := vi_of (vi_shr ha hb) (by
  rw [Nat.shiftRight_eq_div_pow, Int.natCast_ediv, Int.natCast_pow]; rfl)
theorem v_neg (ha : Val ta σ H (.int i)) : Val (tUn (rU fun i => .int (-i)) ta) σ H (.int (-i)) := v1 ha fun _ k => ⟨i, rfl, k⟩
theorem vn_pow {c : Nat} (ha : Val ta σ H (.int (a : Int))) (hb : Val tb σ H (.int (b : Int))) (h : b ≤ 1000000 ∧ a < 2 ^ 64) (e : a ^ b = c) : Val (tOp (rI CPow fun i j => .int (i ^ j.toNat)) ta tb) σ H (.int (c : Int)) := vi_of (viC ha hb ⟨Int.natCast_nonneg _, by omega, by omega⟩) (by
  rw [Int.toNat_natCast, ← e, Int.natCast_pow])
theorem vn_bits (ha : Val ta σ H (.int (a : Int))) : Val (tBits ta) σ H (.int ((Builtin.Int.intBits (a : Int) : Nat) : Int)) := fun _ k => ha _ ⟨_, rfl, k⟩
/-! comparisons, as truths -/
theorem c_lt (ha : Val ta σ H (.int i)) (hb : Val tb σ H (.int j)) : Val (tOp (rI0 fun i j => .bl (decide (i < j))) ta tb) σ H (.bl (decide (i < j))) := vi0 ha hb
theorem c_le (ha : Val ta σ H (.int i)) (hb : Val tb σ H (.int j)) : Val (tOp (rI0 fun i j => .bl (decide (i ≤ j))) ta tb) σ H (.bl (decide (i ≤ j))) := vi0 ha hb
theorem c_gt (ha : Val ta σ H (.int i)) (hb : Val tb σ H (.int j)) : Val (tOp (rI0 fun i j => .bl (decide (j < i))) ta tb) σ H (.bl (decide (j < i))) := vi0 ha hb
theorem c_ge (ha : Val ta σ H (.int i)) (hb : Val tb σ H (.int j)) : Val (tOp (rI0 fun i j => .bl (decide (j ≤ i))) ta tb) σ H (.bl (decide (j ≤ i))) := vi0 ha hb
theorem dec_iff {p q : Prop} [Decidable p] [Decidable q] (h : p ↔ q) : decide p = decide q := by
  by_cases k : p
  · rw [decide_eq_true k, decide_eq_true (h.mp k)]
  · rw [decide_eq_false k, decide_eq_false (fun z => k (h.mpr z))]
theorem vb_dec [Decidable p] [Decidable q] (h : Val te σ H (.bl (decide p))) (e : p ↔ q) : Val te σ H (.bl (decide q)) := vb_of h (dec_iff e)
theorem c_eqI (ha : Val ta σ H (.int i)) (hb : Val tb σ H (.int j)) : Val (tOp rEq ta tb) σ H (.bl (decide (i = j))) := v2 ha hb fun Q k => ⟨rfl, by
  rw [dec_iff (show V.int i = V.int j ↔ i = j from ⟨fun h => V.int.inj h, fun h => by rw [h]⟩)]; exact k⟩
theorem c_neI (ha : Val ta σ H (.int i)) (hb : Val tb σ H (.int j)) : Val (tOp rNe ta tb) σ H (.bl (decide (i ≠ j))) := v2 ha hb fun Q k => ⟨rfl, by
  rw [← decide_not, dec_iff (show ¬ V.int i = V.int j ↔ i ≠ j from ⟨fun h e => h (by rw [e]), fun h e => h (V.int.inj e)⟩)]; exact k⟩
theorem c_eqS {s r : Str} (ha : Val ta σ H (.str s)) (hb : Val tb σ H (.str r)) : Val (tOp rEq ta tb) σ H (.bl (decide (s = r))) := v2 ha hb fun Q k => ⟨rfl, by
  rw [dec_iff (show V.str s = V.str r ↔ s = r from ⟨fun h => V.str.inj h, fun h => by rw [h]⟩)]; exact k⟩
theorem c_neS {s r : Str} (ha : Val ta σ H (.str s)) (hb : Val tb σ H (.str r)) : Val (tOp rNe ta tb) σ H (.bl (decide (s ≠ r))) := v2 ha hb fun Q k => ⟨rfl, by
  rw [← decide_not, dec_iff (show ¬ V.str s = V.str r ↔ s ≠ r from ⟨fun h e => h (by rw [e]), fun h e => h (V.str.inj e)⟩)]; exact k⟩
theorem c_eqB {s r : Bool} (ha : Val ta σ H (.bl s)) (hb : Val tb σ H (.bl r)) : Val (tOp rEq ta tb) σ H (.bl (decide (s = r))) := v2 ha hb fun Q k => ⟨rfl, by
  rw [dec_iff (show V.bl s = V.bl r ↔ s = r from ⟨fun h => V.bl.inj h, fun h => by rw [h]⟩)]; exact k⟩
theorem c_neB {s r : Bool} (ha : Val ta σ H (.bl s)) (hb : Val tb σ H (.bl r)) : Val (tOp rNe ta tb) σ H (.bl (decide (s ≠ r))) := v2 ha hb fun Q k => ⟨rfl, by
  rw [← decide_not, dec_iff (show ¬ V.bl s = V.bl r ↔ s ≠ r from ⟨fun h e => h (by rw [e]), fun h e => h (V.bl.inj e)⟩)]; exact k⟩
/-- numbers from 0 on: the comparison without casts -/
theorem n_lt : ((a : Int) < (b : Int)) ↔ a < b := by omega
theorem n_le : ((a : Int) ≤ (b : Int)) ↔ a ≤ b := by omega
theorem n_eq : ((a : Int) = (b : Int)) ↔ a = b := by omega
theorem n_ne : ((a : Int) ≠ (b : Int)) ↔ a ≠ b := by omega
/-- a < b < c -/
theorem v_chain {r r' : R2} {b1 b2 : Bool} (ha : Val ta σ H x) (hb : Val tb σ H y) (hc : Val tc σ H z) (h1 : ∀ Q : VK, Q (.bl b1) H → r x y H Q) (h2 : ∀ Q : VK, Q (.bl b2) H → r' y z H Q) : Val (tChain r r' ta tb tc) σ H (.bl (b1 && b2)) := fun Q k => ha _ (hb _ (h1 _ ⟨b1, rfl, by
  cases b1 with
  | true => rw [if_pos rfl]; exact hc _ (h2 _ (by simpa using k))
  | false => rw [if_neg (by simp)]; simpa using k⟩))
/-! truths as tests -/
theorem t_of (h : Val te σ H (.bl b')) : Ans (tTest te) σ H b' := fun _ k => h _ ⟨_, rfl, k⟩
theorem t_ofB (h : Val te σ H (.bl b')) : Ans (tB te) σ H b' := fun _ k => h _ ⟨_, rfl, k⟩
theorem t_dec {b c : Bool} (h : Ans tt σ H b) (e : b = c) : Ans tt σ H c := e ▸ h
theorem t_iff [Decidable p] [Decidable q] (h : Ans tt σ H (decide p)) (e : p ↔ q) : Ans tt σ H (decide q) := t_dec h (dec_iff e)
theorem t_not [Decidable p] (h : Ans tt σ H (decide p)) : Ans (tNot tt) σ H (decide (¬ p)) := fun Q k => h _ (by rw [← decide_not]; exact k)
theorem t_and [Decidable p] [Decidable q] (h : Ans tt σ H (decide p)) (h2 : p → Ans tu σ H (decide q)) : Ans (tAnd tt tu) σ H (decide (p ∧ q)) := fun Q k => h _ (by
  by_cases hp : p
  · rw [decide_eq_true hp, if_pos rfl]
    exact h2 hp Q (by rw [dec_iff (show q ↔ p ∧ q from ⟨fun z => ⟨hp, z⟩, fun z => z.2⟩)]; exact k)
  · rw [decide_eq_false hp, if_neg (by simp)]
    rw [decide_eq_false (fun z => hp z.1)] at k
    exact k)
theorem t_or [Decidable p] [Decidable q] (h : Ans tt σ H (decide p)) (h2 : ¬ p → Ans tu σ H (decide q)) : Ans (tOr tt tu) σ H (decide (p ∨ q)) := fun Q k => h _ (by
  by_cases hp : p
  · rw [decide_eq_true hp, if_pos rfl]
    rw [decide_eq_true (Or.inl hp)] at k
    exact k
  · rw [decide_eq_false hp, if_neg (by simp)]
    exact h2 hp Q (by rw [dec_iff (show q ↔ p ∨ q from ⟨fun z => .inr z, fun z => z.resolve_left hp⟩)]; exact k))
/-! the same as values -/
theorem vt_not [Decidable p] (h : Val te σ H (.bl (decide p))) : Val (tNotV te) σ H (.bl (decide (¬ p))) := fun Q k => h _ ⟨_, rfl, by rw [← decide_not]; exact k⟩
theorem vt_and [Decidable p] [Decidable q] (h : Val ta σ H (.bl (decide p))) (h2 : p → Val tb σ H (.bl (decide q))) : Val (tAndV ta tb) σ H (.bl (decide (p ∧ q))) := fun Q k => h _ ⟨_, rfl, by
  by_cases hp : p
  · rw [decide_eq_true hp, if_pos rfl]
    exact h2 hp Q (by rw [dec_iff (show q ↔ p ∧ q from ⟨fun z => ⟨hp, z⟩, fun z => z.2⟩)]; exact k)
  · rw [decide_eq_false hp, if_neg (by simp)]
    rw [decide_eq_false (fun z => hp z.1)] at k
    exact k⟩
theorem vt_or [Decidable p] [Decidable q] (h : Val ta σ H (.bl (decide p))) (h2 : ¬ p → Val tb σ H (.bl (decide q))) : Val (tOrV ta tb) σ H (.bl (decide (p ∨ q))) := fun Q k => h _ ⟨_, rfl, by
  by_cases hp : p
  · rw [decide_eq_true hp, if_pos rfl]
    rw [decide_eq_true (Or.inl hp)] at k
    exact k
  · rw [decide_eq_false hp, if_neg (by simp)]
    exact h2 hp Q (by rw [dec_iff (show q ↔ p ∨ q from ⟨fun z => .inr z, fun z => z.resolve_left hp⟩)]; exact k)⟩
theorem v_if [Decidable p] (h : Ans tt σ H (decide p)) (h1 : p → Val ta σ H x) (h2 : ¬ p → Val tb σ H x) : Val (tIf tt ta tb) σ H x := fun Q k => h _ (by
  by_cases hp : p
  · rw [decide_eq_true hp, if_pos rfl]; exact h1 hp Q k
  · rw [decide_eq_false hp, if_neg (by simp)]; exact h2 hp Q k)
/-! calls -/
theorem e_call {sp : Sp} {E : XK} (h : tA σ H fun vs H1 => sp vs H1 Q E) : tCall sp [] E tA σ H Q := by
  show tA σ H fun vs H1 => sp (vs ++ []) H1 Q E
  simpa only [List.append_nil] using h
theorem a_nil {R : List V → Hp → Prop} (h : R [] H) : tNil σ H R := h
theorem a_cons {R : List V → Hp → Prop} (h : te σ H fun x H1 => tR σ H1 fun xs H2 => R (x :: xs) H2) : tCons te tR σ H R := h
theorem a_val {R : List V → Hp → Prop} (h : Val te σ H v) (k : tR σ H fun xs H2 => R (v :: xs) H2) : tCons te tR σ H R := h _ k
theorem v_cb1 {r : List V → Hp → VK → Prop} (ha : Val ta σ H x) (hr : ∀ Q : VK, Q z H → r [x] H Q) : Val (tCB r (tCons ta tNil)) σ H z := fun Q k => ha _ (hr Q k)
theorem v_cb2 {r : List V → Hp → VK → Prop} (ha : Val ta σ H x) (hb : Val tb σ H y) (hr : ∀ Q : VK, Q z H → r [x, y] H Q) : Val (tCB r (tCons ta (tCons tb tNil))) σ H z := fun Q k => ha _ (hb _ (hr Q k))
/-! statements -/
theorem q_seq (h : t { D with nx := u D } σ H) : tSeq t u D σ H := h
theorem q_sq (h : ∀ N : L2.St → Hp → Prop, (∀ σ' H', u D σ' H' → N σ' H') → t { D with nx := N } σ H) : tSeq t u D σ H := h _ fun _ _ z => z
theorem a_asg {i : Nat} (h : Val te σ H v) (q : D.nx (σ.set i (some v)) H) : tAsg te (gName i) D σ H := h _ q
theorem a_asgE {i : Nat} (h : te σ H fun v H1 => D.nx (σ.set i (some v)) H1) : tAsg te (gName i) D σ H := h
theorem a_ret (h : Val te σ H v) (q : D.rt v H) : tRet te D σ H := h _ q
theorem a_retE (h : te σ H D.rt) : tRet te D σ H := h
theorem a_dropE (h : te σ H fun _ H1 => D.nx σ H1) : tDrop te D σ H := h
theorem a_aug {i : Nat} {ti : TIp} (hx : σ[i]? = some (some x)) (h : Val te σ H y) (hr : ∀ Q : VK, Q z H → ti x y H Q) (q : D.nx (σ.set i (some z)) H) : tAug i te ti D σ H := ⟨x, hx, h _ (hr _ q)⟩
theorem a_if [Decidable p] (h : Ans tt σ H (decide p)) (h1 : p → t D σ H) (h2 : ¬ p → u D σ H) : tIfS tt t u D σ H := h _ (by
  by_cases hp : p
  · rw [decide_eq_true hp, if_pos rfl]; exact h1 hp
  · rw [decide_eq_false hp, if_neg (by simp)]; exact h2 hp)
theorem a_ifE (h : tt σ H fun b H1 => if b = true then t D σ H1 else u D σ H1) : tIfS tt t u D σ H := h
theorem ifP [Decidable p] {A B : Prop} (h : if p then A else B) (hp : p) : A := by rw [if_pos hp] at h; exact h
theorem ifN [Decidable p] {A B : Prop} (h : if p then A else B) (hp : ¬ p) : B := by rw [if_neg hp] at h; exact h
end
end Wk

namespace Wk
open PySem L2
/-! ### data that is compared -/
class Dat {α : Type} (e : Rep α) (lv : outParam Nat) where
  d : α → PyData
  dp : ∀ {K : PySem.W.Frag} {F : Hp} {v : V} {x : α}, e.r F v x → Dp K F v (d x)
  lay : ∀ x, (d x).canLay0 = true
  dep : ∀ x, (d x).depth ≤ lv
  inj : ∀ x y, PyData.eqv (d x) (d y) = true ↔ x = y
instance : Dat pI 0 := ⟨.int, fun h => by cases (show _ = V.int _ from h); exact .int _, fun _ => rfl, fun _ => Nat.le_refl _, fun x y => by
  show ((x == y) = true) ↔ _
  exact beq_iff_eq⟩
instance : Dat pN 0 := ⟨fun n => .int (n : Int), fun h => by cases (show _ = V.int _ from h); exact .int _, fun _ => rfl, fun _ => Nat.le_refl _, fun x y => by
  show (((x : Int) == (y : Int)) = true) ↔ _
  rw [beq_iff_eq]; omega⟩
instance : Dat pB 0 := ⟨.bool, fun h => by cases (show _ = V.bl _ from h); exact .bl _, fun _ => rfl, fun _ => Nat.le_refl _, fun x y => by
  show ((x == y) = true) ↔ _
  exact beq_iff_eq⟩
theorem lay_all {α : Type} {d : α → PyData} (h : ∀ x, (d x).canLay0 = true) : ∀ xs : List α, PyData.canLayAll0 (xs.map d) = true
  | [] => rfl
  | x :: xs => by show (PyData.canLay0 (d x) && PyData.canLayAll0 (xs.map d)) = true; rw [h x, lay_all h xs]; rfl
theorem dep_all {α : Type} {d : α → PyData} {n : Nat} (h : ∀ x, (d x).depth ≤ n) : ∀ xs : List α, PyData.depthAll (xs.map d) ≤ n
  | [] => Nat.zero_le _
  | x :: xs => by
    show PyData.depthAll (d x :: xs.map d) ≤ n
    have a := h x
    have b := dep_all h xs
    simp only [PyData.depthAll]
    omega
theorem eqv_all {α : Type} {d : α → PyData} (h : ∀ x y, PyData.eqv (d x) (d y) = true ↔ x = y) : ∀ xs ys : List α, PyData.eqvAll (xs.map d) (ys.map d) = true ↔ xs = ys
  | [], [] => ⟨fun _ => rfl, fun _ => rfl⟩
  | x :: xs, [] => ⟨fun q => (by cases q), fun q => (by cases q)⟩
  | [], y :: ys => ⟨fun q => (by cases q), fun q => (by cases q)⟩
  | x :: xs, y :: ys => by
    show (PyData.eqv (d x) (d y) && PyData.eqvAll (xs.map d) (ys.map d)) = true ↔ _
    rw [Bool.and_eq_true, h x y, eqv_all h xs ys, List.cons.injEq]
theorem dp_all {α : Type} {e : Rep α} {lv : Nat} [Dat e lv] {K : PySem.W.Frag} {F : Hp} : ∀ {vs : List V} {xs : List α}, All e F vs xs → DpAll K F vs (xs.map (Dat.d e))
  | [], [], _ => .nil
  | _ :: _, _ :: _, ⟨a, b⟩ => .cons (Dat.dp a) (dp_all b)
  | [], _ :: _, q => q.elim
  | _ :: _, [], q => q.elim
instance {α : Type} {e : Rep α} {n : Nat} [Dat e n] : Dat (pL e) (n + 1) := ⟨fun xs => .list (xs.map (Dat.d e)), fun {K F v xs} h => by
    obtain ⟨p, vs, rfl, hp, a⟩ := h
    exact .lst (SqL.of hp) (dp_all a), fun xs => lay_all (Dat.lay (e := e)) xs, fun xs => by
    have := dep_all (Dat.dep (e := e)) xs
    simp only [PyData.depth]
    omega, fun xs ys => by
    show PyData.eqvAll (xs.map (Dat.d e)) (ys.map (Dat.d e)) = true ↔ _
    exact eqv_all (Dat.inj (e := e)) xs ys⟩
instance {α : Type} {e : Rep α} {n : Nat} [Dat e n] : Dat (pTL e) (n + 1) := ⟨fun xs => .tuple (xs.map (Dat.d e)), fun {K F v xs} h => by
    obtain ⟨p, vs, rfl, hp, a⟩ := h
    exact .tup (SqT.of hp) (dp_all a), fun xs => lay_all (Dat.lay (e := e)) xs, fun xs => by
    have := dep_all (Dat.dep (e := e)) xs
    simp only [PyData.depth]
    omega, fun xs ys => by
    show PyData.eqvAll (xs.map (Dat.d e)) (ys.map (Dat.d e)) = true ↔ _
    exact eqv_all (Dat.inj (e := e)) xs ys⟩
instance {α β : Type} {e : Rep α} {f : Rep β} {n m : Nat} [Dat e n] [Dat f m] : Dat (pT2 e f) (max n m + 1) := ⟨fun x => .tuple [Dat.d e x.1, Dat.d f x.2], fun {K F v x} h => by
    obtain ⟨p, u, w, rfl, hp, a, b⟩ := h
    exact .tup (SqT.of hp) (.cons (Dat.dp a) (.cons (Dat.dp b) .nil)), fun x => by
    show (PyData.canLay0 (Dat.d e x.1) && (PyData.canLay0 (Dat.d f x.2) && PyData.canLayAll0 [])) = true
    rw [Dat.lay, Dat.lay]; rfl, fun x => by
    have a := Dat.dep (e := e) x.1
    have b := Dat.dep (e := f) x.2
    simp only [PyData.depth, PyData.depthAll]
    omega, fun x y => by
    show (PyData.eqv (Dat.d e x.1) (Dat.d e y.1) && (PyData.eqv (Dat.d f x.2) (Dat.d f y.2) && PyData.eqvAll [] [])) = true ↔ _
    have z : PyData.eqvAll [] [] = true := rfl
    rw [z, Bool.and_true, Bool.and_eq_true, Dat.inj, Dat.inj, Prod.ext_iff]⟩
theorem Dat.shp {α : Type} {e : Rep α} {n : Nat} [Dat e n] (h : n ≤ 64) (x : α) : SeqAt.shaped (Dat.d e x) = true := by
  unfold SeqAt.shaped
  rw [Dat.lay, decide_eq_true (Nat.le_trans (Dat.dep x) h)]; rfl
section
variable {α β : Type} {e : Rep α} {f : Rep β} {K : PySem.W.Frag} {σ : L2.St} {F0 H0 F F' H H' : Hp} {te tl ta tb : TE} {tt : TT} {tA : TA} {Q : VK} {v w u : V} {xs ys : List α} {x y : α} {D : Ends} {tu : TS} {p q : Addr} {n : Nat} {i : Int}
theorem c_eqD [DecidableEq α] [Dat e n] (ha : Val ta σ H v) (hb : Val tb σ H w) (f : Ex F H) (r : e.r F v x) (g : Ex F' H) (s : e.r F' w y) (h : n ≤ 64 := by decide) : Val (tOp (rEqD K) ta tb) σ H (.bl (decide (x = y))) :=
  v2 ha hb fun Q k => ⟨_, _, Dat.dp (e.mono f r), Dat.dp (e.mono g s), Dat.shp h x, Dat.shp h y, by
    have z : PyData.eqv (Dat.d e x) (Dat.d e y) = decide (x = y) := Bool.eq_iff_iff.mpr (by rw [Dat.inj, decide_eq_true_iff])
    rw [z]; exact k⟩
theorem c_neD [DecidableEq α] [Dat e n] (ha : Val ta σ H v) (hb : Val tb σ H w) (f : Ex F H) (r : e.r F v x) (g : Ex F' H) (s : e.r F' w y) (h : n ≤ 64 := by decide) : Val (tOp (rNeD K) ta tb) σ H (.bl (decide (x ≠ y))) :=
  v2 ha hb fun Q k => ⟨_, _, Dat.dp (e.mono f r), Dat.dp (e.mono g s), Dat.shp h x, Dat.shp h y, by
    have z : PyData.eqv (Dat.d e x) (Dat.d e y) = decide (x = y) := Bool.eq_iff_iff.mpr (by rw [Dat.inj, decide_eq_true_iff])
    rw [z, ← decide_not]; exact k⟩
/-! ### lists that are read -/
theorem XL.rd (z : XL e H0 F H p xs) : ∃ vs, H p = some (.lst vs) ∧ All e F vs xs := let ⟨vs, a, b⟩ := z.x; ⟨vs, a.h, b⟩
theorem L_rd (r : (pL e).r F v xs) (f : Ex F H) : ∃ p vs, v = .ref p ∧ H p = some (.lst vs) ∧ All e F vs xs := let ⟨p, vs, a, b, c⟩ := r; ⟨p, vs, a, f _ _ b, c⟩
theorem TL_rd (r : (pTL e).r F v xs) (f : Ex F H) : ∃ p vs, v = .ref p ∧ H p = some (.tup vs) ∧ All e F vs xs := let ⟨p, vs, a, b, c⟩ := r; ⟨p, vs, a, f _ _ b, c⟩
theorem ix_L (r : (pL e).r F v xs) (f : Ex F H) {i : Nat} (hx : xs[i]? = some x) : ∃ w, e.r F w x ∧ ∀ ⦃σ ta tb⦄, Val ta σ H v → Val tb σ H (.int (i : Int)) → Val (tOp (rIxL K) ta tb) σ H w := by
  obtain ⟨p, vs, rfl, hp, a⟩ := L_rd r f
  obtain ⟨w, h1, h2⟩ := a.get hx
  exact ⟨w, h2, fun _ _ _ ha hb => v2 ha hb fun Q k => ⟨p, vs, _, w, rfl, rfl, SqL.of hp, atI_nat h1, k⟩⟩
theorem ix_X (r : XL e H0 F H p xs) {i : Nat} (hx : xs[i]? = some x) : ∃ w, e.r F w x ∧ ∀ ⦃σ ta tb⦄, Val ta σ H (.ref p) → Val tb σ H (.int (i : Int)) → Val (tOp (rIxL K) ta tb) σ H w := by
  obtain ⟨vs, hp, a⟩ := r.rd
  obtain ⟨w, h1, h2⟩ := a.get hx
  exact ⟨w, h2, fun _ _ _ ha hb => v2 ha hb fun Q k => ⟨p, vs, _, w, rfl, rfl, SqL.of hp, atI_nat h1, k⟩⟩
theorem ix_TL (r : (pTL e).r F v xs) (f : Ex F H) {i : Nat} (hx : xs[i]? = some x) : ∃ w, e.r F w x ∧ ∀ ⦃σ ta tb⦄, Val ta σ H v → Val tb σ H (.int (i : Int)) → Val (tOp (rIxT K) ta tb) σ H w := by
  obtain ⟨p, vs, rfl, hp, a⟩ := TL_rd r f
  obtain ⟨w, h1, h2⟩ := a.get hx
  exact ⟨w, h2, fun _ _ _ ha hb => v2 ha hb fun Q k => ⟨p, vs, _, w, rfl, rfl, SqT.of hp, atI_nat h1, k⟩⟩
theorem ix_S (f : Ex F H) {ys : List Int} {i : Nat} {x : Int} (r : (pScr K).r F v ys) (hx : ys[i]? = some x) : ∀ ⦃σ ta tb⦄, Val ta σ H v → Val tb σ H (.int (i : Int)) → Val (tOp (rIxL K) ta tb) σ H (.int x) := by
  obtain ⟨p, rfl, s⟩ := (pScr K).mono f r
  exact fun _ _ _ ha hb => v2 ha hb fun Q k => ⟨p, _, _, .int x, rfl, rfl, s, atI_nat (by rw [List.getElem?_map, hx]; rfl), k⟩
theorem ix_2a {e : Rep α} {f : Rep β} {x : α × β} (r : (pT2 e f).r F v x) (h : Ex F H) : ∃ w, e.r F w x.1 ∧ ∀ ⦃σ ta tb⦄, Val ta σ H v → Val tb σ H (.int 0) → Val (tOp (rIxT K) ta tb) σ H w := by
  obtain ⟨p, u, w, rfl, hp, a, b⟩ := r
  exact ⟨u, a, fun _ _ _ ha hb => v2 ha hb fun Q k => ⟨p, _, _, u, rfl, rfl, SqT.of (h _ _ hp), rfl, k⟩⟩
theorem ix_2b {e : Rep α} {f : Rep β} {x : α × β} (r : (pT2 e f).r F v x) (h : Ex F H) : ∃ w, f.r F w x.2 ∧ ∀ ⦃σ ta tb⦄, Val ta σ H v → Val tb σ H (.int 1) → Val (tOp (rIxT K) ta tb) σ H w := by
  obtain ⟨p, u, w, rfl, hp, a, b⟩ := r
  exact ⟨w, b, fun _ _ _ ha hb => v2 ha hb fun Q k => ⟨p, _, _, w, rfl, rfl, SqT.of (h _ _ hp), rfl, k⟩⟩
/-! len -/
def rLen (K : PySem.W.Frag) : List V → Hp → VK → Prop := fun xs H Q => ∃ p ys, xs = [.ref p] ∧ (SqL K H p ys ∨ SqT K H p ys) ∧ Q (.int ys.length) H
theorem len_L (r : (pL e).r F v xs) (f : Ex F H) (ha : Val ta σ H v) : Val (tCB (rLen K) (tCons ta tNil)) σ H (.int ((xs.length : Nat) : Int)) := by
  obtain ⟨p, vs, rfl, hp, a⟩ := L_rd r f
  exact v_cb1 ha fun Q k => ⟨p, vs, rfl, .inl (SqL.of hp), by rw [a.len]; exact k⟩
theorem len_TL (r : (pTL e).r F v xs) (f : Ex F H) (ha : Val ta σ H v) : Val (tCB (rLen K) (tCons ta tNil)) σ H (.int ((xs.length : Nat) : Int)) := by
  obtain ⟨p, vs, rfl, hp, a⟩ := TL_rd r f
  exact v_cb1 ha fun Q k => ⟨p, vs, rfl, .inr (SqT.of hp), by rw [a.len]; exact k⟩
theorem len_X (r : XL e H0 F H p xs) (ha : Val ta σ H (.ref p)) : Val (tCB (rLen K) (tCons ta tNil)) σ H (.int ((xs.length : Nat) : Int)) := by
  obtain ⟨vs, hp, a⟩ := r.rd
  exact v_cb1 ha fun Q k => ⟨p, vs, rfl, .inl (SqL.of hp), by rw [a.len]; exact k⟩
theorem len_S {ys : List Int} (r : (pScr K).r F v ys) (f : Ex F H) (ha : Val ta σ H v) : Val (tCB (rLen K) (tCons ta tNil)) σ H (.int ((ys.length : Nat) : Int)) := by
  obtain ⟨p, rfl, s⟩ := (pScr K).mono f r
  exact v_cb1 ha fun Q k => ⟨p, _, rfl, .inl s, by rw [List.length_map]; exact k⟩
theorem len_T2 {e : Rep α} {f : Rep β} {x : α × β} (r : (pT2 e f).r F v x) (h : Ex F H) (ha : Val ta σ H v) : Val (tCB (rLen K) (tCons ta tNil)) σ H (.int ((2 : Nat) : Int)) := by
  obtain ⟨p, u, w, rfl, hp, a, b⟩ := r
  exact v_cb1 ha fun Q k => ⟨p, _, rfl, .inr (SqT.of (h _ _ hp)), k⟩
/-! ### new things -/
def kLst (Q : VK) (xs : List V) (H : Hp) : Prop := xs.length ≤ sizeLine ∧ ∀ p, H p = none → Q (.ref p) (upd H p (.lst xs))
def kTup (Q : VK) (xs : List V) (H : Hp) : Prop := xs.length ≤ sizeLine ∧ ∀ p, H p = none → Q (.ref p) (upd H p (.tup xs))
theorem small_len {n : Nat} (h : n < 1000000) : n < sizeLine := by rw [sizeLine_eq]; omega
theorem n_lstX {vs : List V} (a : All e F vs xs) (hl : xs.length < 1000000) (w : Wf F0 H0 F H) (k : ∀ p H', H p = none → Wf F H F H' → XL e H0 F H' p xs → Q (.ref p) H') :
    kLst Q vs H := ⟨by rw [a.len]; exact Nat.le_of_lt (small_len hl), fun p hp => k p _ hp (Wf.newX w.f hp) ⟨vs, Xc.mk' w hp, a⟩⟩
theorem n_lst {vs : List V} (a : All e F vs xs) (hl : xs.length < 1000000) (w : Wf F0 H0 F H) (k : ∀ p F' H', Wf F H F' H' → (pL e).r F' (.ref p) xs → Q (.ref p) H') :
    kLst Q vs H := ⟨by rw [a.len]; exact Nat.le_of_lt (small_len hl), fun p hp => k p _ _ (Wf.new w.f hp) ⟨p, vs, rfl, upd_same, a.mono (Ex.new (w.f.non hp))⟩⟩
theorem n_tup2 {e : Rep α} {f : Rep β} {x : α} {y : β} (a : e.r F v x) (b : f.r F w y) (h : Wf F0 H0 F H) (k : ∀ p F' H', Wf F H F' H' → (pT2 e f).r F' (.ref p) (x, y) → Q (.ref p) H') :
    kTup Q [v, w] H := ⟨Nat.le_of_lt (small_len (n := 2) (by decide)), fun p hp => k p _ _ (Wf.new h.f hp) ⟨p, v, w, rfl, upd_same, e.mono (Ex.new (h.f.non hp)) a, f.mono (Ex.new (h.f.non hp)) b⟩⟩
/-- one's own list is changed no more -/
theorem XL.frzE (x : XL e H0 F H p xs) (w : Wf F0 H0 F H) : ∃ F', Wf F0 H0 F' H ∧ Ex F F' ∧ (pL e).r F' (.ref p) xs ∧ (∀ q o, Xc H0 F H q o → q ≠ p → Xc H0 F' H q o) := by
  obtain ⟨vs, a, b⟩ := x.x
  exact ⟨_, w.freeze a, Ex.new a.n, ⟨p, vs, rfl, upd_same, b.mono (Ex.new a.n)⟩, fun q o z h => z.frz a h⟩
/-- for a while one's own list is read by others -/
theorem XL.lend (x : XL e H0 F H p xs) (w : Wf F0 H0 F H) : ∃ F', Ex F' H ∧ Ex F F' ∧ (pL e).r F' (.ref p) xs := let ⟨F', a, b, c, _⟩ := x.frzE w; ⟨F', a.f, b, c⟩
/-! append, and the like -/
theorem a_app (x : XL e H0 F H p xs) (w : Wf F0 H0 F H) (hl : xs.length < 1000000) (r : e.r F v y) (k : ∀ H', Wf F0 H0 F H' → XL e H0 F H' p (xs ++ [y]) → (∀ q o, H q = some o → q ≠ p → H' q = some o) → Q .non H') : rAppend (.ref p) [v] H Q := by
  obtain ⟨vs, a, b⟩ := x.x
  exact ⟨p, vs, v, rfl, rfl, a.h, by rw [b.len]; exact small_len hl, k _ (w.set a) ⟨_, a.set, b.snoc r⟩ fun q o h hq => by rw [upd_ne hq]; exact h⟩
/-- another's place is as it was -/
theorem Xc.kept {o : HO} (x : Xc H0 F H q o) (h : ∀ q o, H q = some o → q ≠ p → H' q = some o) (hq : q ≠ p) : Xc H0 F H' q o := ⟨x.z, x.n, h _ _ x.h hq⟩
theorem XL.kept (x : XL e H0 F H q xs) (h : ∀ q o, H q = some o → q ≠ p → H' q = some o) (hq : q ≠ p) : XL e H0 F H' q xs := let ⟨vs, a, b⟩ := x.x; ⟨vs, a.kept h hq, b⟩
/-! ### loops -/
variable {S : Type} {R : Type} {g : TG} {tb : TS} {body : β → S → (S → Prop) → (S → Prop) → Prop} {s0 : S} {k : S → Prop} {vs : List V} {zs : List β} {b : Rep β}
/-- over a list that stays -/
theorem w_forL (Inv : S → L2.St → Hp → Hp → Prop) (r : (pL b).r F v zs) (hW : forW zs s0 body k) (h0 : Inv s0 σ F H)
    (ex : ∀ s σ' F' H', Inv s σ' F' H' → Ex F F' ∧ Ex F' H') (f : Ex F H)
    (turn : ∀ (N Bk : L2.St → Hp → Prop) x u s σ' F' H' (nx bk : S → Prop), Inv s σ' F' H' → x ∈ zs → b.r F' u x → body x s nx bk → (∀ s' σ2 F2 H2, Inv s' σ2 F2 H2 → nx s' → N σ2 H2) → (∀ s' σ2 F2 H2, Inv s' σ2 F2 H2 → bk s' → Bk σ2 H2) →
      g u σ' H' fun σ2 H2 => tb { D with nx := N, ct := N, bk := Bk } σ2 H2)
    (done : ∀ s σ' F' H', Inv s σ' F' H' → k s → D.nx σ' H') :
    ∃ a, v = .ref a ∧ (∃ xs, SqL K H a xs) ∧ (fun J H1 => ∃ W : Nat → Nat → L2.St → Hp → Prop, (∃ m, W 0 m σ H1) ∧ ∀ i m σ H, W i m σ H →
      (J.stop i H ∧ D.nx σ H) ∨ (J.go i H ∧ ∃ N : L2.St → Hp → Prop, (∀ σ' H', N σ' H' → ∃ m', m' < m ∧ W (i + 1) m' σ' H') ∧ ∀ x H', J.yld i H x H' → g x σ H' fun σ2 H2 => tb { D with nx := N, ct := N, bk := D.nx } σ2 H2)) (Itl K a) H := by
  obtain ⟨p, vs, rfl, hp, a⟩ := r
  refine ⟨p, rfl, ⟨_, SqL.of (f _ _ hp)⟩, for_list (xs := vs) (fun i σ' H' => ∃ s F', Inv s σ' F' H' ∧ forW (zs.drop i) s body k) ⟨s0, F, h0, hW⟩ (fun i σ' H' _ ⟨s, F', hI, _⟩ => SqL.of ((ex _ _ _ _ hI).2 _ _ ((ex _ _ _ _ hI).1 _ _ hp))) ?_ ?_⟩
  · rintro i u σ' H' hu ⟨s, F', hI, hw⟩
    obtain ⟨x, hx, rx⟩ := a.got hu
    have e : zs.drop i = x :: zs.drop (i + 1) := by
      obtain ⟨h1, h2⟩ := List.getElem?_eq_some_iff.mp hx
      rw [← h2]; exact List.drop_eq_getElem_cons h1
    rw [e] at hw
    exact turn _ _ x u s σ' F' H' _ _ hI (List.mem_of_getElem? hx) (b.mono (ex _ _ _ _ hI).1 rx) hw (fun s' σ2 F2 H2 q n => ⟨s', F2, q, n⟩) (fun s' σ2 F2 H2 q n => done s' σ2 F2 H2 q n)
  · rintro σ' H' ⟨s, F', hI, hw⟩
    rw [List.drop_of_length_le (by rw [a.len]; exact Nat.le_refl _)] at hw
    exact done _ _ _ _ hI hw
/-- over range(n) -/
theorem w_forR {n : Nat} {body : Nat → S → (S → Prop) → (S → Prop) → Prop} (Inv : S → L2.St → Hp → Hp → Prop) (hn : n < 1000000) (hW : forW (List.range n) s0 body k) (h0 : Inv s0 σ F H)
    (turn : ∀ (N Bk : L2.St → Hp → Prop) (x : Nat) s σ' F' H' (nx bk : S → Prop), Inv s σ' F' H' → x < n → body x s nx bk → (∀ s' σ2 F2 H2, Inv s' σ2 F2 H2 → nx s' → N σ2 H2) → (∀ s' σ2 F2 H2, Inv s' σ2 F2 H2 → bk s' → Bk σ2 H2) →
      g (.int (x : Int)) σ' H' fun σ2 H2 => tb { D with nx := N, ct := N, bk := Bk } σ2 H2)
    (done : ∀ s σ' F' H', Inv s σ' F' H' → k s → D.nx σ' H') :
    ∃ j : Int, [V.int (n : Int)] = [.int j] ∧ -(2 ^ 62) ≤ j ∧ j < 2 ^ 62 ∧ (fun J H1 => ∃ W : Nat → Nat → L2.St → Hp → Prop, (∃ m, W 0 m σ H1) ∧ ∀ i m σ H, W i m σ H →
      (J.stop i H ∧ D.nx σ H) ∨ (J.go i H ∧ ∃ N : L2.St → Hp → Prop, (∀ σ' H', N σ' H' → ∃ m', m' < m ∧ W (i + 1) m' σ' H') ∧ ∀ x H', J.yld i H x H' → g x σ H' fun σ2 H2 => tb { D with nx := N, ct := N, bk := D.nx } σ2 H2)) (Itr 0 j.toNat) H := by
  refine ⟨(n : Int), rfl, by omega, by omega, for_range (lo := 0) (n := n) (fun i σ' H' => ∃ s F', Inv s σ' F' H' ∧ forW ((List.range n).drop i) s body k) ⟨s0, F, h0, hW⟩ ?_ ?_⟩
  · rintro i σ' H' hi ⟨s, F', hI, hw⟩
    have e : (List.range n).drop i = i :: (List.range n).drop (i + 1) := by
      have h1 : i < (List.range n).length := by rw [List.length_range]; exact hi
      rw [List.drop_eq_getElem_cons h1, List.getElem_range]
    rw [e] at hw
    have z : (0 : Int) + (i : Int) = (i : Int) := Int.zero_add _
    rw [z]
    exact turn _ _ i s σ' F' H' _ _ hI hi hw (fun s' σ2 F2 H2 q n => ⟨s', F2, q, n⟩) (fun s' σ2 F2 H2 q n => done s' σ2 F2 H2 q n)
  · rintro σ' H' ⟨s, F', hI, hw⟩
    rw [List.drop_of_length_le (by rw [List.length_range]; exact Nat.le_refl _)] at hw
    exact done _ _ _ _ hI hw
/-- while -/
theorem w_while {test : S → (Bool → Prop) → Prop} {body : S → (S → Prop) → (S → Prop) → Prop} (Inv : S → L2.St → Hp → Hp → Prop) (hW : whileW test body s0 k) (h0 : Inv s0 σ F H)
    (cond : ∀ s σ' F' H' (T : Bool → Prop) (Qc : Bool → Hp → Prop), Inv s σ' F' H' → test s T → (∀ b F2 H2, Inv s σ' F2 H2 → T b → Qc b H2) → tt σ' H' Qc)
    (turn : ∀ (N Bk : L2.St → Hp → Prop) s σ' F' H' (nx bk : S → Prop), Inv s σ' F' H' → body s nx bk → (∀ s' σ2 F2 H2, Inv s' σ2 F2 H2 → nx s' → N σ2 H2) → (∀ s' σ2 F2 H2, Inv s' σ2 F2 H2 → bk s' → Bk σ2 H2) →
      tb { D with nx := N, ct := N, bk := Bk } σ' H')
    (done : ∀ s σ' F' H', Inv s σ' F' H' → k s → D.nx σ' H') : tWhile tt tb D σ H := by
  obtain ⟨I, ⟨m0, hm⟩, hs⟩ := hW
  refine ⟨fun m σ' H' => ∃ s F', Inv s σ' F' H' ∧ I m s, ⟨m0, s0, F, h0, hm⟩, ?_⟩
  rintro m σ' H' ⟨s, F', hI, im⟩
  refine cond s σ' F' H' _ _ hI (hs m s im) fun b F2 H2 hI2 hb => ?_
  cases b with
  | true =>
    rw [if_pos rfl] at hb ⊢
    exact ⟨_, fun _ _ q => q, turn (fun σ2 H2 => ∃ m', m' < m ∧ ∃ s' F', Inv s' σ2 F' H2 ∧ I m' s') _ s σ' F2 H2 _ _ hI2 hb (fun s' σ2 F3 H3 q ⟨m', l, i⟩ => ⟨m', l, s', F3, q, i⟩) (fun s' σ2 F3 H3 q n => done s' σ2 F3 H3 q n)⟩
  | false =>
    rw [if_neg (by simp)] at hb ⊢
    exact done s σ' F2 H2 hI2 hb
/-- ways that meet again -/
def jn {S : Type} (f : (S → Prop) → Prop) (k : S → Prop) : Prop := f k
theorem q_jn {f : (S → Prop) → Prop} {t u : TS} (hW : jn f k) (Inv : S → L2.St → Hp → Hp → Prop)
    (h1 : ∀ N : L2.St → Hp → Prop, (∀ s σ' F' H', Inv s σ' F' H' → k s → N σ' H') → f k → t { D with nx := N } σ H) (h2 : ∀ s σ' F' H', Inv s σ' F' H' → k s → u D σ' H') : tSeq t u D σ H :=
  h1 (u D) (fun s σ' F' H' q n => h2 s σ' F' H' q n) hW
theorem e_jn {f : (S → Prop) → Prop} {Qt : Bool → Hp → Prop} (hW : jn f k) (Inv : S → Bool → Hp → Hp → Prop)
    (h1 : ∀ N : Bool → Hp → Prop, (∀ s b F' H', Inv s b F' H' → k s → N b H') → f k → tt σ H N) (h2 : ∀ s b F' H', Inv s b F' H' → k s → Qt b H') : tt σ H Qt :=
  h1 Qt (fun s σ' F' H' q n => h2 s σ' F' H' q n) hW
/-! ### comprehensions -/
/-- what a comprehension asks of its source's value -/
def kCpL (K : PySem.W.Frag) (g : TG) (tc : TT) (te : TE) (vs : List Nat) (σ : L2.St) (Q : VK) (v : V) (H : Hp) : Prop := ∃ a, v = .ref a ∧ (∃ xs, SqL K H a xs) ∧ (fun J H1 => ∀ D, H1 D = none → ∃ W : Nat → Nat → Hp → Prop, (∃ m, W 0 m (upd H1 D (.lst []))) ∧ ∀ i m H, W i m H →
      (J.stop i H ∧ Q (.ref D) H) ∨ (J.go i H ∧ ∃ Nx : Hp → Prop, (∀ H', Nx H' → ∃ m', m' < m ∧ W (i + 1) m' H') ∧ ∀ x H', J.yld i H x H' → g x (wipe σ vs) H' fun σ2 H2 => wipe σ2 vs = wipe σ vs ∧ tc σ2 H2 fun b H3 =>
        if b = true then te σ2 H3 fun y H4 => ∃ acc, H4 D = some (.lst acc) ∧ acc.length < sizeLine ∧ Nx (upd H4 D (.lst (acc ++ [y]))) else Nx H3)) (Itl K a) H
def kCpR (g : TG) (tc : TT) (te : TE) (vs : List Nat) (σ : L2.St) (Q : VK) (v : V) (H : Hp) : Prop := ∃ j : Int, [v] = [.int j] ∧ -(2 ^ 62) ≤ j ∧ j < 2 ^ 62 ∧ (fun J H1 => ∀ D, H1 D = none → ∃ W : Nat → Nat → Hp → Prop, (∃ m, W 0 m (upd H1 D (.lst []))) ∧ ∀ i m H, W i m H →
      (J.stop i H ∧ Q (.ref D) H) ∨ (J.go i H ∧ ∃ Nx : Hp → Prop, (∀ H', Nx H' → ∃ m', m' < m ∧ W (i + 1) m' H') ∧ ∀ x H', J.yld i H x H' → g x (wipe σ vs) H' fun σ2 H2 => wipe σ2 vs = wipe σ vs ∧ tc σ2 H2 fun b H3 =>
        if b = true then te σ2 H3 fun y H4 => ∃ acc, H4 D = some (.lst acc) ∧ acc.length < sizeLine ∧ Nx (upd H4 D (.lst (acc ++ [y]))) else Nx H3)) (Itr 0 j.toNat) H
theorem w_compC {ws : List V} {tc : TT} {vs : List Nat} {bd : β → (Option α → Prop) → Prop} {kk : List α → Prop} (hp : H p = some (.lst ws)) (a : All b F ws zs) (w : Wf F0 H0 F H) (hn : zs.length < 1000000) (hW : compW zs bd kk)
    (turn : ∀ (Qy : V → Hp → Prop) (Qn : Hp → Prop) x u F1 H1 (R : Option α → Prop), Wf F H F1 H1 → x ∈ zs → b.r F1 u x → bd x R → (∀ y z F2 H2, Wf F1 H1 F2 H2 → e.r F2 y z → R (some z) → Qy y H2) → (∀ F2 H2, Wf F1 H1 F2 H2 → R none → Qn H2) →
      g u (wipe σ vs) H1 fun σ2 H2 => wipe σ2 vs = wipe σ vs ∧ tc σ2 H2 fun b H3 => if b = true then te σ2 H3 Qy else Qn H3)
    (done : ∀ p ys F' H', H p = none → Wf F H F' H' → XL e H0 F' H' p ys → kk ys → Q (.ref p) H') :
    kCpL K g tc te vs σ Q (V.ref p) H := by
  unfold kCpL
  refine ⟨p, rfl, ⟨_, SqL.of hp⟩, fun D hD => lc_list (xs := ws) (fun i H' => ∃ F' ac ys, Wf F H F' H' ∧ Xc H F' H' D (.lst ac) ∧ All e F' ac ys ∧ ys.length ≤ i ∧ compG (zs.drop i) ys bd kk)
    ⟨F, [], [], Wf.newX w.f hD, Xc.mk' (Wf.id w.f) hD, trivial, Nat.le_refl _, hW⟩ (fun i H' _ ⟨F', ac, ys, q, _⟩ => SqL.of (q.h _ _ hp)) ?_ ?_⟩
  · rintro i u H' hu ⟨F', ac, ys, q, xc, al, hl, hw⟩
    obtain ⟨x, hx, rx⟩ := a.got hu
    obtain ⟨h1, h2⟩ := List.getElem?_eq_some_iff.mp hx
    have e' : zs.drop i = x :: zs.drop (i + 1) := by rw [← h2]; exact List.drop_eq_getElem_cons h1
    rw [e'] at hw
    refine turn _ _ x u F' H' _ q (List.mem_of_getElem? hx) (b.mono q.g rx) hw (fun y z F2 H2 s ry hR => ?_) (fun F2 H2 s hR => ?_)
    · have xc2 := xc.step s
      exact ⟨ac, xc2.h, by rw [al.len]; exact small_len (by omega), F2, ac ++ [y], ys ++ [z], (q.tr s).set xc2, xc2.set, (al.mono s.g).snoc ry, by rw [List.length_append]; exact Nat.succ_le_succ hl, hR⟩
    · exact ⟨F2, ac, ys, q.tr s, xc.step s, al.mono s.g, Nat.le_succ_of_le hl, by simpa using hR⟩
  · rintro H' ⟨F', ac, ys, q, xc, al, hl, hw⟩
    rw [List.drop_of_length_le (by rw [a.len]; exact Nat.le_refl _)] at hw
    exact done D ys F' H' hD q ⟨ac, ⟨w.h.non hD, xc.n, xc.h⟩, al⟩ hw
theorem w_compL {tc : TT} {vs : List Nat} {bd : β → (Option α → Prop) → Prop} {kk : List α → Prop} (r : (pL b).r F v zs) (w : Wf F0 H0 F H) (hn : zs.length < 1000000) (hW : compW zs bd kk)
    (turn : ∀ (Qy : V → Hp → Prop) (Qn : Hp → Prop) x u F1 H1 (R : Option α → Prop), Wf F H F1 H1 → x ∈ zs → b.r F1 u x → bd x R → (∀ y z F2 H2, Wf F1 H1 F2 H2 → e.r F2 y z → R (some z) → Qy y H2) → (∀ F2 H2, Wf F1 H1 F2 H2 → R none → Qn H2) →
      g u (wipe σ vs) H1 fun σ2 H2 => wipe σ2 vs = wipe σ vs ∧ tc σ2 H2 fun b H3 => if b = true then te σ2 H3 Qy else Qn H3)
    (done : ∀ p ys F' H', H p = none → Wf F H F' H' → XL e H0 F' H' p ys → kk ys → Q (.ref p) H') :
    kCpL K g tc te vs σ Q v H := by
  obtain ⟨p, ws, rfl, hp, a⟩ := r
  exact w_compC (w.f _ _ hp) a w hn hW turn done
theorem w_compX {tc : TT} {vs : List Nat} {bd : β → (Option α → Prop) → Prop} {kk : List α → Prop} (r : XL b H0 F H p zs) (w : Wf F0 H0 F H) (hn : zs.length < 1000000) (hW : compW zs bd kk)
    (turn : ∀ (Qy : V → Hp → Prop) (Qn : Hp → Prop) x u F1 H1 (R : Option α → Prop), Wf F H F1 H1 → x ∈ zs → b.r F1 u x → bd x R → (∀ y z F2 H2, Wf F1 H1 F2 H2 → e.r F2 y z → R (some z) → Qy y H2) → (∀ F2 H2, Wf F1 H1 F2 H2 → R none → Qn H2) →
      g u (wipe σ vs) H1 fun σ2 H2 => wipe σ2 vs = wipe σ vs ∧ tc σ2 H2 fun b H3 => if b = true then te σ2 H3 Qy else Qn H3)
    (done : ∀ p ys F' H', H p = none → Wf F H F' H' → XL e H0 F' H' p ys → kk ys → Q (.ref p) H') :
    kCpL K g tc te vs σ Q (V.ref p) H := by
  obtain ⟨ws, hp, a⟩ := r.rd
  exact w_compC hp a w hn hW turn done
theorem w_compR {tc : TT} {vs : List Nat} {n : Nat} {bd : Nat → (Option α → Prop) → Prop} {kk : List α → Prop} (w : Wf F0 H0 F H) (hn : n < 1000000) (hW : compW (List.range n) bd kk)
    (turn : ∀ (Qy : V → Hp → Prop) (Qn : Hp → Prop) (x : Nat) F1 H1 (R : Option α → Prop), Wf F H F1 H1 → x < n → bd x R → (∀ y z F2 H2, Wf F1 H1 F2 H2 → e.r F2 y z → R (some z) → Qy y H2) → (∀ F2 H2, Wf F1 H1 F2 H2 → R none → Qn H2) →
      g (.int (x : Int)) (wipe σ vs) H1 fun σ2 H2 => wipe σ2 vs = wipe σ vs ∧ tc σ2 H2 fun b H3 => if b = true then te σ2 H3 Qy else Qn H3)
    (done : ∀ p ys F' H', H p = none → Wf F H F' H' → XL e H0 F' H' p ys → kk ys → Q (.ref p) H') :
    kCpR g tc te vs σ Q (.int (n : Int)) H := by
  unfold kCpR
  refine ⟨(n : Int), rfl, by omega, by omega, fun D hD => lc_range (lo := 0) (n := n) (fun i H' => ∃ F' ac ys, Wf F H F' H' ∧ Xc H F' H' D (.lst ac) ∧ All e F' ac ys ∧ ys.length ≤ i ∧ compG ((List.range n).drop i) ys bd kk)
    ⟨F, [], [], Wf.newX w.f hD, Xc.mk' (Wf.id w.f) hD, trivial, Nat.le_refl _, hW⟩ ?_ ?_⟩
  · rintro i H' hi ⟨F', ac, ys, q, xc, al, hl, hw⟩
    have e' : (List.range n).drop i = i :: (List.range n).drop (i + 1) := by
      have h1 : i < (List.range n).length := by rw [List.length_range]; exact hi
      rw [List.drop_eq_getElem_cons h1, List.getElem_range]
    rw [e'] at hw
    have z : (0 : Int) + (i : Int) = (i : Int) := Int.zero_add _
    rw [z]
    refine turn _ _ i F' H' _ q hi hw (fun y z F2 H2 s ry hR => ?_) (fun F2 H2 s hR => ?_)
    · have xc2 := xc.step s
      exact ⟨ac, xc2.h, by rw [al.len]; exact small_len (by omega), F2, ac ++ [y], ys ++ [z], (q.tr s).set xc2, xc2.set, (al.mono s.g).snoc ry, by rw [List.length_append]; exact Nat.succ_le_succ hl, hR⟩
    · exact ⟨F2, ac, ys, q.tr s, xc.step s, al.mono s.g, Nat.le_succ_of_le hl, by simpa using hR⟩
  · rintro H' ⟨F', ac, ys, q, xc, al, hl, hw⟩
    rw [List.drop_of_length_le (by rw [List.length_range]; exact Nat.le_refl _)] at hw
    exact done D ys F' H' hD q ⟨ac, ⟨w.h.non hD, xc.n, xc.h⟩, al⟩ hw
end
end Wk

namespace Wk
open PySem L2
section
variable {X : Cx} {σ : L2.St} {H : Hp} {te tl ta tb : TE} {tt tc : TT} {tA : TA} {Q : VK} {v w x y z : V} {D : Ends} {tu : TS} {g : TG} {K : PySem.W.Frag} {p q : Prop}
theorem f_L (h : Val tl σ H v) (k : ∃ a, v = .ref a ∧ (∃ xs, SqL K H a xs) ∧ (fun J H1 => ∃ W : Nat → Nat → L2.St → Hp → Prop, (∃ m, W 0 m σ H1) ∧ ∀ i m σ H, W i m σ H →
      (J.stop i H ∧ D.nx σ H) ∨ (J.go i H ∧ ∃ N : L2.St → Hp → Prop, (∀ σ' H', N σ' H' → ∃ m', m' < m ∧ W (i + 1) m' σ' H') ∧ ∀ x H', J.yld i H x H' → g x σ H' fun σ2 H2 => tu { D with nx := N, ct := N, bk := D.nx } σ2 H2)) (Itl K a) H) : tFor (iList K tl) g tu D σ H := h _ k
theorem f_LE (h : tl σ H fun v H => ∃ a, v = .ref a ∧ (∃ xs, SqL K H a xs) ∧ (fun J H1 => ∃ W : Nat → Nat → L2.St → Hp → Prop, (∃ m, W 0 m σ H1) ∧ ∀ i m σ H, W i m σ H →
      (J.stop i H ∧ D.nx σ H) ∨ (J.go i H ∧ ∃ N : L2.St → Hp → Prop, (∀ σ' H', N σ' H' → ∃ m', m' < m ∧ W (i + 1) m' σ' H') ∧ ∀ x H', J.yld i H x H' → g x σ H' fun σ2 H2 => tu { D with nx := N, ct := N, bk := D.nx } σ2 H2)) (Itl K a) H) : tFor (iList K tl) g tu D σ H := h
theorem f_R (h : Val te σ H v) (k : ∃ j : Int, [v] = [.int j] ∧ -(2 ^ 62) ≤ j ∧ j < 2 ^ 62 ∧ (fun J H1 => ∃ W : Nat → Nat → L2.St → Hp → Prop, (∃ m, W 0 m σ H1) ∧ ∀ i m σ H, W i m σ H →
      (J.stop i H ∧ D.nx σ H) ∨ (J.go i H ∧ ∃ N : L2.St → Hp → Prop, (∀ σ' H', N σ' H' → ∃ m', m' < m ∧ W (i + 1) m' σ' H') ∧ ∀ x H', J.yld i H x H' → g x σ H' fun σ2 H2 => tu { D with nx := N, ct := N, bk := D.nx } σ2 H2)) (Itr 0 j.toNat) H) : tFor (iRng1 (tCons te tNil)) g tu D σ H := h _ k
theorem f_RE (h : te σ H fun v H => ∃ j : Int, [v] = [.int j] ∧ -(2 ^ 62) ≤ j ∧ j < 2 ^ 62 ∧ (fun J H1 => ∃ W : Nat → Nat → L2.St → Hp → Prop, (∃ m, W 0 m σ H1) ∧ ∀ i m σ H, W i m σ H →
      (J.stop i H ∧ D.nx σ H) ∨ (J.go i H ∧ ∃ N : L2.St → Hp → Prop, (∀ σ' H', N σ' H' → ∃ m', m' < m ∧ W (i + 1) m' σ' H') ∧ ∀ x H', J.yld i H x H' → g x σ H' fun σ2 H2 => tu { D with nx := N, ct := N, bk := D.nx } σ2 H2)) (Itr 0 j.toNat) H) : tFor (iRng1 (tCons te tNil)) g tu D σ H := h
theorem c_LE {vs : List Nat} (h : tl σ H (kCpL K g tc te vs σ Q)) : tLc (iList K tl) g tc te vs σ H Q := h
theorem c_RE {vs : List Nat} (h : ta σ H (kCpR g tc te vs σ Q)) : tLc (iRng1 (tCons ta tNil)) g tc te vs σ H Q := h
theorem c_yes {A B : Hp → Prop} (h : A H) : tYes σ H fun b H3 => if b = true then A H3 else B H3 := by show if true = true then A H else B H; rw [if_pos rfl]; exact h
theorem c_if [Decidable p] {A B : Hp → Prop} (h : Ans tt σ H (decide p)) (h1 : p → A H) (h2 : ¬ p → B H) : tt σ H fun b H3 => if b = true then A H3 else B H3 := h _ (by
  by_cases hp : p
  · rw [decide_eq_true hp, if_pos rfl]; exact h1 hp
  · rw [decide_eq_false hp, if_neg (by simp)]; exact h2 hp)
theorem b_if {p : Prop} [Decidable p] {A B : Prop} (h1 : p → A) (h2 : ¬ p → B) : if decide p = true then A else B := by
  by_cases hp : p
  · rw [decide_eq_true hp, if_pos rfl]; exact h1 hp
  · rw [decide_eq_false hp, if_neg (by simp)]; exact h2 hp
theorem bb_if {b : Bool} {A B : Prop} (h1 : b = true → A) (h2 : ¬ b = true → B) : if b = true then A else B := by
  by_cases hp : b = true
  · rw [if_pos hp]; exact h1 hp
  · rw [if_neg hp]; exact h2 hp
theorem e_op {r : R2} (h : ta σ H fun x H1 => tb σ H1 fun y H2 => r x y H2 Q) : tOp r ta tb σ H Q := h
theorem rv2 {r : R2} (h : Val (tOp r (tC x) (tC y)) [] H z) (q : Q z H) : r x y H Q := h Q q
theorem rv2T {r : R2} {b : Bool} {Qt : Bool → Hp → Prop} (h : Val (tOp r (tC x) (tC y)) [] H (.bl b)) (q : Qt b H) : r x y H (fun x H' => ∃ k, x = .bl k ∧ Qt k H') := h _ ⟨b, rfl, q⟩
theorem rcb1 {r : List V → Hp → VK → Prop} (h : Val (tCB r (tCons (tC x) tNil)) [] H z) (q : Q z H) : r [x] H Q := h Q q
theorem rcb2 {r : List V → Hp → VK → Prop} (h : Val (tCB r (tCons (tC x) (tCons (tC y) tNil))) [] H z) (q : Q z H) : r [x, y] H Q := h Q q
theorem e_cb {r : List V → Hp → VK → Prop} (h : tA σ H fun vs H1 => r vs H1 Q) : tCB r tA σ H Q := h
theorem e_tB {Qt : Bool → Hp → Prop} (h : te σ H fun x H1 => ∃ c, x = .bl c ∧ Qt c H1) : tB te σ H Qt := h
theorem e_tT {Qt : Bool → Hp → Prop} (h : te σ H fun x H1 => ∃ c, x = .bl c ∧ Qt c H1) : tTest te σ H Qt := h
theorem e_bl {Qt : Bool → Hp → Prop} {b : Bool} (h : Qt b H) : ∃ c, V.bl b = .bl c ∧ Qt c H := ⟨b, rfl, h⟩
theorem e_tNot {Qt : Bool → Hp → Prop} (h : tt σ H fun c H1 => Qt (!c) H1) : tNot tt σ H Qt := h
theorem e_ans {Qt : Bool → Hp → Prop} {b : Bool} (h : Ans tt σ H b) (q : Qt b H) : tt σ H Qt := h Qt q
theorem e_tup (h : tA σ H (kTup Q)) : tTup tA σ H Q := h
theorem e_lst (h : tA σ H (kLst Q)) : tLst tA σ H Q := h
theorem a_asgG (h : te σ H fun v H1 => g v σ H1 D.nx) : tAsg te g D σ H := h
theorem a_augE {i : Nat} {ti : TIp} (hx : σ[i]? = some (some x)) (h : te σ H fun y H1 => ti x y H1 fun z H2 => D.nx (σ.set i (some z)) H2) : tAug i te ti D σ H := ⟨x, hx, h⟩
theorem a_augV {i : Nat} {ti : TIp} (hx : σ[i]? = some (some x)) (h : Val te σ H y) (hv : Val (tOp ti (tC x) (tC y)) [] H z) (q : D.nx (σ.set i (some z)) H) : tAug i te ti D σ H := ⟨x, hx, h _ (hv _ q)⟩
theorem XL.base {α : Type} {e : Rep α} {F0 H0 F F' H' : Hp} {p : Addr} {xs : List α} (x : XL e H F' H' p xs) (w : Wf F0 H0 F H) : XL e H0 F' H' p xs := let ⟨vs, a, b⟩ := x.x; ⟨vs, ⟨w.h.non a.z, a.n, a.h⟩, b⟩
end
/-- a def that may be called -/
structure Fn (P : Program) (w : World) (K : PySem.W.Frag) (mg : Str → Option Value) (base : Heap) (CX : CXT) (k : Nat) (x : Str) (ps : List Str) (sp : Sp) : Prop where
  ex : ∃ f fd, FnOk P w K mg base CX k f fd ps sp ∧ mg x = some (.ref f) ∧ PySem.W.keepIn K (.ref f) = true ∧ Binds K fd ps []
theorem pe_fn {X : Cx} {k : Nat} {x : Str} {ps : List Str} {sp : Sp} {e : Expr} {es : List Expr} {p pos : Pos} {t : TA} (C : Fn X.prog X.w X.K X.mg X.base CX0 k x ps sp) (hr : Room k X.A) (hg : Gl X x) (ha : PA X (e :: es) t) (hdb : (x == ("__debug__" : Str)) = false := by decide)
    (he : starEach (e :: es) X.env = (false, eval e X.env) :: starEach es X.env := by rfl) (hpl : (backTo pos (starEach es X.env)).any (·.1) = false := by rfl) : PE X (.Call (.Name x p) (e :: es) [] pos) (tCall sp [] E0 t) := by
  obtain ⟨f, fd, F, hm, hk, hb⟩ := C.ex
  exact pe_call F hr hg hm hk hb .nil pass0 ha hdb he hpl
theorem pe_fn0 {X : Cx} {k : Nat} {x : Str} {ps : List Str} {sp : Sp} {p pos : Pos} (C : Fn X.prog X.w X.K X.mg X.base CX0 k x ps sp) (hr : Room k X.A) (hg : Gl X x) (hdb : (x == ("__debug__" : Str)) = false := by decide) : PE X (.Call (.Name x p) [] [] pos) (tCall sp [] E0 tNil) := by
  obtain ⟨f, fd, F, hm, hk, hb⟩ := C.ex
  exact pe_call0 F hr hg hm hk hb .nil pass0 hdb
end Wk

namespace Wk
open PySem L2
theorem dec_and {p q : Prop} [Decidable p] [Decidable q] : (decide p && decide q) = decide (p ∧ q) := by
  by_cases hp : p
  · by_cases hq : q
    · rw [decide_eq_true hp, decide_eq_true hq, decide_eq_true (And.intro hp hq)]; rfl
    · rw [decide_eq_false hq, decide_eq_false (fun z : p ∧ q => hq z.2), Bool.and_false]
  · rw [decide_eq_false hp, decide_eq_false (fun z : p ∧ q => hp z.1), Bool.false_and]
theorem dec_tt {b : Bool} : b = decide (b = true) := by cases b <;> rfl
theorem dec_T : true = decide True := rfl
theorem dec_F : false = decide False := rfl
section
variable {α β : Type} {e : Rep α} {f : Rep β} {K : PySem.W.Frag} {σ : L2.St} {F0 H0 F F' H H' : Hp} {te ta tb : TE} {Q : VK} {v w u : V} {xs : List α} {p : Addr} {i : Int} {n : Nat} {x : V}
/-- bit_length -/
def bits (n : Nat) : Nat := if n = 0 then 0 else n.log2 + 1
theorem bits_int (n : Nat) : Builtin.Int.intBits (n : Int) = bits n := by
  unfold Builtin.Int.intBits bits
  by_cases h : n = 0
  · subst h; rfl
  · rw [if_neg (show ¬ (((n : Nat) : Int) == 0) = true by simpa using h), if_neg h]; rfl
theorem vn_bitl (ha : Val ta σ H (.int (n : Int))) : Val (tBits ta) σ H (.int ((bits n : Nat) : Int)) := fun _ k => ha _ ⟨_, rfl, by rw [bits_int]; exact k⟩
theorem v_isi {b : Bool} {cn tn : String} (ha : Val ta σ H x) (ty : TyX K H x (.type tn)) (h : kitB tn cn = some b) : Val (tCB (rIsi K) (tCons ta (tCons (tC (.ty cn)) tNil))) σ H (.bl b) := fun Q k => ha _ ⟨x, .ty cn, _, _, b, rfl, .ty cn, ty, kit_ty h, k⟩
theorem ty_L (r : (pL e).r F v xs) (f : Ex F H) : TyX K H v (.type "list") := by obtain ⟨p, vs, rfl, hp, _⟩ := r; exact .base (.lst (f _ _ hp))
theorem ty_TL (r : (pTL e).r F v xs) (f : Ex F H) : TyX K H v (.type "tuple") := by obtain ⟨p, vs, rfl, hp, _⟩ := r; exact .base (.tup (f _ _ hp))
theorem ty_T2 {z : α × β} (r : (pT2 e f).r F v z) (h : Ex F H) : TyX K H v (.type "tuple") := by obtain ⟨p, _, _, rfl, hp, _⟩ := r; exact .base (.tup (h _ _ hp))
theorem ty_X (r : XL e H0 F H p xs) : TyX K H (.ref p) (.type "list") := by obtain ⟨vs, hp, _⟩ := r.rd; exact .base (.lst hp)
def rInt1 : List V → Hp → VK → Prop := fun xs H Q => (∃ i, xs = [.int i] ∧ Q (.int i) H) ∨ ∃ k, xs = [.bl k] ∧ Q (.int (if k then 1 else 0)) H
theorem v_intI (ha : Val ta σ H (.int i)) : Val (tCB rInt1 (tCons ta tNil)) σ H (.int i) := fun _ k => ha _ (.inl ⟨i, rfl, k⟩)
theorem v_intB {b : Bool} (ha : Val ta σ H (.bl b)) : Val (tCB rInt1 (tCons ta tNil)) σ H (.int ((b.toNat : Nat) : Int)) := fun _ k => ha _ (.inr ⟨b, rfl, by cases b <;> exact k⟩)
end
end Wk

namespace Wk
open PySem L2
/-! ### readings by short names -/
abbrev kAdd : R2 := L2.rI0 fun i j => .int (i + j)
abbrev kSub : R2 := L2.rI0 fun i j => .int (i - j)
abbrev kMul : R2 := L2.rI CMul fun i j => .int (i * j)
abbrev kMulX : R2 := L2.rI CMulX fun i j => .int (i * j)
abbrev kDiv : R2 := L2.rI CDivW fun i j => .int (i / j)
abbrev kMod : R2 := L2.rI (fun _ j => 0 < j) fun i j => .int (i % j)
abbrev kPow : R2 := L2.rI CPow fun i j => .int (i ^ j.toNat)
abbrev kShl : R2 := L2.rI CShl fun i j => .int (i * 2 ^ j.toNat)
abbrev kShr : R2 := L2.rI (fun _ j => 0 ≤ j) fun i j => .int (i / 2 ^ j.toNat)
abbrev kAnd : R2 := L2.rI0 fun i j => .int (Builtin.bitAnd i j)
abbrev kOr : R2 := L2.rI0 fun i j => .int (Builtin.bitOr i j)
abbrev kXor : R2 := L2.rI0 fun i j => .int (Builtin.bitXor i j)
abbrev kLt : R2 := L2.rI0 fun i j => .bl (decide (i < j))
abbrev kLe : R2 := L2.rI0 fun i j => .bl (decide (i ≤ j))
abbrev kGt : R2 := L2.rI0 fun i j => .bl (decide (j < i))
abbrev kGe : R2 := L2.rI0 fun i j => .bl (decide (j ≤ i))
abbrev kNeg : V → Hp → VK → Prop := L2.rU fun i => .int (-i)
def rLenS : List V → Hp → VK → Prop := fun xs H Q => ∃ z, xs = [.str z] ∧ z.length ≤ sizeLine ∧ Q (.int z.length) H
def rListOf (K : PySem.W.Frag) : List V → Hp → VK → Prop := fun xs H Q => ∃ p ys, xs = [.ref p] ∧ (SqL K H p ys ∨ SqT K H p ys) ∧ ∀ l, H l = none → Q (.ref l) (upd H l (.lst ys))
section
variable {α β : Type} {e : Rep α} {f : Rep β} {K : PySem.W.Frag} {σ : L2.St} {F0 H0 F F' H H' : Hp} {te ta tb : TE} {Q : VK} {v w u : V} {xs ys : List α} {p q : Addr} {i : Int} {n a b : Nat} {x : V} {tl th : TO}
theorem len_Str {s : Str} (h : s.length < 1000000) (ha : Val ta σ H (.str s)) : Val (tCB rLenS (tCons ta tNil)) σ H (.int ((s.length : Nat) : Int)) := fun _ k => ha _ ⟨s, rfl, Nat.le_of_lt (small_len h), k⟩
theorem XL.frzO (x : XL e H0 F H q xs) (h : ∀ q o, Xc H0 F H q o → q ≠ p → Xc H0 F' H q o) (hq : q ≠ p) (g : Ex F F') : XL e H0 F' H q xs := let ⟨vs, a, b⟩ := x.x; ⟨vs, h _ _ a hq, b.mono g⟩
/-- list(xs): a new one -/
theorem n_listX (r : (pL e).r F v xs) (w : Wf F0 H0 F H) (k : ∀ p H', H p = none → Wf F H F H' → XL e H0 F H' p xs → Q (.ref p) H') : rListOf K [v] H Q := by
  obtain ⟨p, vs, rfl, hp, a⟩ := r
  exact ⟨p, vs, rfl, .inl (SqL.of (w.f _ _ hp)), fun l hl => k l _ hl (Wf.newX w.f hl) ⟨vs, Xc.mk' w hl, a⟩⟩
theorem n_listXX (r : XL e H0 F H q xs) (w : Wf F0 H0 F H) (k : ∀ p H', H p = none → Wf F H F H' → XL e H0 F H' p xs → Q (.ref p) H') : rListOf K [.ref q] H Q := by
  obtain ⟨vs, hp, a⟩ := r.rd
  exact ⟨q, vs, rfl, .inl (SqL.of hp), fun l hl => k l _ hl (Wf.newX w.f hl) ⟨vs, Xc.mk' w hl, a⟩⟩
theorem n_listXT (r : (pTL e).r F v xs) (w : Wf F0 H0 F H) (k : ∀ p H', H p = none → Wf F H F H' → XL e H0 F H' p xs → Q (.ref p) H') : rListOf K [v] H Q := by
  obtain ⟨p, vs, rfl, hp, a⟩ := r
  exact ⟨p, vs, rfl, .inr (SqT.of (w.f _ _ hp)), fun l hl => k l _ hl (Wf.newX w.f hl) ⟨vs, Xc.mk' w hl, a⟩⟩
/-- xs + ys -/
theorem n_cat (r : (pL e).r F v xs) (s : (pL e).r F u ys) (w : Wf F0 H0 F H) (hl : xs.length + ys.length < 1000000) (k : ∀ p H', H p = none → Wf F H F H' → XL e H0 F H' p (xs ++ ys) → Q (.ref p) H') : rCat v u H Q := by
  obtain ⟨p, vs, rfl, hp, a⟩ := r
  obtain ⟨q, us, rfl, hq, b⟩ := s
  exact ⟨p, q, vs, us, rfl, rfl, w.f _ _ hp, w.f _ _ hq, by rw [a.len, b.len]; exact Nat.le_of_lt (small_len hl), fun l hl => k l _ hl (Wf.newX w.f hl) ⟨_, Xc.mk' w hl, a.app b⟩⟩
theorem All.rep (a : All e F vs' xs) : ∀ n, All e F (List.replicate n vs').flatten (List.replicate n xs).flatten
  | 0 => trivial
  | n + 1 => by rw [List.replicate_succ, List.replicate_succ, List.flatten_cons, List.flatten_cons]; exact a.app (All.rep a n)
/-- xs * n -/
theorem n_rep (r : (pL e).r F v xs) (w : Wf F0 H0 F H) (hl : xs.length * n < 1000000) (hn : n < 1000000) (k : ∀ p H', H p = none → Wf F H F H' → XL e H0 F H' p (List.replicate n xs).flatten → Q (.ref p) H') : rRep v (.int (n : Int)) H Q := by
  obtain ⟨p, vs, rfl, hp, a⟩ := r
  exact ⟨p, _, vs, rfl, rfl, w.f _ _ hp, by omega, by omega, by rw [a.len]; exact Nat.le_of_lt (small_len hl), fun l hl => k l _ hl (Wf.newX w.f hl) ⟨_, Xc.mk' w hl, All.rep a n⟩⟩
/-! slices -/
def cutT (xs : List α) (lo hi : Option Nat) : List α := match lo, hi with
  | none, none => xs
  | none, some b => xs.take b
  | some a, none => xs.drop a
  | some a, some b => (xs.drop a).take (b - a)
theorem cutV_T {ws : List V} (lo hi : Option Nat) : cutV ws (lo.map Int.ofNat) (hi.map Int.ofNat) = cutT ws lo hi := by
  have tk : ∀ (n : Nat) (l : List V), l.take (min n l.length) = l.take n := fun n l => by
    by_cases h : n ≤ l.length
    · rw [Nat.min_eq_left h]
    · rw [Nat.min_eq_right (by omega), List.take_of_length_le (Nat.le_refl _), List.take_of_length_le (by omega)]
  unfold cutV cutT
  cases lo with
  | none =>
    cases hi with
    | none => simp only [Option.map_none, HT.sIx_none, List.drop_zero, Nat.sub_zero, List.take_length]
    | some b =>
      simp only [Option.map_none, Option.map_some, HT.sIx_none, List.drop_zero, Nat.sub_zero]
      rw [show HT.sIx ws.length ws.length (some (Int.ofNat b)) = min b ws.length from HT.sIx_nat _ _ _]
      exact tk b ws
  | some a =>
    have dr : ws.drop (min a ws.length) = ws.drop a := by
      by_cases h : a ≤ ws.length
      · rw [Nat.min_eq_left h]
      · rw [Nat.min_eq_right (by omega), List.drop_of_length_le (Nat.le_refl _), List.drop_of_length_le (by omega)]
    cases hi with
    | none =>
      simp only [Option.map_none, Option.map_some, HT.sIx_none]
      rw [show HT.sIx ws.length 0 (some (Int.ofNat a)) = min a ws.length from HT.sIx_nat _ _ _, dr]
      exact List.take_of_length_le (by rw [List.length_drop]; omega)
    | some b =>
      simp only [Option.map_some]
      rw [show HT.sIx ws.length 0 (some (Int.ofNat a)) = min a ws.length from HT.sIx_nat _ _ _, show HT.sIx ws.length ws.length (some (Int.ofNat b)) = min b ws.length from HT.sIx_nat _ _ _, dr]
      by_cases h : b ≤ ws.length
      · rw [Nat.min_eq_left h]
        by_cases h' : a ≤ ws.length
        · rw [Nat.min_eq_left h']
        · rw [List.drop_of_length_le (by omega), List.take_nil, List.take_nil]
      · rw [Nat.min_eq_right (by omega)]
        rw [List.take_of_length_le (by rw [List.length_drop]; omega), List.take_of_length_le (by rw [List.length_drop]; omega)]
theorem All.cut {ws : List V} (a : All e F ws xs) (lo hi : Option Nat) : All e F (cutT ws lo hi) (cutT xs lo hi) := by
  cases lo <;> cases hi
  · exact a
  · exact a.take _
  · exact a.drop _
  · exact (a.drop _).take _
/-- the two ends of a slice -/
def Part (tl : TO) (σ : L2.St) (H : Hp) (o : Option Nat) : Prop := ∀ Q : Option Int → Hp → Prop, Q (o.map Int.ofNat) H → tl σ H Q
theorem po_n : Part tNoPart σ H none := fun _ k => k
theorem po_s (h : Val te σ H (.int (n : Int))) : Part (tPart te) σ H (some n) := fun _ k => h _ ⟨_, rfl, k⟩
theorem n_cutX {lo hi : Option Nat} (r : (pL e).r F v xs) (hv : Val te σ H v) (h1 : Part tl σ H lo) (h2 : Part th σ H hi) (w : Wf F0 H0 F H) (k : ∀ p H', H p = none → Wf F H F H' → XL e H0 F H' p (cutT xs lo hi) → Q (.ref p) H') : tSl (rSlL K) te tl th σ H Q := by
  obtain ⟨p, vs, rfl, hp, a⟩ := r
  exact hv _ (h1 _ (h2 _ ⟨p, vs, rfl, SqL.of (w.f _ _ hp), fun l hl => by
    rw [cutV_T]
    exact k l _ hl (Wf.newX w.f hl) ⟨_, Xc.mk' w hl, a.cut lo hi⟩⟩))
theorem n_cutS {lo hi : Option Nat} {zs : List Int} (r : (pScr K).r F v zs) (hv : Val te σ H v) (h1 : Part tl σ H lo) (h2 : Part th σ H hi) (w : Wf F0 H0 F H) (k : ∀ p H', H p = none → Wf F H F H' → XL pI H0 F H' p (cutT zs lo hi) → Q (.ref p) H') : tSl (rSlL K) te tl th σ H Q := by
  obtain ⟨p, rfl, s⟩ := (pScr K).mono w.f r
  exact hv _ (h1 _ (h2 _ ⟨p, _, rfl, s, fun l hl => by
    rw [cutV_T]
    exact k l _ hl (Wf.newX w.f hl) ⟨_, Xc.mk' w hl, (All.ofInts (xs := zs)).cut lo hi⟩⟩))
end
end Wk

namespace Wk
open PySem L2
section
variable {α β γ : Type} {e : Rep α} {f : Rep β} {g : Rep γ} {K : PySem.W.Frag} {σ : L2.St} {F0 H0 F F' H H' : Hp} {te ta tb to : TE} {tt : TT} {tA : TA} {Q : VK} {v w u : V} {xs ys : List α} {p q : Addr} {i : Nat} {D : Ends} {pr : Prop} {ti : TIp} {x y : V}
theorem if_t {A B : Prop} (h : A) : if true = true then A else B := by rw [if_pos rfl]; exact h
theorem if_f {A B : Prop} (h : B) : if false = true then A else B := by rw [if_neg (by simp)]; exact h
theorem b_ifn {p : Prop} [Decidable p] {A B : Prop} (h1 : p → B) (h2 : ¬ p → A) : if (!decide p) = true then A else B := by
  by_cases hp : p
  · rw [decide_eq_true hp, if_neg (by simp)]; exact h1 hp
  · rw [decide_eq_false hp, if_pos (by rfl)]; exact h2 hp
theorem bb_ifn {b : Bool} {A B : Prop} (h1 : b = true → B) (h2 : ¬ b = true → A) : if (!b) = true then A else B := by
  cases b with
  | true => rw [if_neg (by simp)]; exact h1 rfl
  | false => rw [if_pos (by rfl)]; exact h2 (by simp)
theorem nx_v {P : V → Prop} (h : v = w) (q : P v) : P w := h ▸ q
theorem nx_set {P : L2.St → Hp → Prop} {σ : L2.St} {i : Nat} {H : Hp} (h : v = w) (q : P (σ.set i (some v)) H) : P (σ.set i (some w)) H := h ▸ q
theorem g_name {R : L2.St → Hp → Prop} (h : R (σ.set i (some v)) H) : gName i v σ H R := h
theorem set_same {σ : L2.St} {i : Nat} {v : V} (h : σ[i]? = some (some v)) : σ.set i (some v) = σ := by
  refine List.ext_getElem? fun j => ?_
  rw [List.getElem?_set]
  split
  · rename_i h1
    subst h1
    split
    · exact h.symm
    · rename_i h2
      rw [List.getElem?_eq_none (by omega)] at h; cases h
  · rfl
theorem a_ifAsg [Decidable pr] (h : Ans tt σ H (decide pr)) (h1 : pr → Val te σ H v) (h2 : ¬ pr → σ[i]? = some (some v)) (q : D.nx (σ.set i (some v)) H) : tIfS tt (tAsg te (gName i)) tNext D σ H := h _ (b_if (fun hp => h1 hp _ q) fun hp => by
  have e := set_same (h2 hp)
  rw [e] at q
  exact q)
theorem a_ifAug [Decidable pr] (h : Ans tt σ H (decide pr)) (hx : σ[i]? = some (some x)) (hy : Val te σ H y) (h1 : pr → Val (tOp ti (tC x) (tC y)) [] H v) (h2 : ¬ pr → σ[i]? = some (some v)) (q : D.nx (σ.set i (some v)) H) : tIfS tt (tAug i te ti) tNext D σ H := h _ (b_if (fun hp => ⟨x, hx, hy _ (h1 hp _ q)⟩) fun hp => by
  have e := set_same (h2 hp)
  rw [e] at q
  exact q)
theorem n_tup3 {x : α} {y : β} {z : γ} (a : e.r F v x) (b : f.r F w y) (c : g.r F u z) (h : Wf F0 H0 F H) (k : ∀ p F' H', Wf F H F' H' → (pT3 e f g).r F' (.ref p) (x, y, z) → Q (.ref p) H') :
    kTup Q [v, w, u] H := ⟨Nat.le_of_lt (small_len (n := 3) (by decide)), fun p hp => k p _ _ (Wf.new h.f hp) ⟨p, v, w, u, rfl, upd_same, e.mono (Ex.new (h.f.non hp)) a, f.mono (Ex.new (h.f.non hp)) b, g.mono (Ex.new (h.f.non hp)) c⟩⟩
theorem n_tupL {vs : List V} (a : All e F vs xs) (hl : xs.length < 1000000) (w : Wf F0 H0 F H) (k : ∀ p F' H', Wf F H F' H' → (pTL e).r F' (.ref p) xs → Q (.ref p) H') :
    kTup Q vs H := ⟨by rw [a.len]; exact Nat.le_of_lt (small_len hl), fun p hp => k p _ _ (Wf.new w.f hp) ⟨p, vs, rfl, upd_same, a.mono (Ex.new (w.f.non hp))⟩⟩
theorem m_list {r : V → List V → Hp → VK → Prop} (z : XL e H0 F H p xs) (ho : Val to σ H (.ref p)) (k : tA σ H fun vs H2 => r (.ref p) vs H2 Q) : tBM K "list" r to tA σ H Q := ho _ ⟨let ⟨_, a, _⟩ := z.x; Or.inl ⟨rfl, _, Or.inl (Or.inl a.h)⟩, k⟩
theorem a_clr (x : XL e H0 F H p xs) (w : Wf F0 H0 F H) (k : ∀ H', Wf F0 H0 F H' → XL e H0 F H' p [] → (∀ q o, H q = some o → q ≠ p → H' q = some o) → Q .non H') : rClear (.ref p) [] H Q := by
  obtain ⟨vs, a, b⟩ := x.x
  exact ⟨p, vs, rfl, rfl, a.h, k _ (w.set a) ⟨_, a.set, trivial⟩ fun q o h hq => by rw [upd_ne hq]; exact h⟩
theorem a_ext (x : XL e H0 F H p xs) (r : (pL e).r F v ys) (w : Wf F0 H0 F H) (hl : xs.length + ys.length < 1000000) (k : ∀ H', Wf F0 H0 F H' → XL e H0 F H' p (xs ++ ys) → (∀ q o, H q = some o → q ≠ p → H' q = some o) → Q .non H') : rExtend (.ref p) [v] H Q := by
  obtain ⟨vs, a, b⟩ := x.x
  obtain ⟨q, us, rfl, hq, c⟩ := r
  exact ⟨p, q, vs, us, rfl, rfl, a.h, w.f _ _ hq, by rw [b.len, c.len]; exact Nat.le_of_lt (small_len hl), k _ (w.set a) ⟨_, a.set, b.app c⟩ fun q o h hq => by rw [upd_ne hq]; exact h⟩
end
end Wk

namespace Wk
open PySem L2
/-! ### dicts: their pairs in order, keys numbers or texts -/
class KeyT (κ : Type) where
  k : κ → Key
  inj : ∀ {a b : κ}, k a = k b → a = b
instance : KeyT Nat := ⟨fun n => .inl (n : Int), fun h => by have := Sum.inl.inj h; omega⟩
instance : KeyT Int := ⟨fun n => .inl n, fun h => Sum.inl.inj h⟩
instance : KeyT Str := ⟨fun n => .inr n, fun h => Sum.inr.inj h⟩
section
variable {κ α : Type} [DecidableEq κ] [KeyT κ]
def valT (m : List (κ × α)) (j : κ) : Option α := (m.find? fun q => decide (q.1 = j)).map (·.2)
def hasT (m : List (κ × α)) (j : κ) : Bool := (valT m j).isSome
def putT (m : List (κ × α)) (j : κ) (x : α) : List (κ × α) := if hasT m j = true then m.map (fun q => if q.1 = j then (q.1, x) else q) else m ++ [(j, x)]
def DA (e : Rep α) (F : Hp) : List (Key × V) → List (κ × α) → Prop
  | [], [] => True
  | p :: r, q :: s => p.1 = KeyT.k q.1 ∧ e.r F p.2 q.2 ∧ DA e F r s
  | _, _ => False
variable {e : Rep α} {F F' : Hp}
omit [DecidableEq κ] in
theorem DA.mono (h : Ex F F') : ∀ {kvs : List (Key × V)} {m : List (κ × α)}, DA e F kvs m → DA e F' kvs m
  | [], [], _ => trivial
  | _ :: _, _ :: _, ⟨a, b, c⟩ => ⟨a, e.mono h b, DA.mono h c⟩
  | [], _ :: _, q => q.elim
  | _ :: _, [], q => q.elim
theorem DA.len : ∀ {kvs : List (Key × V)} {m : List (κ × α)}, DA e F kvs m → kvs.length = m.length
  | [], [], _ => rfl
  | _ :: _, _ :: _, ⟨_, _, c⟩ => by rw [List.length_cons, List.length_cons, DA.len c]
  | [], _ :: _, q => q.elim
  | _ :: _, [], q => q.elim
theorem valT_cons {q : κ × α} {m : List (κ × α)} {j : κ} : valT (q :: m) j = if q.1 = j then some q.2 else valT m j := by
  unfold valT
  rw [List.find?_cons]
  by_cases h : q.1 = j
  · rw [if_pos h, decide_eq_true h]; rfl
  · rw [if_neg h, decide_eq_false h]
theorem DA.get : ∀ {kvs : List (Key × V)} {m : List (κ × α)} (j : κ), DA e F kvs m → (∀ x, valT m j = some x → ∃ v, valV kvs (KeyT.k j) = some v ∧ e.r F v x) ∧ (valT m j = none → valV kvs (KeyT.k j) = none)
  | [], [], _, _ => ⟨fun x h => (by cases h), fun _ => rfl⟩
  | p :: r, q :: s, j, ⟨a, b, c⟩ => by
    obtain ⟨ih1, ih2⟩ := DA.get j c
    rw [valT_cons]
    by_cases h : q.1 = j
    · rw [if_pos h]
      have e1 : p.1 = KeyT.k j := by rw [a, h]
      exact ⟨fun x hx => ⟨p.2, valV_pos e1, by cases hx; exact b⟩, fun z => by cases z⟩
    · rw [if_neg h]
      have e1 : ¬ p.1 = KeyT.k j := fun z => h (KeyT.inj (a.symm.trans z))
      rw [valV_neg e1]
      exact ⟨ih1, ih2⟩
  | [], _ :: _, _, q => q.elim
  | _ :: _, [], _, q => q.elim
theorem DA.has {kvs : List (Key × V)} {m : List (κ × α)} (j : κ) (d : DA e F kvs m) : (valV kvs (KeyT.k j)).isSome = hasT m j := by
  obtain ⟨h1, h2⟩ := d.get j
  unfold hasT
  cases q : valT m j with
  | none => rw [h2 q]; rfl
  | some x => obtain ⟨v, h, _⟩ := h1 x q; rw [h]; rfl
theorem DA.app : ∀ {kvs : List (Key × V)} {m : List (κ × α)} {kvs' : List (Key × V)} {m' : List (κ × α)}, DA e F kvs m → DA e F kvs' m' → DA e F (kvs ++ kvs') (m ++ m')
  | [], [], _, _, _, h => h
  | _ :: _, _ :: _, _, _, ⟨a, b, c⟩, h => ⟨a, b, DA.app c h⟩
  | [], _ :: _, _, _, q, _ => q.elim
  | _ :: _, [], _, _, q, _ => q.elim
theorem DA.upd {v : V} {x : α} {j : κ} (r : e.r F v x) : ∀ {kvs : List (Key × V)} {m : List (κ × α)}, DA e F kvs m → DA e F (kvs.map fun kv => if kv.1 = KeyT.k j then (kv.1, v) else kv) (m.map fun q => if q.1 = j then (q.1, x) else q)
  | [], [], _ => trivial
  | p :: _, q :: _, ⟨a, b, c⟩ => by
    rw [List.map_cons, List.map_cons]
    refine ⟨?_, ?_, DA.upd r c⟩
    · by_cases h : q.1 = j
      · rw [if_pos h, if_pos (by rw [a, h])]; exact a
      · rw [if_neg h, if_neg (fun z => h (KeyT.inj (a.symm.trans z)))]; exact a
    · by_cases h : q.1 = j
      · rw [if_pos h, if_pos (by rw [a, h])]; exact r
      · rw [if_neg h, if_neg (fun z => h (KeyT.inj (a.symm.trans z)))]; exact b
  | [], _ :: _, q => q.elim
  | _ :: _, [], q => q.elim
theorem DA.put {v : V} {x : α} {j : κ} {kvs : List (Key × V)} {m : List (κ × α)} (d : DA e F kvs m) (r : e.r F v x) : DA e F (putK kvs (KeyT.k j) v) (putT m j x) := by
  unfold putK putT
  rw [valV_any, d.has j]
  by_cases h : hasT m j = true
  · rw [if_pos h, if_pos h]; exact d.upd r
  · rw [if_neg h, if_neg h]; exact d.app ⟨rfl, r, trivial⟩
end
def pD {κ α : Type} [KeyT κ] (e : Rep α) : Rep (List (κ × α)) := ⟨fun F v m => ∃ p kvs, v = .ref p ∧ F p = some (.dK kvs) ∧ DA e F kvs m, fun h ⟨p, kvs, a, b, c⟩ => ⟨p, kvs, a, h _ _ b, c.mono h⟩⟩
structure XD {κ α : Type} [KeyT κ] (e : Rep α) (H0 F H : Hp) (p : Addr) (m : List (κ × α)) : Prop where
  x : ∃ kvs, Xc H0 F H p (.dK kvs) ∧ DA e F kvs m
section
variable {κ α : Type} [DecidableEq κ] [KeyT κ] {e : Rep α} {K : PySem.W.Frag} {σ : L2.St} {F0 H0 F F' H H' : Hp} {te td ty tx tv : TE} {Q : VK} {v w y z : V} {m : List (κ × α)} {p q : Addr} {j : κ} {x : α} {D : Ends}
theorem XD.step (x : XD e H0 F H p m) (w : Wf F H F' H') : XD e H0 F' H' p m := let ⟨vs, a, b⟩ := x.x; ⟨vs, a.step w, b.mono w.g⟩
theorem XD.ne (x : XD e H0 F H p m) (h : H q = none) : p ≠ q := let ⟨_, a, _⟩ := x.x; a.ne h
theorem XD.zero (x : XD e H0 F H p m) : H0 p = none := let ⟨_, a, _⟩ := x.x; a.z
theorem XD.base (x : XD e H F' H' p m) (w : Wf F0 H0 F H) : XD e H0 F' H' p m := let ⟨vs, a, b⟩ := x.x; ⟨vs, ⟨w.h.non a.z, a.n, a.h⟩, b⟩
theorem XD.kept (x : XD e H0 F H q m) (h : ∀ q o, H q = some o → q ≠ p → H' q = some o) (hq : q ≠ p) : XD e H0 F H' q m := let ⟨vs, a, b⟩ := x.x; ⟨vs, a.kept h hq, b⟩
theorem XD.frzO (x : XD e H0 F H q m) (h : ∀ q o, Xc H0 F H q o → q ≠ p → Xc H0 F' H q o) (hq : q ≠ p) (g : Ex F F') : XD e H0 F' H q m := let ⟨vs, a, b⟩ := x.x; ⟨vs, h _ _ a hq, b.mono g⟩
theorem XD.frzE (x : XD e H0 F H p m) (w : Wf F0 H0 F H) : ∃ F', Wf F0 H0 F' H ∧ Ex F F' ∧ (pD e).r F' (.ref p) m ∧ (∀ q o, Xc H0 F H q o → q ≠ p → Xc H0 F' H q o) := by
  obtain ⟨vs, a, b⟩ := x.x
  exact ⟨_, w.freeze a, Ex.new a.n, ⟨p, vs, rfl, upd_same, b.mono (Ex.new a.n)⟩, fun q o z h => z.frz a h⟩
theorem XD.lend (x : XD e H0 F H p m) (w : Wf F0 H0 F H) : ∃ F', Ex F' H ∧ Ex F F' ∧ (pD e).r F' (.ref p) m := let ⟨F', a, b, c, _⟩ := x.frzE w; ⟨F', a.f, b, c⟩
theorem XD.rd (x : XD e H0 F H p m) : ∃ kvs, H p = some (.dK kvs) ∧ DA e F kvs m := let ⟨vs, a, b⟩ := x.x; ⟨vs, a.h, b⟩
theorem D_rd (r : (pD e).r F v m) (f : Ex F H) : ∃ p kvs, v = .ref p ∧ H p = some (.dK kvs) ∧ DA e F kvs m := let ⟨p, vs, a, b, c⟩ := r; ⟨p, vs, a, f _ _ b, c⟩
/-- {} -/
theorem n_dict (w : Wf F0 H0 F H) (k : ∀ p H', H p = none → Wf F H F H' → XD e H0 F H' p ([] : List (κ × α)) → Q (.ref p) H') : tDNewK σ H Q := fun p hp => k p _ hp (Wf.newX w.f hp) ⟨[], Xc.mk' w hp, trivial⟩
/-! reading -/
theorem in_D (r : (pD e).r F v m) (f : Ex F H) (hy : Val ty σ H (kV (KeyT.k j))) (hd : Val td σ H v) : Val (tDIn ty td) σ H (.bl (hasT m j)) := by
  obtain ⟨p, kvs, rfl, hp, a⟩ := D_rd r f
  exact fun Q k => hy _ (hd _ ⟨p, _, rfl, DGet.k hp, by rw [a.has j]; exact k⟩)
theorem in_XD (r : XD e H0 F H p m) (hy : Val ty σ H (kV (KeyT.k j))) (hd : Val td σ H (.ref p)) : Val (tDIn ty td) σ H (.bl (hasT m j)) := by
  obtain ⟨kvs, hp, a⟩ := r.rd
  exact fun Q k => hy _ (hd _ ⟨p, _, rfl, DGet.k hp, by rw [a.has j]; exact k⟩)
theorem nin_D (r : (pD e).r F v m) (f : Ex F H) (hy : Val ty σ H (kV (KeyT.k j))) (hd : Val td σ H v) : Val (tDNotIn ty td) σ H (.bl (!hasT m j)) := by
  obtain ⟨p, kvs, rfl, hp, a⟩ := D_rd r f
  exact fun Q k => hy _ (hd _ ⟨p, _, rfl, DGet.k hp, by rw [a.has j]; exact k⟩)
theorem nin_XD (r : XD e H0 F H p m) (hy : Val ty σ H (kV (KeyT.k j))) (hd : Val td σ H (.ref p)) : Val (tDNotIn ty td) σ H (.bl (!hasT m j)) := by
  obtain ⟨kvs, hp, a⟩ := r.rd
  exact fun Q k => hy _ (hd _ ⟨p, _, rfl, DGet.k hp, by rw [a.has j]; exact k⟩)
theorem ix_D (r : (pD e).r F v m) (f : Ex F H) (hx : valT m j = some x) : ∃ w, e.r F w x ∧ ∀ ⦃σ td ty⦄, Val td σ H v → Val ty σ H (kV (KeyT.k j)) → Val (tDGet td ty) σ H w := by
  obtain ⟨p, kvs, rfl, hp, a⟩ := D_rd r f
  obtain ⟨w, h1, h2⟩ := (a.get j).1 x hx
  exact ⟨w, h2, fun _ _ _ hd hy Q k => hd _ (hy _ ⟨p, w, rfl, by rw [← h1]; exact DGet.k hp, k⟩)⟩
theorem ix_XD (r : XD e H0 F H p m) (hx : valT m j = some x) : ∃ w, e.r F w x ∧ ∀ ⦃σ td ty⦄, Val td σ H (.ref p) → Val ty σ H (kV (KeyT.k j)) → Val (tDGet td ty) σ H w := by
  obtain ⟨kvs, hp, a⟩ := r.rd
  obtain ⟨w, h1, h2⟩ := (a.get j).1 x hx
  exact ⟨w, h2, fun _ _ _ hd hy Q k => hd _ (hy _ ⟨p, w, rfl, by rw [← h1]; exact DGet.k hp, k⟩)⟩
/-- d.get(k, x) -/
theorem get_XD (r : XD e H0 F H p m) (hz : e.r F z x) : ∃ w, e.r F w ((valT m j).getD x) ∧ ∀ ⦃σ td ty tx⦄, Val td σ H (.ref p) → Val ty σ H (kV (KeyT.k j)) → Val tx σ H z → Val (tDGet2 td ty tx) σ H w := by
  obtain ⟨kvs, hp, a⟩ := r.rd
  obtain ⟨h1, h2⟩ := a.get j
  have isd : IsD H p := .inl ⟨kvs, .inl hp⟩
  cases q : valT m j with
  | none => exact ⟨z, hz, fun _ _ _ _ hd hy hx Q k => hd _ ⟨p, rfl, isd, hy _ (hx _ ⟨none, by rw [← h2 q]; exact DGet.k hp, k⟩)⟩⟩
  | some x' =>
    obtain ⟨w, h3, h4⟩ := h1 x' q
    exact ⟨w, h4, fun _ _ _ _ hd hy hx Q k => hd _ ⟨p, rfl, isd, hy _ (hx _ ⟨some w, by rw [← h3]; exact DGet.k hp, k⟩)⟩⟩
theorem get_D (r : (pD e).r F v m) (f : Ex F H) (hz : e.r F z x) : ∃ w, e.r F w ((valT m j).getD x) ∧ ∀ ⦃σ td ty tx⦄, Val td σ H v → Val ty σ H (kV (KeyT.k j)) → Val tx σ H z → Val (tDGet2 td ty tx) σ H w := by
  obtain ⟨p, kvs, rfl, hp, a⟩ := D_rd r f
  obtain ⟨h1, h2⟩ := a.get j
  have isd : IsD H p := .inl ⟨kvs, .inl hp⟩
  cases q : valT m j with
  | none => exact ⟨z, hz, fun _ _ _ _ hd hy hx Q k => hd _ ⟨p, rfl, isd, hy _ (hx _ ⟨none, by rw [← h2 q]; exact DGet.k hp, k⟩)⟩⟩
  | some x' =>
    obtain ⟨w, h3, h4⟩ := h1 x' q
    exact ⟨w, h4, fun _ _ _ _ hd hy hx Q k => hd _ ⟨p, rfl, isd, hy _ (hx _ ⟨some w, by rw [← h3]; exact DGet.k hp, k⟩)⟩⟩
/-- d[k] = v, v evaluated -/
theorem d_put (r : XD e H0 F H p m) (w : Wf F0 H0 F H) (hl : m.length < 1000000) (rv : e.r F v x) (hd : Val td σ H (.ref p)) (hy : Val ty σ H (kV (KeyT.k j))) (k : ∀ H', Wf F0 H0 F H' → XD e H0 F H' p (putT m j x) → (∀ q o, H q = some o → q ≠ p → H' q = some o) → D.nx σ H') :
    (fun v H1 => td σ H1 fun x H2 => ty σ H2 fun y H3 => ∃ a H4, x = .ref a ∧ DPut H3 a y v H4 ∧ D.nx σ H4) v H := by
  obtain ⟨kvs, a, b⟩ := r.x
  exact hd _ (hy _ ⟨p, _, rfl, DPut.k a.h (by rw [b.len]; exact small_len hl), k _ (w.set a) ⟨_, a.set, b.put rv⟩ fun q o h hq => by rw [upd_ne hq]; exact h⟩)
theorem e_dput (h : tv σ H fun v H1 => td σ H1 fun x H2 => ty σ H2 fun y H3 => ∃ a H4, x = .ref a ∧ DPut H3 a y v H4 ∧ D.nx σ H4) : sDPut td ty tv D σ H := h
end
/-! ### ways of a test or a truth that meet -/
section
variable {S : Type} {σ : L2.St} {H : Hp} {te ta tb : TE} {tt tu : TT} {Q : VK} {k : Bool → Prop}
theorem e_jnT {f : (Bool → Prop) → Prop} {Qt : Bool → Hp → Prop} (hW : jn f k) (Inv : Bool → Hp → Hp → Prop)
    (h1 : ∀ N : Bool → Hp → Prop, (∀ b F' H', Inv b F' H' → k b → N b H') → f k → tt σ H N) (h2 : ∀ b F' H', Inv b F' H' → k b → Qt b H') : tt σ H Qt :=
  h1 Qt (fun b F' H' q n => h2 b F' H' q n) hW
theorem e_jnV {f : (Bool → Prop) → Prop} (hW : jn f k) (Inv : Bool → Hp → Hp → Prop)
    (h1 : ∀ N : VK, (∀ b F' H', Inv b F' H' → k b → N (.bl b) H') → f k → te σ H N) (h2 : ∀ b F' H', Inv b F' H' → k b → Q (.bl b) H') : te σ H Q :=
  h1 Q (fun b F' H' q n => h2 b F' H' q n) hW
theorem e_tAnd {Qt : Bool → Hp → Prop} (h : tt σ H fun c H1 => if c = true then tu σ H1 Qt else Qt false H1) : tAnd tt tu σ H Qt := h
theorem e_tOr {Qt : Bool → Hp → Prop} (h : tt σ H fun c H1 => if c = true then Qt true H1 else tu σ H1 Qt) : tOr tt tu σ H Qt := h
theorem e_AndV (h : ta σ H fun x H1 => ∃ c, x = .bl c ∧ if c = true then tb σ H1 Q else Q (.bl false) H1) : tAndV ta tb σ H Q := h
theorem e_OrV (h : ta σ H fun x H1 => ∃ c, x = .bl c ∧ if c = true then Q (.bl true) H1 else tb σ H1 Q) : tOrV ta tb σ H Q := h
theorem e_NotV (h : ta σ H fun x H1 => ∃ c, x = .bl c ∧ Q (.bl (!c)) H1) : tNotV ta σ H Q := h
theorem bl_if {b : Bool} {A B : Prop} (h : if b = true then A else B) : ∃ c, V.bl b = .bl c ∧ if c = true then A else B := ⟨b, rfl, h⟩
theorem bl_v {b : Bool} {A : Bool → Prop} (h : A b) : ∃ c, V.bl b = .bl c ∧ A c := ⟨b, rfl, h⟩
end
end Wk

namespace Wk
theorem dec_nt {b : Bool} : (!b) = decide (¬ (b = true)) := by cases b <;> rfl
end Wk

namespace Wk.LR
open PySem PyProof.Rows L2
section
variable {prog : Program} {w : World} {A : Around} {E : Value → Shared → Prop} {s : Shared}
theorem extend_rev {R : Result → Shared → Prop} {it l : Addr} {items : Array Value} (hh : A.handled = none) (hit : s.heap.IsRevIter it l ((items.size : Int) - 1)) (hl : s.heap.IsList l items) (hne : l ≠ it) (hn : items.size ≤ sizeLine) (S : Addr) (res : Value) {c₀ : Nat} (hS : s.heap.get? S = some { cls := .type "list", data := .seq #[] c₀ })
    (hSl : S ≠ l)
    (hR : ∀ h' tk acc' c', (∀ b o, b ≠ S → b ≠ it → s.heap.get? b = some o → h'.get? b = some o) → h'.get? S = some { cls := .type "list", dict := none, data := .seq acc' c', slots := #[] } →
      ItemsOf (fun i v => items[items.size - 1 - i]? = some v) acc' items.size → R (.ok (.ret res)) { s with heap := h', toks := tk }) :
    wpAny (model prog w) A.in1 (Builtin.List.listExtendWith (.ref S) (.ref it) res)
      (fun fin s' => match fin with | .done f => R (.ok f) s' | .again c' => c'.quiet = true ∧ codeAny (model prog w) A c' R s') (fun e s' => R (.error e) s') s := by
  have hT : s.TypeIs (.ref it) "list_reverseiterator" := Heap.IsRevIter.typeIs hit
  have hSi : S ≠ it := fun e => by
    obtain ⟨o, ho, hc⟩ := hT
    rw [← e, hS] at ho; cases ho
    simp at hc
  have W := (Walks.listRev (prog := prog) (w := w) (A := A.in1) hh it l hne items).toS
  have hSf : S ∉ [it, l] := fun hm => by
    rcases List.mem_cons.mp hm with e | hm
    · exact hSi e
    · exact hSl (List.mem_singleton.mp hm)
  have h1 : Builtin.List.listSameRef (.ref S) (.ref it) = false := by simp [Builtin.List.listSameRef, hSi]
  unfold Builtin.List.listExtendWith
  refine wpAny_bind (wpAny_typeOf hT ?_)
  rw [if_neg (by rw [h1]; decide)]
  refine wpAny_bind (wpAny_pyIter_revIter hit ?_)
  refine wpAny_bind (wpAny_holding ?_)
  unfold Builtin.List.listLengthHint
  refine wpAny_bind (wpAny_specialOf hT RT.nolen_lri ?_)
  show wpAny _ A.in1 (specialOf (Value.ref it) (Str.ofString "__length_hint__") >>= _) _ _ _
  refine wpAny_bind (wpAny_specialOf hT RT.hint_lri ?_)
  generalize hid : ("list_reverseiterator.__length_hint__" : String) = id0
  wp_delta
  rw [show splitId id0 = some ("list_reverseiterator", "__length_hint__") from by subst hid; decide +kernel]
  subst hid
  refine wpAny_bind (wpAny_isInstance (b := true) hT (by rw [isSubtype_type]; kernel_rfl) ?_)
  refine wpAny_pure ?_
  rw [if_neg (by decide)]
  have e0 : ((items.size : Nat) : Int) - 1 - ((0 : Nat) : Int) = (items.size : Int) - 1 := by omega
  refine wpAny_pure ⟨plainId_quiet F.plain_extend_loop _, codeAny_extend_loopS W hn _ hSf _ items.size 0 _ _ _ rfl (Nat.zero_le _) ⟨Nat.zero_le _, by rw [e0]; exact hit, hl⟩ hS (ItemsOf.nil _) fun s' acc' c' hm hS' hacc => ?_⟩
  rw [Moved.eq_with hm]
  refine hR s'.heap s'.toks acc' c' (fun b o hb hb2 e => hm.heap b o (fun hmem => ?_) e) hS' hacc
  rcases List.mem_cons.mp hmem with e' | hmem
  · exact hb e'
  · exact hb2 (List.mem_singleton.mp hmem)
theorem call_list_rev {Q : Value → Shared → Prop} {it l : Addr} {items : Array Value} (hh : A.handled = none) (hit : s.heap.IsRevIter it l ((items.size : Int) - 1)) (hl : s.heap.IsList l items) (hne : l ≠ it) (hn : items.size ≤ sizeLine)
    (hQ : ∀ h' tk acc' c', (∀ b o, b ≠ it → s.heap.get? b = some o → h'.get? b = some o) →
      h'.get? s.heap.objs.size = some { cls := .type "list", dict := none, data := .seq acc' c', slots := #[] } → ItemsOf (fun i v => items[items.size - 1 - i]? = some v) acc' items.size → Q (.ref s.heap.objs.size) { s with heap := h', toks := tk }) :
    wpAny (model prog w) A (call (.type "list") [.ref it]) Q E s := by
  refine callType_codes (Q₁ := fun obj s₁ => obj = .ref s.heap.objs.size ∧ s₁ = { s with heap := s.heap.push { cls := .type "list", data := .seq #[] } }) F.called_list (F.typeCall_list_1 _) F.entry_list_init
    (code_list_new _ ⟨rfl, rfl⟩) fun obj s₁ h₁ => ?_
  obtain ⟨rfl, rfl⟩ := h₁
  have hS : (s.heap.push { cls := .type "list", data := .seq #[] }).get? s.heap.objs.size = some { cls := .type "list", data := .seq #[] } := Heap.get?_push_size _ rfl
  have hlt : l < s.heap.objs.size := let ⟨o, e, _⟩ := hl; Heap.lt_size e
  have hSl : s.heap.objs.size ≠ l := fun e => by rw [← e] at hlt; exact Nat.lt_irrefl _ hlt
  refine ⟨⟨_, hS, rfl⟩, F.args_list_init_2 _ _, ?_⟩
  show wpAny _ _ (do let old ← Builtin.List.listItems (.ref s.heap.objs.size); Builtin.List.listUpdate (.ref s.heap.objs.size) (fun _ => #[]); letGo old.toList.reverse; Builtin.List.listExtendWith (.ref s.heap.objs.size) (.ref it) .none) _ _ _
  refine wpAny_bind ?_
  unfold Builtin.List.listItems
  refine wpAny_bind (wpAny_seqItems hS rfl (wpAny_pure ?_))
  show wpAny _ _ (updateSeq s.heap.objs.size (fun _ => #[]) >>= fun _ => letGo (#[] : Array Value).toList.reverse >>= fun _ => Builtin.List.listExtendWith (.ref s.heap.objs.size) (.ref it) .none) _ _ _
  refine wpAny_bind (wpAny_updateSeq hS rfl ?_)
  obtain ⟨c₂, hS₂⟩ : ∃ c, ((s.heap.push { cls := .type "list", data := .seq #[] }).update s.heap.objs.size (Obj.mapSeq (fun _ => (#[] : Array Value)))).get? s.heap.objs.size = some { cls := .type "list", data := .seq #[] c } := ⟨_, Heap.get?_update_self (Obj.mapSeq (fun _ => (#[] : Array Value))) hS rfl⟩
  have oth : ∀ b o, b ≠ s.heap.objs.size → s.heap.get? b = some o → ((s.heap.push { cls := .type "list", data := .seq #[] }).update s.heap.objs.size (Obj.mapSeq (fun _ => (#[] : Array Value)))).get? b = some o :=
    fun b o hb e => (Heap.get?_update_other _ _ (Ne.symm hb)).trans (Heap.get?_push_of_some _ e)
  have oth2 : ∀ b o, s.heap.get? b = some o → ((s.heap.push { cls := .type "list", data := .seq #[] }).update s.heap.objs.size (Obj.mapSeq (fun _ => (#[] : Array Value)))).get? b = some o := fun b o e => oth b o (Nat.ne_of_lt (Heap.lt_size e)) e
  refine wpAny_bind (wpAny_letGo ?_)
  refine extend_rev (A := A.in1) (prog := prog) (w := w) (R := wants (fun r s₂ => r = Value.none ∧ Q (Value.ref s.heap.objs.size) s₂) E) (s := { s with heap := (s.heap.push { cls := .type "list", data := .seq #[] }).update s.heap.objs.size (Obj.mapSeq (fun _ => (#[] : Array Value))) }) (c₀ := c₂) hh (hit.at fun o e => oth2 _ _ e) (hl.at fun o e => oth2 _ _ e) hne hn _ .none hS₂ hSl fun h' tk acc' c' hk hS' hacc => ?_
  exact ⟨rfl, hQ h' tk acc' c' (fun b o hb e => hk b o (Nat.ne_of_lt (Heap.lt_size e)) hb (oth2 b o e)) hS' hacc⟩
end
end Wk.LR
namespace Wk
open PySem L2 PyProof.Rows
def rLstRev (K : PySem.W.Frag) (Q : VK) (v : V) (H1 : Hp) : Prop := ∃ (a : Addr) (xs : List V), v = .ref a ∧ SqL K H1 a xs ∧ ∀ q, H1 q = none → Q (.ref q) (upd H1 q (.lst xs.reverse))
def tLstRev (K : PySem.W.Frag) (te : TE) : TE := fun σ H Q => te σ H (rLstRev K Q)
theorem All.rev {α : Type} {e : Rep α} {F : Hp} : ∀ {vs : List V} {xs : List α}, All e F vs xs → All e F vs.reverse xs.reverse
  | [], [], _ => trivial
  | _ :: _, _ :: _, ⟨a, b⟩ => by rw [List.reverse_cons, List.reverse_cons]; exact (All.rev b).snoc a
  | [], _ :: _, q => q.elim
  | _ :: _, [], q => q.elim
theorem e_lrev {K : PySem.W.Frag} {te : TE} {σ : L2.St} {H : Hp} {Q : VK} (h : te σ H (rLstRev K Q)) : tLstRev K te σ H Q := h
theorem n_lrevX {α : Type} {e : Rep α} {K : PySem.W.Frag} {F0 H0 F H : Hp} {v : V} {xs : List α} {Q : VK} (r : (pL e).r F v xs) (w : Wf F0 H0 F H) (k : ∀ p H', H p = none → Wf F H F H' → XL e H0 F H' p xs.reverse → Q (.ref p) H') : rLstRev K Q v H := by
  obtain ⟨p, vs, rfl, hp, a⟩ := r
  exact ⟨p, vs, rfl, SqL.of (w.f _ _ hp), fun l hl => k l _ hl (Wf.newX w.f hl) ⟨vs.reverse, Xc.mk' w hl, a.rev⟩⟩
theorem n_lrevXX {α : Type} {e : Rep α} {K : PySem.W.Frag} {F0 H0 F H : Hp} {q : Addr} {xs : List α} {Q : VK} (r : XL e H0 F H q xs) (w : Wf F0 H0 F H) (k : ∀ p H', H p = none → Wf F H F H' → XL e H0 F H' p xs.reverse → Q (.ref p) H') : rLstRev K Q (.ref q) H := by
  obtain ⟨vs, hp, a⟩ := r.rd
  exact ⟨q, vs, rfl, SqL.of hp, fun l hl => k l _ hl (Wf.newX w.f hl) ⟨vs.reverse, Xc.mk' w hl, a.rev⟩⟩
section
variable {X : Cx}
theorem pe_lstRev {e : Expr} {te : TE} {p p2 pos pos2 : Pos} (hc : X.calm = true) (hg : Gl X "list") (hm : X.mg "list" = none) (hg2 : Gl X "reversed") (hm2 : X.mg "reversed" = none) (he : PE X e te)
    (hs : starEach [e] X.env = (false, eval e X.env) :: starEach [] X.env := by rfl)
    (hs2 : starEach [.Call (.Name "reversed" p2) [e] [] pos2] X.env = (false, eval (.Call (.Name "reversed" p2) [e] [] pos2) X.env) :: starEach [] X.env := by rfl) :
    PE X (.Call (.Name "list" p) [.Call (.Name "reversed" p2) [e] [] pos2] [] pos) (tLstRev X.K te) := by
  refine ⟨fun pins s σ H Q I h => ?_⟩
  refine Call_ (ld_blt I hg hm PyProof.Rows.boot_list (PyProof.Rows.callWith_type1 (args_cons (Call_ (ld_blt I hg2 hm2 PyProof.Rows.boot_reversed (PyProof.Rows.callWith_type1 (args_cons (thn (he.run pins s σ H _ I h) fun u s1 ⟨v, H1, I1, r1, q1⟩ => args_nil ?_) hs) hs rfl))) hs2) hs2 rfl))
  obtain ⟨a, xs, ev, hq, q⟩ := q1
  subst ev
  obtain rfl : u = Value.ref a := r1
  obtain ⟨its, rv, p', hz⟩ := I1.list hq
  refine call_reversed_list p'.isList (args_nil ?_)
  have k0 : ∀ b o, s1.heap.get? b = some o → (s1.heap.push (revObj a ((its.toArray.size : Int) - 1))).get? b = some o := fun b o e => Heap.get?_push_of_some _ e
  have hl := p'.isList
  obtain ⟨ol, hol, _⟩ := id hl
  have hne : a ≠ s1.heap.objs.size := Nat.ne_of_lt (Heap.lt_size hol)
  have hn : its.toArray.size ≤ sizeLine := by rw [List.size_toArray, ← rv.length]; exact hz
  refine LR.call_list_rev (s := { s1 with heap := s1.heap.push (revObj a ((its.toArray.size : Int) - 1)) }) (I1.ok.hd hc) ⟨_, Heap.get?_push_size _ rfl, rfl, rfl⟩ (hl.push _) hne hn fun h' tk acc c' hk hS hi => ?_
  have hsz : (s1.heap.push (revObj a ((its.toArray.size : Int) - 1))).objs.size = s1.heap.objs.size + 1 := Heap.size_push _ _
  rw [hsz] at hS
  exact ⟨.ref (s1.heap.objs.size + 1), upd H1 (s1.heap.objs.size + 1) (.lst xs.reverse), I1.laid (t' := tk) (fun b u e => hk b u (Nat.ne_of_lt (Heap.lt_size e)) (k0 b u e)) (Nat.le_succ _) (show ObjOk X.prog X.w _ _ _ (.lst xs.reverse) from
    ⟨by rw [List.length_reverse]; exact hz, acc.toList, c', RT.vals_rev rv hi, by rw [Array.toArray_toList]; exact hS⟩), congrArg Value.ref hsz, q _ (I1.hok.fresh (Nat.le_succ _))⟩
end
end Wk
/-! Pl: plain lemmas that no law owns. -/
namespace Wk
section
variable {α β S : Type}
theorem forW_ind {xs : List α} {s : S} {body : α → S → (S → Prop) → (S → Prop) → Prop} {k : S → Prop} (P : List α → S → Prop) (h0 : P [] s)
    (hb : ∀ pre x post s nx bk, xs = pre ++ x :: post → P pre s → (∀ s', P (pre ++ [x]) s' → nx s') → (∀ s', k s' → bk s') → body x s nx bk)
    (hk : ∀ s, P xs s → k s) : forW xs s body k := by
  suffices h : ∀ (post pre : List α) (s : S), xs = pre ++ post → P pre s → forW post s body k from h xs [] s rfl h0
  intro post
  induction post with
  | nil => intro pre s e p; rw [List.append_nil] at e; subst e; exact hk s p
  | cons x post ih => intro pre s e p; exact hb pre x post s _ _ e p (fun s' p' => ih (pre ++ [x]) s' (by rw [e, List.append_assoc]; rfl) p') (fun _ h => h)
theorem forW_foldI {xs : List α} {s : S} {body : α → S → (S → Prop) → (S → Prop) → Prop} {k : S → Prop} (f : S → α → S) (I : S → Prop) (h0 : I s)
    (hb : ∀ x ∈ xs, ∀ s nx bk, I s → (I (f s x) → nx (f s x)) → body x s nx bk) (hi : ∀ x ∈ xs, ∀ s, I s → I (f s x))
    (hk : I (xs.foldl f s) → k (xs.foldl f s)) : forW xs s body k := by
  induction xs generalizing s with
  | nil => exact hk h0
  | cons x xs ih =>
    refine hb x (List.mem_cons_self ..) s _ _ h0 fun h1 => ih (s := f s x) h1 (fun y hy => hb y (List.mem_cons_of_mem _ hy)) (fun y hy => hi y (List.mem_cons_of_mem _ hy)) hk
theorem forW_fold {xs : List α} {s : S} {body : α → S → (S → Prop) → (S → Prop) → Prop} {k : S → Prop} (f : S → α → S)
    (hb : ∀ x ∈ xs, ∀ s nx bk, nx (f s x) → body x s nx bk) (hk : k (xs.foldl f s)) : forW xs s body k :=
  forW_foldI f (fun _ => True) trivial (fun x hx s nx bk _ h => hb x hx s nx bk (h trivial)) (fun _ _ _ _ => trivial) fun _ => hk
theorem forW_unit {xs : List α} {body : α → Unit → (Unit → Prop) → (Unit → Prop) → Prop} {k : Unit → Prop}
    (hb : ∀ x ∈ xs, ∀ nx bk, nx () → body x () nx bk) (hk : k ()) : forW xs () body k :=
  forW_fold (fun s _ => s) (fun x hx _ nx bk h => hb x hx nx bk h) hk
theorem compG_fm {xs : List α} {acc : List β} {b : α → (Option β → Prop) → Prop} {k : List β → Prop} (f : α → Option β) (hb : ∀ x ∈ xs, ∀ kk, kk (f x) → b x kk) (hk : k (acc ++ xs.filterMap f)) : compG xs acc b k := by
  induction xs generalizing acc with
  | nil => simpa [compG] using hk
  | cons x xs ih =>
    refine hb x (List.mem_cons_self ..) _ (ih (fun y hy => hb y (List.mem_cons_of_mem _ hy)) ?_)
    rw [List.filterMap_cons] at hk
    cases h : f x with
    | none => rw [h] at hk; simpa using hk
    | some y => rw [h] at hk; simpa using hk
theorem compW_fm {xs : List α} {b : α → (Option β → Prop) → Prop} {k : List β → Prop} (f : α → Option β) (hb : ∀ x ∈ xs, ∀ kk, kk (f x) → b x kk) (hk : k (xs.filterMap f)) : compW xs b k :=
  compG_fm f hb (by simpa using hk)
theorem compW_map {xs : List α} {b : α → (Option β → Prop) → Prop} {k : List β → Prop} (f : α → β) (hb : ∀ x ∈ xs, ∀ kk, kk (some (f x)) → b x kk) (hk : k (xs.map f)) : compW xs b k :=
  compW_fm (fun x => some (f x)) hb (by rw [show (fun x => some (f x)) = some ∘ f from rfl, List.filterMap_eq_map]; exact hk)
theorem compW_filter {xs : List α} {b : α → (Option α → Prop) → Prop} {k : List α → Prop} (p : α → Bool) (hb : ∀ x ∈ xs, ∀ kk, (p x = true → kk (some x)) → (p x = false → kk none) → b x kk) (hk : k (xs.filter p)) : compW xs b k :=
  compW_fm (fun x => if p x = true then some x else none) (fun x hx kk h => hb x hx kk (fun e => by simpa [e] using h) (fun e => by simpa [e] using h)) (by
    have : (fun x => if p x = true then some x else none) = Option.guard (fun x => p x) := by funext x; by_cases h : p x = true <;> simp [Option.guard, h]
    rw [this, List.filterMap_eq_filter]; exact hk)
theorem whileW_of {test : S → (Bool → Prop) → Prop} {body : S → (S → Prop) → (S → Prop) → Prop} {s : S} {k : S → Prop} (I : S → Prop) (μ : S → Nat) (h0 : I s)
    (hb : ∀ s, I s → test s fun b => if b = true then body s (fun s' => (μ s' < μ s ∧ I s')) k else k s) (hm : ∀ {s p q}, (∀ x, p x → q x) → (test s fun b => if b = true then body s p k else k s) → (test s fun b => if b = true then body s q k else k s)) : whileW test body s k :=
  ⟨fun m s => m = μ s ∧ I s, ⟨_, rfl, h0⟩, fun m s ⟨e, h⟩ => hm (fun s' ⟨a, b⟩ => ⟨μ s', by rw [e]; exact a, rfl, b⟩) (hb s h)⟩
theorem forW_append {xs ys : List α} {s : S} {body : α → S → (S → Prop) → (S → Prop) → Prop} {k : S → Prop} : forW (xs ++ ys) s body k = forW xs s (fun x s nx bk => body x s nx k) (fun s => forW ys s body k) := by
  induction xs generalizing s with
  | nil => rfl
  | cons x xs ih =>
    show body x s (fun s' => forW (xs ++ ys) s' body k) k = body x s (fun s' => forW xs s' _ _) k
    simp only [ih]
/-- a comprehension whose turns are told by what they may give -/
def CR (P : α → Option β → Prop) : List α → List β → Prop
  | [], ys => ys = []
  | x :: xs, ys => ∃ o ys', P x o ∧ ys = o.toList ++ ys' ∧ CR P xs ys'
theorem compG_rel {xs : List α} {acc : List β} {b : α → (Option β → Prop) → Prop} {k : List β → Prop} (P : α → Option β → Prop) (hb : ∀ x ∈ xs, ∀ kk, (∀ o, P x o → kk o) → b x kk) (hk : ∀ ys, CR P xs ys → k (acc ++ ys)) : compG xs acc b k := by
  induction xs generalizing acc with
  | nil => have := hk [] rfl; rwa [List.append_nil] at this
  | cons x xs ih =>
    refine hb x (List.mem_cons_self ..) _ fun o ho => ih (fun y hy => hb y (List.mem_cons_of_mem _ hy)) fun ys hy => ?_
    rw [List.append_assoc]
    exact hk _ ⟨o, ys, ho, rfl, hy⟩
theorem compW_rel {xs : List α} {b : α → (Option β → Prop) → Prop} {k : List β → Prop} (P : α → Option β → Prop) (hb : ∀ x ∈ xs, ∀ kk, (∀ o, P x o → kk o) → b x kk) (hk : ∀ ys, CR P xs ys → k ys) : compW xs b k := compG_rel P hb fun ys h => by rw [List.nil_append]; exact hk ys h
theorem jnI {f : (S → Prop) → Prop} {k : S → Prop} (h : f k) : jn f k := h
/-- a while loop without a measure that must be told -/
theorem whileW_ind {test : S → (Bool → Prop) → Prop} {body : S → (S → Prop) → (S → Prop) → Prop} {s : S} {k : S → Prop} (I : S → Prop) (μ : S → Nat) (h0 : I s)
    (hb : ∀ s (nx : S → Prop), I s → (∀ s', I s' → μ s' < μ s → nx s') → test s fun b => if b = true then body s nx k else k s) : whileW test body s k :=
  ⟨fun m s => m = μ s ∧ I s, ⟨_, rfl, h0⟩, fun m s ⟨e, h⟩ => hb s _ h fun s' h' hl => ⟨μ s', by rw [e]; exact hl, rfl, h'⟩⟩
end
end Wk
/-! Bt: masks as sets of bits. -/
namespace Wk
theorem halfBit (n i : Nat) : (n / 2).testBit i = n.testBit (i + 1) := by rw [Nat.testBit_add_one]
theorem half_xor (a b : Nat) : (a ^^^ b) / 2 = a / 2 ^^^ b / 2 := Nat.eq_of_testBit_eq fun i => by rw [Nat.testBit_xor, halfBit, halfBit, halfBit, Nat.testBit_xor]
theorem half_and (a b : Nat) : (a &&& b) / 2 = a / 2 &&& b / 2 := Nat.eq_of_testBit_eq fun i => by rw [Nat.testBit_and, halfBit, halfBit, halfBit, Nat.testBit_and]
/-- is the number of bits odd? -/
def par (n : Nat) : Bool := if h : n = 0 then false else xor (n.testBit 0) (par (n / 2))
termination_by n
decreasing_by omega
theorem par_zero : par 0 = false := by rw [par]; simp
theorem par_step (n : Nat) : par n = xor (n.testBit 0) (par (n / 2)) := by
  by_cases h : n = 0
  · subst h; simp [par_zero]
  · rw [par, dif_neg h]
theorem par_xor : ∀ a b : Nat, par (a ^^^ b) = xor (par a) (par b) := by
  intro a
  induction a using Nat.strongRecOn with
  | ind a ih =>
    intro b
    by_cases h : a = 0
    · subst h; simp [par_zero]
    · rw [par_step (a ^^^ b), par_step a, par_step b, half_xor, ih (a / 2) (by omega), Nat.testBit_xor]
      cases a.testBit 0 <;> cases b.testBit 0 <;> cases par (a / 2) <;> cases par (b / 2) <;> rfl
theorem par_two_pow (k : Nat) : par (2 ^ k) = true := by
  induction k with
  | zero => rw [par_step]; simp [par_zero]
  | succ k ih =>
    rw [par_step, Nat.testBit_two_pow]
    have e : 2 ^ (k + 1) / 2 = 2 ^ k := by rw [Nat.pow_succ]; omega
    rw [e, ih]; simp
/-- the places of the bits below k -/
def bl (k n : Nat) : List Nat := (List.range k).filter n.testBit
theorem mem_bl {k n j : Nat} : j ∈ bl k n ↔ j < k ∧ n.testBit j = true := by simp [bl, List.mem_filter, List.mem_range]
theorem bl_len (k n : Nat) : (bl k n).length ≤ k := by
  have := List.length_filter_le n.testBit (List.range k)
  rw [List.length_range] at this; exact this
theorem bl_nodup (k n : Nat) : (bl k n).Nodup := (List.nodup_range).filter _
theorem bl_snoc (k n : Nat) : bl (k + 1) n = bl k n ++ if n.testBit k = true then [k] else [] := by
  unfold bl
  rw [List.range_succ, List.filter_append]
  by_cases h : n.testBit k = true
  · rw [if_pos h, List.filter_cons_of_pos h]; rfl
  · rw [if_neg h, List.filter_cons_of_neg h]; rfl
theorem bl_more {p k n : Nat} (h : p ≤ k) (z : n >>> p = 0) : bl k n = bl p n := by
  induction k with
  | zero => have : p = 0 := by omega
            subst this; rfl
  | succ k ih =>
    by_cases e : p = k + 1
    · subst e; rfl
    · rw [bl_snoc, ih (by omega)]
      have : n.testBit k = false := by
        have a : (n >>> p).testBit (k - p) = n.testBit (p + (k - p)) := Nat.testBit_shiftRight ..
        rw [z, Nat.zero_testBit] at a
        rw [show p + (k - p) = k by omega] at a
        exact a.symm
      simp [this]
theorem par_bl {k : Nat} : ∀ {n : Nat}, n < 2 ^ k → par n = decide ((bl k n).length % 2 = 1) := by
  induction k with
  | zero => intro n h; have : n = 0 := by simpa using h
            subst this; simp [par_zero, bl]
  | succ k ih =>
    intro n h
    have e : (bl (k + 1) n).length = (n.testBit 0).toNat + (bl k (n / 2)).length := by
      unfold bl
      rw [List.range_succ_eq_map, List.filter_cons]
      have m : (List.map Nat.succ (List.range k)).filter n.testBit = ((List.range k).filter (n / 2).testBit).map Nat.succ := by
        rw [List.filter_map]
        congr 1
        refine List.filter_congr fun x _ => ?_
        show n.testBit (x + 1) = (n / 2).testBit x
        rw [halfBit]
      rw [m]
      cases n.testBit 0 <;> simp [List.length_map] <;> omega
    rw [par_step, ih (n := n / 2) (by rw [Nat.pow_succ] at h; omega), e]
    cases n.testBit 0
    · simp
    · simp only [Bool.toNat_true]
      by_cases q : (bl k (n / 2)).length % 2 = 1
      · simp [q]; omega
      · simp [q]; omega
/-- the mask of places, each as often as it stands there -/
def mofI (m : Nat) (ps : List Nat) : Nat := ps.foldl (fun m p => m ^^^ 2 ^ p) m
def mof (ps : List Nat) : Nat := mofI 0 ps
theorem mofI_bit (ps : List Nat) (m j : Nat) : (mofI m ps).testBit j = xor (m.testBit j) (decide (ps.count j % 2 = 1)) := by
  induction ps generalizing m with
  | nil => simp [mofI]
  | cons p ps ih =>
    show (mofI (m ^^^ 2 ^ p) ps).testBit j = _
    rw [ih, Nat.testBit_xor, Nat.testBit_two_pow, List.count_cons]
    by_cases h : p = j
    · subst h
      by_cases q : ps.count p % 2 = 1
      · simp [q]; cases m.testBit p <;> simp <;> omega
      · simp [q]; cases m.testBit p <;> simp <;> omega
    · simp [h]
theorem mof_bit (ps : List Nat) (j : Nat) : (mof ps).testBit j = decide (ps.count j % 2 = 1) := by
  unfold mof; rw [mofI_bit, Nat.zero_testBit, Bool.false_xor]
theorem mofI_xor (ps : List Nat) (m : Nat) : mofI m ps = m ^^^ mof ps := Nat.eq_of_testBit_eq fun j => by rw [mofI_bit, Nat.testBit_xor, mof_bit]
theorem mof_append (ps qs : List Nat) : mof (ps ++ qs) = mof ps ^^^ mof qs := Nat.eq_of_testBit_eq fun j => by
  rw [Nat.testBit_xor, mof_bit, mof_bit, mof_bit, List.count_append]
  by_cases a : ps.count j % 2 = 1 <;> by_cases b : qs.count j % 2 = 1 <;> simp [a, b] <;> omega
theorem mof_reverse (ps : List Nat) : mof ps.reverse = mof ps := Nat.eq_of_testBit_eq fun j => by rw [mof_bit, mof_bit, List.count_reverse]
theorem testBit_big {n k j : Nat} (h : n < 2 ^ k) (hj : k ≤ j) : n.testBit j = false := Nat.testBit_lt_two_pow (Nat.lt_of_lt_of_le h (Nat.pow_le_pow_right (by decide) hj))
theorem count_bl {k n j : Nat} : (bl k n).count j = if j < k ∧ n.testBit j = true then 1 else 0 := by
  by_cases h : j < k ∧ n.testBit j = true
  · rw [if_pos h]
    exact Nat.le_antisymm (List.nodup_iff_count.mp (bl_nodup k n) j) (List.count_pos_iff.mpr (mem_bl.mpr h))
  · rw [if_neg h]
    exact List.count_eq_zero.mpr fun z => h (mem_bl.mp z)
theorem mof_bl {k n : Nat} (h : n < 2 ^ k) : mof (bl k n) = n := Nat.eq_of_testBit_eq fun j => by
  rw [mof_bit, count_bl]
  by_cases a : j < k
  · by_cases b : n.testBit j = true <;> simp [a, b]
  · have : n.testBit j = false := testBit_big h (Nat.le_of_not_lt a)
    simp [a, this]
/-! dicts -/
section
variable {κ α : Type} [DecidableEq κ] [KeyT κ]
theorem valT_nil (j : κ) : valT ([] : List (κ × α)) j = none := rfl
theorem valT_app {m : List (κ × α)} {j i : κ} {x : α} (h : hasT m j = false) : valT (m ++ [(j, x)]) i = if j = i then some x else valT m i := by
  induction m with
  | nil => show valT [(j, x)] i = _; rw [valT_cons]
  | cons q m ih =>
    have h' : q.1 ≠ j ∧ hasT m j = false := by
      unfold hasT at h ⊢
      rw [valT_cons] at h
      by_cases e : q.1 = j
      · rw [if_pos e] at h; cases h
      · rw [if_neg e] at h; exact ⟨e, h⟩
    rw [List.cons_append, valT_cons, valT_cons, ih h'.2]
    by_cases e : q.1 = i
    · rw [if_pos e, if_pos e, if_neg]
      intro z; exact h'.1 (e.trans z.symm)
    · rw [if_neg e, if_neg e]
theorem valT_map {m : List (κ × α)} {j i : κ} {x : α} : valT (m.map fun q => if q.1 = j then (q.1, x) else q) i = if j = i ∧ hasT m j = true then some x else valT m i := by
  induction m with
  | nil => show none = _; rw [if_neg (fun z => by cases z.2)]; rfl
  | cons q m ih =>
    rw [List.map_cons, valT_cons, valT_cons, ih]
    have hh : hasT (q :: m) j = if q.1 = j then true else hasT m j := by
      unfold hasT; rw [valT_cons]
      by_cases e : q.1 = j
      · rw [if_pos e, if_pos e]; rfl
      · rw [if_neg e, if_neg e]
    rw [hh]
    by_cases e : q.1 = j
    · rw [if_pos e, if_pos e]
      by_cases f : q.1 = i
      · rw [if_pos f, if_pos ⟨e.symm.trans f, rfl⟩]
      · rw [if_neg f, if_neg (fun z => f (e.trans z.1)), if_neg (fun z => f (e.trans z.1)), if_neg f]
    · rw [if_neg e, if_neg e]
      by_cases f : q.1 = i
      · rw [if_pos f, if_neg (fun z => e (f.trans z.1.symm))]
        rw [if_pos f]
      · rw [if_neg f, if_neg f]
theorem valT_putT {m : List (κ × α)} {j i : κ} {x : α} : valT (putT m j x) i = if j = i then some x else valT m i := by
  unfold putT
  cases h : hasT m j with
  | true =>
    rw [if_pos rfl, valT_map]
    by_cases e : j = i
    · rw [if_pos ⟨e, h⟩, if_pos e]
    · rw [if_neg (fun z => e z.1), if_neg e]
  | false => rw [if_neg (by simp), valT_app h]
theorem hasT_putT {m : List (κ × α)} {j i : κ} {x : α} : hasT (putT m j x) i = (decide (j = i) || hasT m i) := by
  unfold hasT; rw [valT_putT]
  by_cases e : j = i
  · rw [if_pos e, decide_eq_true e]; rfl
  · rw [if_neg e, decide_eq_false e]; rfl
theorem hasT_iff {m : List (κ × α)} {j : κ} : hasT m j = true ↔ j ∈ m.map (·.1) := by
  induction m with
  | nil => exact ⟨fun h => (by cases h), fun h => (by cases h)⟩
  | cons q m ih =>
    unfold hasT at ih ⊢
    rw [valT_cons, List.map_cons, List.mem_cons]
    by_cases e : q.1 = j
    · rw [if_pos e]; exact ⟨fun _ => .inl e.symm, fun _ => rfl⟩
    · rw [if_neg e, ih]; exact ⟨.inr, fun h => h.resolve_left fun z => e z.symm⟩
theorem putT_len {m : List (κ × α)} {j : κ} {x : α} : (putT m j x).length ≤ m.length + 1 := by
  unfold putT
  by_cases h : hasT m j = true
  · rw [if_pos h, List.length_map]; omega
  · rw [if_neg h, List.length_append]; exact Nat.le_refl _
end
theorem NDiv_pow {k : Nat} (h : k < 9000) : NDiv (2 ^ k) := ⟨Nat.two_pow_pos k, by rw [Nat.log2_two_pow]; exact h⟩
end Wk
/-! Gf: sums of masks. -/
namespace Wk
/-! the size of a number -/
theorem bits_zero : bits 0 = 0 := rfl
theorem bits_le {n k : Nat} : bits n ≤ k ↔ n < 2 ^ k := by
  unfold bits
  by_cases h : n = 0
  · subst h; simp [Nat.two_pow_pos]
  · rw [if_neg h]
    exact ⟨fun z => (Nat.log2_lt h).mp (Nat.lt_of_succ_le z), fun z => Nat.succ_le_of_lt ((Nat.log2_lt h).mpr z)⟩
theorem lt_bits (n : Nat) : n < 2 ^ bits n := bits_le.mp (Nat.le_refl _)
theorem bits_pos {n : Nat} (h : n ≠ 0) : 0 < bits n := by unfold bits; rw [if_neg h]; exact Nat.succ_pos _
theorem bits_eq_zero {n : Nat} : bits n = 0 ↔ n = 0 := ⟨fun h => by
  by_cases e : n = 0
  · exact e
  · have := bits_pos e; omega, fun h => by subst h; rfl⟩
theorem bits_ge {n k : Nat} (h : n.testBit k = true) : k < bits n := by
  refine Nat.lt_of_not_le fun z => ?_
  rw [testBit_big (bits_le.mp z) (Nat.le_refl _)] at h; cases h
theorem bits_bit {n : Nat} (h : n ≠ 0) : n.testBit (bits n - 1) = true := by
  have hp := bits_pos h
  have h1 : n < 2 ^ (bits n - 1 + 1) := by rw [Nat.sub_add_cancel hp]; exact lt_bits n
  have h2 : 2 ^ (bits n - 1) ≤ n := by
    refine Nat.le_of_not_lt fun z => ?_
    have := bits_le.mpr z
    omega
  rw [Nat.testBit_eq_decide_div_mod_eq, decide_eq_true_iff]
  have h3 : n / 2 ^ (bits n - 1) = 1 := by
    refine Nat.le_antisymm ?_ ?_
    · refine Nat.le_of_lt_succ (Nat.div_lt_of_lt_mul ?_)
      rw [Nat.pow_succ] at h1; exact h1
    · exact (Nat.one_le_div_iff (Nat.two_pow_pos _)).mpr h2
  rw [h3]
theorem bits_of_bit {n k : Nat} (h : n.testBit k = true) (h2 : n < 2 ^ (k + 1)) : bits n = k + 1 := Nat.le_antisymm (bits_le.mpr h2) (bits_ge h)
theorem bits_xor_ne {u l : Nat} (h : bits u < bits l) : bits (u ^^^ l) = bits l := by
  have hl : l ≠ 0 := fun z => by subst z; rw [bits_zero] at h; omega
  have hp := bits_pos hl
  have e : bits l - 1 + 1 = bits l := Nat.sub_add_cancel hp
  rw [← e]
  refine bits_of_bit ?_ ?_
  · rw [Nat.testBit_xor, bits_bit hl, testBit_big (lt_bits u) (by omega)]; rfl
  · rw [e]; exact Nat.xor_lt_two_pow (Nat.lt_trans (lt_bits u) (Nat.pow_lt_pow_right (by decide) h)) (lt_bits l)
theorem bits_xor_max {u l : Nat} (h : bits u ≠ bits l) : bits (u ^^^ l) = max (bits u) (bits l) := by
  rcases Nat.lt_or_gt_of_ne h with q | q
  · rw [bits_xor_ne q, Nat.max_eq_right (Nat.le_of_lt q)]
  · rw [Nat.xor_comm, bits_xor_ne q, Nat.max_eq_left (Nat.le_of_lt q)]
theorem bits_xor_eq {u l : Nat} (h : bits u = bits l) (hu : u ≠ 0) : bits (u ^^^ l) < bits u := by
  have hl : l ≠ 0 := fun z => by subst z; rw [bits_zero] at h; exact hu (bits_eq_zero.mp h)
  have hp := bits_pos hu
  refine Nat.lt_of_le_of_ne (bits_le.mpr (Nat.xor_lt_two_pow (lt_bits u) (by rw [h]; exact lt_bits l))) fun z => ?_
  have n0 : u ^^^ l ≠ 0 := fun q => by rw [q, bits_zero] at z; omega
  have := bits_bit n0
  rw [z, Nat.testBit_xor, bits_bit hu, h, bits_bit hl] at this
  cases this
theorem xor0 {a b : Nat} (h : a ^^^ b = 0) : a = b := by
  have e : (a ^^^ b) ^^^ b = b := by rw [h, Nat.zero_xor]
  rw [Nat.xor_assoc, Nat.xor_self, Nat.xor_zero] at e; exact e
/-! sums of rows -/
def comb : List Nat → Nat → Nat
  | [], _ => 0
  | r :: rs, S => (if S.testBit 0 = true then r else 0) ^^^ comb rs (S / 2)
theorem comb_xor : ∀ (rs : List Nat) (S T : Nat), comb rs (S ^^^ T) = comb rs S ^^^ comb rs T
  | [], _, _ => by simp [comb]
  | r :: rs, S, T => by
    show (if (S ^^^ T).testBit 0 = true then r else 0) ^^^ comb rs ((S ^^^ T) / 2) = _
    rw [half_xor, comb_xor rs, Nat.testBit_xor]
    show _ = ((if S.testBit 0 = true then r else 0) ^^^ comb rs (S / 2)) ^^^ ((if T.testBit 0 = true then r else 0) ^^^ comb rs (T / 2))
    generalize comb rs (S / 2) = a
    generalize comb rs (T / 2) = b
    cases S.testBit 0 <;> cases T.testBit 0
    · simp
    · simp only [Bool.false_xor, if_true, Bool.false_eq_true, if_false, Nat.zero_xor]
      rw [← Nat.xor_assoc, ← Nat.xor_assoc, Nat.xor_comm a r]
    · simp only [Bool.xor_false, if_true, Bool.false_eq_true, if_false, Nat.zero_xor]
      rw [Nat.xor_assoc]
    · simp only [Bool.xor_self, if_true, Bool.false_eq_true, if_false, Nat.zero_xor]
      rw [Nat.xor_comm r b, ← Nat.xor_assoc, Nat.xor_assoc (r ^^^ a), ]
      rw [Nat.xor_comm r a, Nat.xor_assoc a r, ← Nat.xor_assoc r b r, Nat.xor_comm r b, Nat.xor_assoc b r r, Nat.xor_self, Nat.xor_zero]
theorem comb_zero : ∀ rs : List Nat, comb rs 0 = 0
  | [] => rfl
  | r :: rs => by show (if Nat.testBit 0 0 = true then r else 0) ^^^ comb rs (0 / 2) = 0; rw [Nat.zero_div, comb_zero rs]; simp
theorem comb_ext : ∀ {rs : List Nat} {S T : Nat}, (∀ j, j < rs.length → S.testBit j = T.testBit j) → comb rs S = comb rs T
  | [], _, _, _ => rfl
  | r :: rs, S, T, h => by
    show (if S.testBit 0 = true then r else 0) ^^^ comb rs (S / 2) = (if T.testBit 0 = true then r else 0) ^^^ comb rs (T / 2)
    rw [h 0 (by simp), comb_ext (rs := rs) (S := S / 2) (T := T / 2) fun j hj => by
      rw [halfBit, halfBit]; exact h (j + 1) (by simpa using hj)]
theorem comb_snoc : ∀ (rs : List Nat) (r S : Nat), comb (rs ++ [r]) S = comb rs S ^^^ if S.testBit rs.length = true then r else 0
  | [], r, S => by simp [comb]
  | q :: rs, r, S => by
    show (if S.testBit 0 = true then q else 0) ^^^ comb (rs ++ [r]) (S / 2) = _
    rw [comb_snoc rs, halfBit]
    show _ = ((if S.testBit 0 = true then q else 0) ^^^ comb rs (S / 2)) ^^^ _
    rw [← Nat.xor_assoc]; rfl
theorem comb_lt : ∀ {rs : List Nat} {S k : Nat}, (∀ r ∈ rs, r < 2 ^ k) → comb rs S < 2 ^ k
  | [], _, _, _ => Nat.two_pow_pos _
  | r :: rs, S, k, h => by
    refine Nat.xor_lt_two_pow ?_ (comb_lt fun x hx => h x (List.mem_cons_of_mem _ hx))
    by_cases q : S.testBit 0 = true
    · rw [if_pos q]; exact h r (List.mem_cons_self ..)
    · rw [if_neg q]; exact Nat.two_pow_pos _
theorem comb_pow_len (rs : List Nat) : comb rs (2 ^ rs.length) = 0 := by
  rw [← comb_zero rs]
  refine comb_ext fun j hj => ?_
  rw [Nat.testBit_two_pow, Nat.zero_testBit, decide_eq_false (by omega)]
theorem comb_map (f : Nat → Nat) (h0 : f 0 = 0) (hf : ∀ a b, f (a ^^^ b) = f a ^^^ f b) : ∀ (vs : List Nat) (S : Nat), comb (vs.map f) S = f (comb vs S)
  | [], _ => h0.symm
  | v :: vs, S => by
    show (if S.testBit 0 = true then f v else 0) ^^^ comb (vs.map f) (S / 2) = f ((if S.testBit 0 = true then v else 0) ^^^ comb vs (S / 2))
    rw [comb_map f h0 hf vs, hf]
    by_cases q : S.testBit 0 = true
    · rw [if_pos q, if_pos q]
    · rw [if_neg q, if_neg q, h0]
/-- the sums of the rows -/
def Span (vs : List Nat) (v : Nat) : Prop := ∃ S, comb vs S = v
theorem Span.zero (vs : List Nat) : Span vs 0 := ⟨0, comb_zero vs⟩
theorem Span.xor {vs : List Nat} {u v : Nat} : Span vs u → Span vs v → Span vs (u ^^^ v) := fun ⟨S, a⟩ ⟨T, b⟩ => ⟨S ^^^ T, by rw [comb_xor, a, b]⟩
theorem Span.low {vs : List Nat} {v : Nat} : Span vs v → ∃ S, S < 2 ^ vs.length ∧ comb vs S = v := fun ⟨S, a⟩ => ⟨S % 2 ^ vs.length, Nat.mod_lt _ (Nat.two_pow_pos _), by
  rw [← a]
  refine comb_ext fun j hj => ?_
  rw [Nat.testBit_mod_two_pow, decide_eq_true hj, Bool.true_and]⟩
theorem Span.snoc {vs : List Nat} {r v : Nat} : Span (vs ++ [r]) v ↔ Span vs v ∨ Span vs (v ^^^ r) := by
  constructor
  · rintro ⟨S, h⟩
    rw [comb_snoc] at h
    by_cases q : S.testBit vs.length = true
    · rw [if_pos q] at h
      exact .inr ⟨S, by rw [← h, Nat.xor_assoc, Nat.xor_self, Nat.xor_zero]⟩
    · rw [if_neg q, Nat.xor_zero] at h
      exact .inl ⟨S, h⟩
  · rintro (h | h)
    · obtain ⟨S, hl, e⟩ := h.low
      exact ⟨S, by rw [comb_snoc, testBit_big hl (Nat.le_refl _), e]; simp⟩
    · obtain ⟨S, hl, e⟩ := h.low
      refine ⟨S ^^^ 2 ^ vs.length, ?_⟩
      rw [comb_snoc, comb_xor, comb_pow_len, e, Nat.testBit_xor, testBit_big hl (Nat.le_refl _), Nat.testBit_two_pow, decide_eq_true rfl]
      simp [Nat.xor_assoc]
theorem Span.nil {v : Nat} : Span [] v ↔ v = 0 := ⟨fun ⟨_, h⟩ => h.symm, fun h => by subst h; exact Span.zero _⟩
theorem Span.inj {vs : List Nat} {k : Nat} (f : Nat → Nat) (h0 : f 0 = 0) (hf : ∀ a b, f (a ^^^ b) = f a ^^^ f b) (hi : ∀ a, a < 2 ^ k → f a = 0 → a = 0) (hv : ∀ v ∈ vs, v < 2 ^ k) {v : Nat} (hk : v < 2 ^ k) : Span (vs.map f) (f v) ↔ Span vs v := by
  constructor
  · rintro ⟨S, h⟩
    rw [comb_map f h0 hf] at h
    refine ⟨S, ?_⟩
    have : comb vs S ^^^ v = 0 := hi _ (Nat.xor_lt_two_pow (comb_lt hv) hk) (by rw [hf, h, Nat.xor_self])
    exact xor0 this
  · rintro ⟨S, h⟩
    exact ⟨S, by rw [comb_map f h0 hf, h]⟩
/-- masks with unlike highest bits, rising -/
def Incr (ws : List Nat) : Prop := ws.Pairwise (fun a b => bits a < bits b) ∧ ∀ w ∈ ws, w ≠ 0
theorem Incr.snoc {ws : List Nat} {w : Nat} (h : Incr ws) (hb : ∀ x ∈ ws, bits x < bits w) (h0 : w ≠ 0) : Incr (ws ++ [w]) := ⟨List.pairwise_append.mpr ⟨h.1, List.pairwise_singleton _ _, fun a ha b hb' => by rw [List.mem_singleton.mp hb']; exact hb a ha⟩, fun x hx => by
  rcases List.mem_append.mp hx with q | q
  · exact h.2 x q
  · rw [List.mem_singleton.mp q]; exact h0⟩
theorem comb_snoc_bits {ws : List Nat} {w S : Nat} (hb : ∀ x ∈ ws, bits x < bits w) : bits (comb ws S) < bits w ∨ w = 0 := by
  by_cases h : w = 0
  · exact .inr h
  · left
    have hp := bits_pos h
    refine Nat.lt_of_le_of_lt (bits_le.mpr (comb_lt (k := bits w - 1) fun x hx => ?_)) (by omega)
    have := hb x hx
    exact bits_le.mp (by omega)
theorem Incr.inj : ∀ {ws : List Nat} {S : Nat}, Incr ws → S < 2 ^ ws.length → comb ws S = 0 → S = 0 := by
  intro ws
  induction hn : ws.length generalizing ws with
  | zero => intro S _ hS _; simpa using hS
  | succ n ih =>
    intro S hI hS h
    obtain ⟨us, w, rfl⟩ : ∃ us w, ws = us ++ [w] := ⟨ws.dropLast, ws.getLast (by intro z; subst z; cases hn), (List.dropLast_concat_getLast _).symm⟩
    have hl : us.length = n := by rw [List.length_append] at hn; simpa using hn
    obtain ⟨hp, h0⟩ := hI
    rw [List.pairwise_append] at hp
    have hw : w ≠ 0 := h0 w (List.mem_append_right _ (List.mem_singleton_self _))
    have hb : ∀ x ∈ us, bits x < bits w := fun x hx => hp.2.2 x hx w (List.mem_singleton_self _)
    rw [comb_snoc, hl] at h
    by_cases q : S.testBit n = true
    · rw [if_pos q] at h
      have e := xor0 h
      rcases comb_snoc_bits (S := S) hb with z | z
      · rw [e] at z; exact absurd z (Nat.lt_irrefl _)
      · exact absurd z hw
    · rw [if_neg q, Nat.xor_zero] at h
      have hS' : S < 2 ^ n := by
        refine Nat.lt_pow_two_of_testBit _ fun j hj => ?_
        by_cases e : j = n
        · subst e; simpa using q
        · exact testBit_big hS (by omega)
      exact ih (ws := us) hl ⟨hp.1, fun x hx => h0 x (List.mem_append_left _ hx)⟩ hS' h
/-- the places of rows that are no sums of rows ahead -/
noncomputable def fndP (rs : List Nat) : List Nat := open Classical in (List.range rs.length).filter fun j => decide (¬ Span (rs.take j) (rs.getD j 0))
theorem fndP_nil : fndP [] = [] := rfl
theorem fndP_snoc (rs : List Nat) (r : Nat) : fndP (rs ++ [r]) = fndP rs ++ open Classical in if Span rs r then [] else [rs.length] := by
  classical
  unfold fndP
  rw [List.length_append, List.length_singleton, List.range_succ, List.filter_append]
  congr 1
  · refine List.filter_congr fun j hj => ?_
    have hj' := List.mem_range.mp hj
    rw [List.take_append_of_le_length (Nat.le_of_lt hj'), List.getD_eq_getElem?_getD, List.getD_eq_getElem?_getD, List.getElem?_append_left hj']
  · have e1 : (rs ++ [r]).take rs.length = rs := by rw [List.take_append_of_le_length (Nat.le_refl _), List.take_length]
    have e2 : (rs ++ [r]).getD rs.length 0 = r := by rw [List.getD_eq_getElem?_getD, List.getElem?_append_right (Nat.le_refl _), Nat.sub_self]; rfl
    by_cases q : Span rs r
    · rw [if_pos q, List.filter_cons_of_neg (by rw [e1, e2]; simpa using q)]; rfl
    · rw [if_neg q, List.filter_cons_of_pos (by rw [e1, e2]; simpa using q)]; rfl
theorem fndP_len (rs : List Nat) : (fndP rs).length ≤ rs.length := by
  unfold fndP
  have := List.length_filter_le (fun j => open Classical in decide (¬ Span (rs.take j) (rs.getD j 0))) (List.range rs.length)
  rw [List.length_range] at this; exact this
theorem fndP_congr {rs qs : List Nat} (hl : rs.length = qs.length) (h : ∀ j, j < rs.length → (Span (rs.take j) (rs.getD j 0) ↔ Span (qs.take j) (qs.getD j 0))) : fndP rs = fndP qs := by
  classical
  unfold fndP
  rw [← hl]
  refine List.filter_congr fun j hj => ?_
  rw [decide_eq_decide, h j (List.mem_range.mp hj)]
theorem fndP_map {rs : List Nat} {k : Nat} (f : Nat → Nat) (h0 : f 0 = 0) (hf : ∀ a b, f (a ^^^ b) = f a ^^^ f b) (hi : ∀ a, a < 2 ^ k → f a = 0 → a = 0) (hv : ∀ v ∈ rs, v < 2 ^ k) : fndP (rs.map f) = fndP rs := by
  refine fndP_congr (List.length_map _) fun j hj => ?_
  rw [List.length_map] at hj
  rw [← List.map_take]
  have e : (rs.map f).getD j 0 = f (rs.getD j 0) := by
    rw [List.getD_eq_getElem?_getD, List.getD_eq_getElem?_getD, List.getElem?_map, List.getElem?_eq_getElem hj]; rfl
  rw [e]
  have hm : rs.getD j 0 ∈ rs := by rw [List.getD_eq_getElem?_getD, List.getElem?_eq_getElem hj]; exact List.getElem_mem hj
  exact Span.inj f h0 hf hi (fun v hv' => hv v (List.mem_of_mem_take hv')) (hv _ hm)
/-- numbers below k, none twice: at most k of them -/
theorem nodup_len : ∀ {k : Nat} {l : List Nat}, l.Nodup → (∀ x ∈ l, x < k) → l.length ≤ k
  | 0, l, _, h => by cases l with
    | nil => exact Nat.le_refl _
    | cons x l => exact absurd (h x (List.mem_cons_self ..)) (Nat.not_lt_zero _)
  | k + 1, l, hn, h => by
    have h1 : (l.erase k).length ≤ k := nodup_len (hn.erase k) fun x hx => by
      have hm := List.mem_of_mem_erase hx
      have := h x hm
      have hk : x ≠ k := fun z => by subst z; exact (List.Nodup.not_mem_erase hn) hx
      omega
    have h2 : l.length ≤ (l.erase k).length + 1 := by
      by_cases q : k ∈ l
      · rw [List.length_erase_of_mem q]; omega
      · rw [List.erase_of_not_mem q]; omega
    omega
end Wk
/-! Po: polynomials over two elements, as masks. -/
namespace Wk
def pm (a b : Nat) : Nat := if h : b = 0 then 0 else (if b.testBit 0 = true then a else 0) ^^^ pm (2 * a) (b / 2)
termination_by b
decreasing_by omega
theorem pm_zero (a : Nat) : pm a 0 = 0 := by rw [pm]; simp
theorem pm_step (a b : Nat) : pm a b = (if b.testBit 0 = true then a else 0) ^^^ pm (2 * a) (b / 2) := by
  by_cases h : b = 0
  · subst h; simp [pm_zero]
  · rw [pm, dif_neg h]
theorem two_xor (a b : Nat) : 2 * (a ^^^ b) = 2 * a ^^^ 2 * b := Nat.eq_of_testBit_eq fun i => by
  rw [Nat.testBit_xor]
  cases i with
  | zero => simp [Nat.testBit_zero]
  | succ i => rw [Nat.testBit_add_one, Nat.testBit_add_one, Nat.testBit_add_one]; simp [Nat.testBit_xor]
theorem ifx {c : Bool} {a b : Nat} : (if c = true then a ^^^ b else 0) = (if c = true then a else 0) ^^^ (if c = true then b else 0) := by cases c <;> simp
theorem xor_swap (a b c d : Nat) : (a ^^^ b) ^^^ (c ^^^ d) = (a ^^^ c) ^^^ (b ^^^ d) := by
  rw [Nat.xor_assoc, ← Nat.xor_assoc b c d, Nat.xor_comm b c, Nat.xor_assoc c b d, ← Nat.xor_assoc]
theorem pm_xor_r (b : Nat) : ∀ a c : Nat, pm a (b ^^^ c) = pm a b ^^^ pm a c := by
  induction b using Nat.strongRecOn with
  | ind b ih =>
    intro a c
    by_cases h : b = 0
    · subst h; rw [Nat.zero_xor, pm_zero, Nat.zero_xor]
    · rw [pm_step a (b ^^^ c), pm_step a b, pm_step a c, half_xor, ih (b / 2) (by omega), Nat.testBit_xor, xor_swap]
      congr 1
      cases b.testBit 0 <;> cases c.testBit 0 <;> simp
theorem pm_xor_l (c : Nat) : ∀ a b : Nat, pm (a ^^^ b) c = pm a c ^^^ pm b c := by
  induction c using Nat.strongRecOn with
  | ind c ih =>
    intro a b
    by_cases h : c = 0
    · subst h; simp [pm_zero]
    · rw [pm_step (a ^^^ b), pm_step a c, pm_step b c, two_xor, ih (c / 2) (by omega), ifx, xor_swap]
theorem pm_dbl (b : Nat) : ∀ a, pm (2 * a) b = 2 * pm a b := by
  induction b using Nat.strongRecOn with
  | ind b ih =>
    intro a
    by_cases h : b = 0
    · subst h; simp [pm_zero]
    · rw [pm_step (2 * a), pm_step a, ih (b / 2) (by omega), two_xor]
      congr 1
      cases b.testBit 0 <;> simp
theorem pm_half (a b : Nat) : pm a b = (if b.testBit 0 = true then a else 0) ^^^ 2 * pm a (b / 2) := by rw [pm_step, pm_dbl]
theorem pm_zero_l (b : Nat) : pm 0 b = 0 := by
  induction b using Nat.strongRecOn with
  | ind b ih =>
    by_cases h : b = 0
    · subst h; exact pm_zero 0
    · rw [pm_half, ih (b / 2) (by omega)]; simp
theorem pm_one_l (b : Nat) : pm 1 b = b := by
  induction b using Nat.strongRecOn with
  | ind b ih =>
    by_cases h : b = 0
    · subst h; exact pm_zero 1
    · rw [pm_half, ih (b / 2) (by omega), Nat.testBit_zero]
      rcases Nat.mod_two_eq_zero_or_one b with e | e
      · rw [if_neg (by simp [e]), Nat.zero_xor]; omega
      · rw [if_pos (by simp [e])]
        have : 1 ^^^ 2 * (b / 2) = 2 * (b / 2) + 1 := Nat.eq_of_testBit_eq fun i => by
          rw [Nat.testBit_xor]
          cases i with
          | zero => simp [Nat.testBit_zero]
          | succ i =>
            rw [Nat.testBit_add_one, Nat.testBit_add_one, Nat.testBit_add_one]
            have a : (2 * (b / 2) + 1) / 2 = 2 * (b / 2) / 2 := by omega
            rw [a]; simp
        rw [this]; omega
theorem dbl_half (b : Nat) : b = (if b.testBit 0 = true then 1 else 0) ^^^ 2 * (b / 2) := by
  have := pm_half 1 b
  rw [pm_one_l, pm_one_l] at this; exact this
theorem pm_comm (b : Nat) : ∀ a, pm a b = pm b a := by
  induction b using Nat.strongRecOn with
  | ind b ih =>
    intro a
    by_cases h : b = 0
    · subst h; rw [pm_zero, pm_zero_l]
    · rw [pm_half a b, ih (b / 2) (by omega)]
      conv => rhs; rw [dbl_half b]
      rw [pm_xor_l, pm_dbl]
      congr 1
      cases b.testBit 0 <;> simp [pm_one_l, pm_zero_l]
theorem pm_assoc (c : Nat) : ∀ a b, pm (pm a b) c = pm a (pm b c) := by
  induction c using Nat.strongRecOn with
  | ind c ih =>
    intro a b
    by_cases h : c = 0
    · subst h; simp [pm_zero]
    · rw [pm_half (pm a b) c, pm_half b c, pm_xor_r, ih (c / 2) (by omega)]
      congr 1
      · cases c.testBit 0 <;> simp [pm_zero]
      · rw [pm_comm (2 * pm b (c / 2)), pm_dbl, pm_comm a]
theorem pm_pow (a k : Nat) : pm a (2 ^ k) = a <<< k := by
  induction k with
  | zero => rw [Nat.pow_zero, pm_comm, pm_one_l, Nat.shiftLeft_zero]
  | succ k ih =>
    rw [pm_half, Nat.testBit_two_pow, decide_eq_false (by omega), Nat.pow_succ, Nat.mul_div_cancel _ (by decide), ih]
    simp [Nat.shiftLeft_eq, Nat.pow_succ, Nat.mul_comm, Nat.mul_left_comm]
theorem bits_shl {a : Nat} (h : a ≠ 0) (k : Nat) : bits (a <<< k) = bits a + k := by
  have hp := bits_pos h
  have e : bits a + k = (bits a - 1 + k) + 1 := by omega
  rw [e]
  refine bits_of_bit ?_ ?_
  · rw [Nat.testBit_shiftLeft, decide_eq_true (by omega), Bool.true_and, show bits a - 1 + k - k = bits a - 1 by omega]
    exact bits_bit h
  · rw [Nat.shiftLeft_eq, show bits a - 1 + k + 1 = bits a + k by omega, Nat.pow_add]
    exact Nat.mul_lt_mul_of_pos_right (lt_bits a) (Nat.two_pow_pos k)
theorem bits_pm (b : Nat) : ∀ a, a ≠ 0 → b ≠ 0 → bits (pm a b) + 1 = bits a + bits b := by
  induction b using Nat.strongRecOn with
  | ind b ih =>
    intro a ha hb
    have hp := bits_pos hb
    have hpa := bits_pos ha
    generalize hk : bits b - 1 = k
    have tb : b.testBit k = true := by rw [← hk]; exact bits_bit hb
    have e : b = (b ^^^ 2 ^ k) ^^^ 2 ^ k := by rw [Nat.xor_assoc, Nat.xor_self, Nat.xor_zero]
    have bp : bits (2 ^ k) = k + 1 := bits_of_bit (by rw [Nat.testBit_two_pow]; simp) (Nat.pow_lt_pow_right (by decide) (Nat.lt_succ_self _))
    have lt : bits (b ^^^ 2 ^ k) < bits b := bits_xor_eq (by rw [bp]; omega) hb
    have ltn : b ^^^ 2 ^ k < b := by
      have h1 : b ^^^ 2 ^ k < 2 ^ k := bits_le.mp (by omega)
      have h2 : 2 ^ k ≤ b := by
        refine Nat.le_of_not_lt fun z => ?_
        have := bits_le.mpr z
        omega
      omega
    have e1 : pm a b = pm a (b ^^^ 2 ^ k) ^^^ a <<< k := by
      conv => lhs; rw [e]
      rw [pm_xor_r, pm_pow]
    have s := bits_shl ha k
    have l2 : bits (pm a (b ^^^ 2 ^ k)) < bits (a <<< k) := by
      by_cases z : b ^^^ 2 ^ k = 0
      · rw [z, pm_zero, bits_zero, s]; omega
      · have := ih _ ltn a ha z
        rw [s]; omega
    rw [e1, bits_xor_ne l2, s]; omega
theorem pm_ne {a b : Nat} (ha : a ≠ 0) (hb : b ≠ 0) : pm a b ≠ 0 := fun z => by
  have := bits_pm b a ha hb
  rw [z, bits_zero] at this
  have := bits_pos ha
  have := bits_pos hb
  omega
theorem bits_pm_le (a b : Nat) : bits (pm a b) ≤ bits a + bits b := by
  by_cases ha : a = 0
  · subst ha; rw [pm_zero_l, bits_zero]; omega
  · by_cases hb : b = 0
    · subst hb; rw [pm_zero, bits_zero]; omega
    · have := bits_pm b a ha hb; omega
/-- d goes into a -/
def Dv (d a : Nat) : Prop := ∃ q, pm q d = a
theorem Dv.zero (d : Nat) : Dv d 0 := ⟨0, pm_zero_l d⟩
theorem Dv.rfl' (d : Nat) : Dv d d := ⟨1, pm_one_l d⟩
theorem Dv.xor {d a b : Nat} : Dv d a → Dv d b → Dv d (a ^^^ b) := fun ⟨q, h⟩ ⟨r, k⟩ => ⟨q ^^^ r, by rw [pm_xor_l, h, k]⟩
theorem Dv.mul {d a : Nat} (c : Nat) : Dv d a → Dv d (pm a c) := fun ⟨q, h⟩ => ⟨pm q c, by rw [pm_assoc, pm_comm d, ← pm_assoc, h]⟩
theorem Dv.mul' {d a : Nat} (c : Nat) (h : Dv d a) : Dv d (pm c a) := by rw [pm_comm]; exact h.mul c
theorem Dv.tr {a b c : Nat} : Dv a b → Dv b c → Dv a c := fun ⟨q, h⟩ ⟨r, k⟩ => ⟨pm r q, by rw [pm_assoc, h, k]⟩
theorem Dv.le {d a : Nat} (h : Dv d a) (ha : a ≠ 0) : bits d ≤ bits a ∧ d ≠ 0 := by
  obtain ⟨q, rfl⟩ := h
  have hq : q ≠ 0 := fun z => ha (by rw [z, pm_zero_l])
  have hd : d ≠ 0 := fun z => ha (by rw [z, pm_zero])
  have := bits_pm d q hq hd
  have := bits_pos hq
  exact ⟨by omega, hd⟩
theorem Dv.eq {d a : Nat} (h : Dv d a) (hb : bits a ≤ bits d) : a = d ∨ a = 0 := by
  by_cases ha : a = 0
  · exact .inr ha
  · left
    obtain ⟨q, rfl⟩ := h
    have hq : q ≠ 0 := fun z => ha (by rw [z, pm_zero_l])
    have hd : d ≠ 0 := fun z => ha (by rw [z, pm_zero])
    have := bits_pm d q hq hd
    have q1 : bits q ≤ 1 := by omega
    have : q < 2 := bits_le.mp q1
    have : q = 1 := by omega
    rw [this, pm_one_l]
theorem Dv.anti {a b : Nat} (h : Dv a b) (k : Dv b a) : a = b := by
  by_cases hb : b = 0
  · subst hb
    obtain ⟨q, h⟩ := k
    rw [← h, pm_zero]
  · have ha : a ≠ 0 := (h.le hb).2
    rcases h.eq (k.le ha).1 with e | e
    · exact e.symm
    · exact absurd e hb
/-- the rest is one alone -/
theorem rest_one {o q r q' r' : Nat} (hr : bits r < bits o) (hr' : bits r' < bits o) (e : pm q o ^^^ r = pm q' o ^^^ r') : q = q' ∧ r = r' := by
  have e1 : pm (q ^^^ q') o = r ^^^ r' := by
    rw [pm_xor_l]
    have : (pm q o ^^^ r) ^^^ (pm q' o ^^^ r') = 0 := by rw [e, Nat.xor_self]
    rw [xor_swap] at this
    exact xor0 this
  have ho : o ≠ 0 := fun z => by rw [z, bits_zero] at hr; omega
  have hl : bits (r ^^^ r') < bits o := by
    have h1 : r < 2 ^ (bits o - 1) := bits_le.mp (by omega)
    have h2 : r' < 2 ^ (bits o - 1) := bits_le.mp (by omega)
    have := bits_le.mpr (Nat.xor_lt_two_pow h1 h2)
    omega
  by_cases hq : q ^^^ q' = 0
  · have := xor0 hq
    subst this
    rw [Nat.xor_self, pm_zero_l] at e1
    exact ⟨rfl, xor0 e1.symm⟩
  · have := bits_pm o _ hq ho
    rw [e1] at this
    have := bits_pos hq
    omega
end Wk
/-! Ob: walks of any kind, objects with fields, things that are only read. -/
namespace Wk
open PySem L2
section
variable {α β S : Type} {K : PySem.W.Frag} {σ : L2.St} {F0 H0 F F' H H' : Hp} {te tl ta tb to : TE} {tt tc : TT} {tA : TA} {Q : VK} {v w u : V} {xs ys : List α} {x y : α} {D : Ends} {tu : TS} {p q : Addr} {n : Nat} {i : Int} {g : TG} {J : It} {e : Rep α} {b : Rep β} {zs : List β} {o : HO}
/-! ### walks -/
def kFor (g : TG) (tu : TS) (D : Ends) (σ : L2.St) (J : It) (H : Hp) : Prop := ∃ W : Nat → Nat → L2.St → Hp → Prop, (∃ m, W 0 m σ H) ∧ ∀ i m σ H, W i m σ H →
  (J.stop i H ∧ D.nx σ H) ∨ (J.go i H ∧ ∃ N : L2.St → Hp → Prop, (∀ σ' H', N σ' H' → ∃ m', m' < m ∧ W (i + 1) m' σ' H') ∧ ∀ x H', J.yld i H x H' → g x σ H' fun σ2 H2 => tu { D with nx := N, ct := N, bk := D.nx } σ2 H2)
def kCp (g : TG) (tc : TT) (te : TE) (vs : List Nat) (σ : L2.St) (Q : VK) (J : It) (H : Hp) : Prop := ∀ D, H D = none → ∃ W : Nat → Nat → Hp → Prop, (∃ m, W 0 m (upd H D (.lst []))) ∧ ∀ i m H, W i m H →
  (J.stop i H ∧ Q (.ref D) H) ∨ (J.go i H ∧ ∃ Nx : Hp → Prop, (∀ H', Nx H' → ∃ m', m' < m ∧ W (i + 1) m' H') ∧ ∀ x H', J.yld i H x H' → g x (wipe σ vs) H' fun σ2 H2 => wipe σ2 vs = wipe σ vs ∧ tc σ2 H2 fun b H3 =>
    if b = true then te σ2 H3 fun y H4 => ∃ acc, H4 D = some (.lst acc) ∧ acc.length < sizeLine ∧ Nx (upd H4 D (.lst (acc ++ [y]))) else Nx H3)
/-- a walk over frozen things: its turns give the items of zs -/
def TWk (J : It) (F : Hp) (b : Rep β) (zs : List β) : Prop := ∃ G Y, Walk J zs.length G Y ∧ (∀ F' H', Ex F F' → Ex F' H' → G H') ∧
  ∀ i H x H' F', i < zs.length → Ex F F' → Ex F' H → Y i H x H' → ∃ z F1, zs[i]? = some z ∧ Wf F' H F1 H' ∧ b.r F1 x z
theorem f_J {wi : TI} (h : wi σ H (kFor g tu D σ)) : tFor wi g tu D σ H := h
theorem c_J {wi : TI} {vs : List Nat} (h : wi σ H (kCp g tc te vs σ Q)) : tLc wi g tc te vs σ H Q := h
theorem w_forG {s0 : S} {k : S → Prop} {body : β → S → (S → Prop) → (S → Prop) → Prop} (T : TWk J F b zs) (Inv : S → L2.St → Hp → Hp → Prop) (hW : forW zs s0 body k) (h0 : Inv s0 σ F H)
    (ex : ∀ s σ' F' H', Inv s σ' F' H' → Ex F F' ∧ Ex F' H') (f : Ex F H)
    (turn : ∀ (N Bk : L2.St → Hp → Prop) x u s σ' F' H' F1 H1 (nx bk : S → Prop), Inv s σ' F' H' → x ∈ zs → Wf F' H' F1 H1 → b.r F1 u x → body x s nx bk → (∀ s' σ2 F2 H2, Inv s' σ2 F2 H2 → nx s' → N σ2 H2) → (∀ s' σ2 F2 H2, Inv s' σ2 F2 H2 → bk s' → Bk σ2 H2) →
      g u σ' H1 fun σ2 H2 => tu { D with nx := N, ct := N, bk := Bk } σ2 H2)
    (done : ∀ s σ' F' H', Inv s σ' F' H' → k s → D.nx σ' H') : kFor g tu D σ J H := by
  obtain ⟨G, Y, wk, hG, hY⟩ := T
  refine for_it wk (fun i σ' H' => ∃ s F', Inv s σ' F' H' ∧ forW (zs.drop i) s body k) ⟨s0, F, h0, hW⟩ (fun i σ' H' _ ⟨s, F', hI, _⟩ => hG F' H' (ex _ _ _ _ hI).1 (ex _ _ _ _ hI).2) ?_ ?_
  · rintro i u σ' H' H1 hi ⟨s, F', hI, hw⟩ hy
    obtain ⟨x, F1, hx, q, rx⟩ := hY i H' u H1 F' hi (ex _ _ _ _ hI).1 (ex _ _ _ _ hI).2 hy
    have e : zs.drop i = x :: zs.drop (i + 1) := by
      obtain ⟨h1, h2⟩ := List.getElem?_eq_some_iff.mp hx
      rw [← h2]; exact List.drop_eq_getElem_cons h1
    rw [e] at hw
    exact turn _ _ x u s σ' F' H' F1 H1 _ _ hI (List.mem_of_getElem? hx) q rx hw (fun s' σ2 F2 H2 q n => ⟨s', F2, q, n⟩) (fun s' σ2 F2 H2 q n => done s' σ2 F2 H2 q n)
  · rintro σ' H' ⟨s, F', hI, hw⟩
    rw [List.drop_of_length_le (Nat.le_refl _)] at hw
    exact done _ _ _ _ hI hw
theorem w_compG {vs : List Nat} {bd : β → (Option α → Prop) → Prop} {kk : List α → Prop} (T : TWk J F b zs) (w : Wf F0 H0 F H) (hn : zs.length < 1000000) (hW : compW zs bd kk)
    (turn : ∀ (Qy : V → Hp → Prop) (Qn : Hp → Prop) x u F1 H1 (R : Option α → Prop), Wf F H F1 H1 → x ∈ zs → b.r F1 u x → bd x R → (∀ y z F2 H2, Wf F1 H1 F2 H2 → e.r F2 y z → R (some z) → Qy y H2) → (∀ F2 H2, Wf F1 H1 F2 H2 → R none → Qn H2) →
      g u (wipe σ vs) H1 fun σ2 H2 => wipe σ2 vs = wipe σ vs ∧ tc σ2 H2 fun b H3 => if b = true then te σ2 H3 Qy else Qn H3)
    (done : ∀ p ys F' H', H p = none → Wf F H F' H' → XL e H0 F' H' p ys → kk ys → Q (.ref p) H') : kCp g tc te vs σ Q J H := by
  obtain ⟨G, Y, wk, hG, hY⟩ := T
  intro D hD
  refine lc_it wk (fun i H' => ∃ F' ac ys, Wf F H F' H' ∧ Xc H F' H' D (.lst ac) ∧ All e F' ac ys ∧ ys.length ≤ i ∧ compG (zs.drop i) ys bd kk)
    ⟨F, [], [], Wf.newX w.f hD, Xc.mk' (Wf.id w.f) hD, trivial, Nat.le_refl _, hW⟩ (fun i H' _ ⟨F', ac, ys, q, _⟩ => hG F' H' q.g q.f) ?_ ?_
  · rintro i u H' H1 hi ⟨F', ac, ys, q, xc, al, hl, hw⟩ hy
    obtain ⟨x, F1, hx, q1, rx⟩ := hY i H' u H1 F' hi q.g q.f hy
    have e' : zs.drop i = x :: zs.drop (i + 1) := by
      obtain ⟨h1, h2⟩ := List.getElem?_eq_some_iff.mp hx
      rw [← h2]; exact List.drop_eq_getElem_cons h1
    rw [e'] at hw
    have xc1 := xc.step q1
    have al1 := al.mono q1.g
    refine turn _ _ x u F1 H1 _ (q.tr q1) (List.mem_of_getElem? hx) rx hw (fun y z F2 H2 s ry hR => ?_) (fun F2 H2 s hR => ?_)
    · have xc2 := xc1.step s
      exact ⟨ac, xc2.h, by rw [al.len]; exact small_len (by omega), F2, ac ++ [y], ys ++ [z], ((q.tr q1).tr s).set xc2, xc2.set, (al1.mono s.g).snoc ry, by rw [List.length_append]; exact Nat.succ_le_succ hl, hR⟩
    · exact ⟨F2, ac, ys, (q.tr q1).tr s, xc1.step s, al1.mono s.g, Nat.le_succ_of_le hl, by simpa using hR⟩
  · rintro H' ⟨F', ac, ys, q, xc, al, hl, hw⟩
    rw [List.drop_of_length_le (Nat.le_refl _)] at hw
    exact done D ys F' H' hD q ⟨ac, ⟨w.h.non hD, xc.n, xc.h⟩, al⟩ hw
/-! sources -/
theorem TWk.pairs {γ δ : Type} {c : Rep γ} {d : Rep δ} {G : Hp → Prop} {X Y : Nat → Option V} {us : List (γ × δ)} (wk : Walk J us.length G (YPair X Y)) (hG : ∀ F' H', Ex F F' → Ex F' H' → G H')
    (hx : ∀ i F' x, Ex F F' → i < us.length → X i = some x → ∃ z, (us[i]?.map Prod.fst) = some z ∧ c.r F' x z) (hy : ∀ i F' x, Ex F F' → i < us.length → Y i = some x → ∃ z, (us[i]?.map Prod.snd) = some z ∧ d.r F' x z) : TWk J F (pT2 c d) us := by
  refine ⟨G, _, wk, hG, fun i H v H' F' hi f g hy' => ?_⟩
  obtain ⟨T, x, y, rfl, hT, rfl, h1, h2⟩ := hy'
  obtain ⟨z1, e1, r1⟩ := hx i F' x f hi h1
  obtain ⟨z2, e2, r2⟩ := hy i F' y f hi h2
  have e : us[i]? = some (z1, z2) := by
    cases q : us[i]? with
    | none => rw [q] at e1; cases e1
    | some t =>
      rw [q] at e1 e2
      have a : t.1 = z1 := Option.some.inj e1
      have b : t.2 = z2 := Option.some.inj e2
      rw [← a, ← b]
  exact ⟨(z1, z2), _, e, Wf.new g hT, ⟨T, x, y, rfl, upd_same, c.mono (Ex.new (g.non hT)) r1, d.mono (Ex.new (g.non hT)) r2⟩⟩
def enumT (xs : List α) : List (Nat × α) := (List.range xs.length).zip xs
theorem enumT_len (xs : List α) : (enumT xs).length = xs.length := by unfold enumT; rw [List.length_zip, List.length_range]; exact Nat.min_self _
theorem enumT_get (xs : List α) (i : Nat) : (enumT xs)[i]? = xs[i]?.map fun x => (i, x) := by
  show ((List.range xs.length).zip xs)[i]? = _
  by_cases h : i < xs.length
  · have h2 : i < ((List.range xs.length).zip xs).length := by rw [List.length_zip, List.length_range]; omega
    rw [List.getElem?_eq_getElem h2, List.getElem?_eq_getElem h, List.getElem_zip, List.getElem_range]; rfl
  · rw [List.getElem?_eq_none (by rw [List.length_zip, List.length_range]; omega), List.getElem?_eq_none (by omega)]; rfl
/-- enumerate(xs) -/
theorem src_enum {R : It → Hp → Prop} (r : (pL e).r F v xs) (f : Ex F H) (k : ∀ a, TWk (Ite K a) F (pT2 pN e) (enumT xs) → R (Ite K a) H) : ∃ a ws, [v] = [V.ref a] ∧ SqL K H a ws ∧ R (Ite K a) H := by
  obtain ⟨p, vs, rfl, hp, a⟩ := r
  refine ⟨p, vs, rfl, SqL.of (f _ _ hp), k p ?_⟩
  refine TWk.pairs (G := fun H => SqL K H p vs) (X := fun i => some (.int (i : Nat))) (Y := fun i => vs[i]?) (by rw [enumT_len, ← a.len]; exact walk_enum) (fun F' H' h1 h2 => SqL.of (h2 _ _ (h1 _ _ hp))) ?_ ?_
  · intro i F' x _ hi hx
    rw [enumT_len] at hi
    rw [enumT_get, List.getElem?_eq_getElem hi]
    exact ⟨i, rfl, (Option.some.inj hx).symm⟩
  · intro i F' x h1 hi hx
    obtain ⟨z, hz, rz⟩ := a.got hx
    rw [enumT_get, hz]
    exact ⟨z, rfl, e.mono h1 rz⟩
/-- zip(xs, ys) -/
theorem src_zip {γ : Type} {c : Rep γ} {us : List γ} {R : It → Hp → Prop} (r : (pL e).r F v xs) (s : (pL c).r F w us) (f : Ex F H) (k : ∀ a b, TWk (Itz K a b) F (pT2 e c) (xs.zip us) → R (Itz K a b) H) : ∃ a b ws us, [v, w] = [V.ref a, V.ref b] ∧ SqL K H a ws ∧ SqL K H b us ∧ R (Itz K a b) H := by
  obtain ⟨p, vs, rfl, hp, a⟩ := r
  obtain ⟨q, ws, rfl, hq, b⟩ := s
  refine ⟨p, q, vs, ws, rfl, SqL.of (f _ _ hp), SqL.of (f _ _ hq), k p q ?_⟩
  refine TWk.pairs (G := fun H => SqL K H p vs ∧ SqL K H q ws) (X := fun i => vs[i]?) (Y := fun i => ws[i]?) (walk_zip (by rw [List.length_zip, a.len, b.len])) (fun F' H' h1 h2 => ⟨SqL.of (h2 _ _ (h1 _ _ hp)), SqL.of (h2 _ _ (h1 _ _ hq))⟩) ?_ ?_
  · intro i F' x h1 hi hx
    obtain ⟨z, hz, rz⟩ := a.got hx
    obtain ⟨u, hu⟩ : ∃ u, us[i]? = some u := ⟨_, List.getElem?_eq_getElem (by rw [List.length_zip] at hi; omega)⟩
    exact ⟨z, by rw [(List.getElem?_zip_eq_some (z := (z, u))).mpr ⟨hz, hu⟩]; rfl, e.mono h1 rz⟩
  · intro i F' x h1 hi hx
    obtain ⟨u, hu, ru⟩ := b.got hx
    obtain ⟨z, hz⟩ : ∃ z, xs[i]? = some z := ⟨_, List.getElem?_eq_getElem (by rw [List.length_zip] at hi; omega)⟩
    exact ⟨u, by rw [(List.getElem?_zip_eq_some (z := (z, u))).mpr ⟨hz, hu⟩]; rfl, c.mono h1 ru⟩
/-- a tuple -/
theorem src_tup {R : It → Hp → Prop} (r : (pTL e).r F v xs) (f : Ex F H) (k : ∀ a, TWk (Itt K a) F e xs → R (Itt K a) H) : ∃ a, v = .ref a ∧ (∃ ws, SqT K H a ws) ∧ R (Itt K a) H := by
  obtain ⟨p, vs, rfl, hp, a⟩ := r
  refine ⟨p, rfl, ⟨vs, SqT.of (f _ _ hp)⟩, k p ⟨_, _, by rw [← a.len]; exact walk_tup, fun F' H' h1 h2 => SqT.of (h2 _ _ (h1 _ _ hp)), fun i H v H' F' hi h1 h2 hy => ?_⟩⟩
  obtain ⟨rfl, hv⟩ := hy
  obtain ⟨z, hz, rz⟩ := a.got hv
  exact ⟨z, F', hz, Wf.id h2, e.mono h1 rz⟩
/-- range(i, j) -/
theorem src_range2 {R : It → Hp → Prop} {i j : Nat} (hj : j < 1000000) (hi : i < 1000000) (k : TWk (Itr (i : Int) ((j : Int) - (i : Int)).toNat) F pN (List.range' i (j - i)) → R (Itr (i : Int) ((j : Int) - (i : Int)).toNat) H) : ∃ i' j' : Int, [V.int (i : Int), V.int (j : Int)] = [.int i', .int j'] ∧ (-(2 ^ 62) ≤ i' ∧ i' < 2 ^ 62 ∧ -(2 ^ 62) ≤ j' ∧ j' < 2 ^ 62) ∧ R (Itr i' (j' - i').toNat) H := by
  refine ⟨i, j, rfl, ⟨by omega, by omega, by omega, by omega⟩, k ⟨fun _ => True, YFn fun m => .int ((i : Int) + (m : Nat)), ?_, fun _ _ _ _ => trivial, fun m H x H' F' hm h1 h2 hy => ?_⟩⟩
  · have : ((j : Int) - (i : Int)).toNat = (List.range' i (j - i)).length := by rw [List.length_range']; omega
    rw [this]; exact walk_range
  · obtain ⟨rfl, rfl⟩ := hy
    rw [List.length_range'] at hm
    exact ⟨i + m, F', by rw [List.getElem?_range' hm]; simp, Wf.id h2, by show V.int _ = V.int _; congr 1⟩
/-! ### objects -/
theorem lk_ne {k g : Str} {v : V} {r : List (Str × V)} (h : (k == g) = false) : List.lookup k ((g, v) :: r) = List.lookup k r := by simp only [List.lookup, h]
theorem lk_eq {k : Str} {v : V} {r : List (Str × V)} : List.lookup k ((k, v) :: r) = some v := by
  have e : (k == k) = true := beq_self_eq_true k
  simp only [List.lookup, e]
/-- an instance of C that stays as it is: its fields, all told by Fs -/
def pOb (C : Addr) (Fs : Hp → List (Str × V) → α → Prop) (mono : ∀ {F F' : Hp} {fs : List (Str × V)} {x : α}, Ex F F' → Fs F fs x → Fs F' fs x) : Rep α :=
  ⟨fun F v x => ∃ p dx fs, v = .ref p ∧ F p = some (.ins C dx fs) ∧ Fs F fs x, fun h ⟨p, dx, fs, a, b, c⟩ => ⟨p, dx, fs, a, h _ _ b, mono h c⟩⟩
def F1s {α : Type} (n : Str) (e : Rep α) (F : Hp) (fs : List (Str × V)) (x : α) : Prop := ∃ u, fs = [(n, u)] ∧ e.r F u x
def F2s {α β : Type} (n m : Str) (e : Rep α) (f : Rep β) (F : Hp) (fs : List (Str × V)) (x : α × β) : Prop := ∃ u w, fs = [(n, u), (m, w)] ∧ e.r F u x.1 ∧ f.r F w x.2
def F3s {α β γ : Type} (n m l : Str) (e : Rep α) (f : Rep β) (g : Rep γ) (F : Hp) (fs : List (Str × V)) (x : α × β × γ) : Prop := ∃ u w y, fs = [(n, u), (m, w), (l, y)] ∧ e.r F u x.1 ∧ f.r F w x.2.1 ∧ g.r F y x.2.2
theorem F1s.mono {α : Type} {n : Str} {e : Rep α} {F F' : Hp} {fs : List (Str × V)} {x : α} (h : Ex F F') : F1s n e F fs x → F1s n e F' fs x := fun ⟨u, a, b⟩ => ⟨u, a, e.mono h b⟩
theorem F2s.mono {α β : Type} {n m : Str} {e : Rep α} {f : Rep β} {F F' : Hp} {fs : List (Str × V)} {x : α × β} (h : Ex F F') : F2s n m e f F fs x → F2s n m e f F' fs x := fun ⟨u, w, a, b, c⟩ => ⟨u, w, a, e.mono h b, f.mono h c⟩
theorem F3s.mono {α β γ : Type} {n m l : Str} {e : Rep α} {f : Rep β} {g : Rep γ} {F F' : Hp} {fs : List (Str × V)} {x : α × β × γ} (h : Ex F F') : F3s n m l e f g F fs x → F3s n m l e f g F' fs x := fun ⟨u, w, y, a, b, c, d⟩ => ⟨u, w, y, a, e.mono h b, f.mono h c, g.mono h d⟩
def pO1 {α : Type} (C : Addr) (n : Str) (e : Rep α) : Rep α := pOb C (F1s n e) F1s.mono
def pO2 {α β : Type} (C : Addr) (n m : Str) (e : Rep α) (f : Rep β) : Rep (α × β) := pOb C (F2s n m e f) F2s.mono
def pO3 {α β γ : Type} (C : Addr) (n m l : Str) (e : Rep α) (f : Rep β) (g : Rep γ) : Rep (α × β × γ) := pOb C (F3s n m l e f g) F3s.mono
section
variable {γ : Type} {C : Addr} {a b c : Str} {f : Rep β} {g' : Rep γ} {s : α} {t : α × β} {z : α × β × γ}
/-- reading o.f -/
theorem fl_11 (cl : Cls K C) (na : NoAttr K C a) (r : (pO1 C a e).r F v s) (h : Ex F H) : ∃ w, e.r F w s ∧ ∀ ⦃σ ta⦄, Val ta σ H v → Val (tFld K ta a) σ H w := by
  obtain ⟨p, dx, fs, rfl, hp, u, rfl, r1⟩ := r
  exact ⟨u, r1, fun _ _ ha Q k => ha _ ⟨p, C, dx, _, u, rfl, h _ _ hp, cl, na, lk_eq, k⟩⟩
theorem fl_21 (cl : Cls K C) (na : NoAttr K C a) (r : (pO2 C a b e f).r F v t) (h : Ex F H) : ∃ w, e.r F w t.1 ∧ ∀ ⦃σ ta⦄, Val ta σ H v → Val (tFld K ta a) σ H w := by
  obtain ⟨p, dx, fs, rfl, hp, u, w, rfl, r1, r2⟩ := r
  exact ⟨u, r1, fun _ _ ha Q k => ha _ ⟨p, C, dx, _, u, rfl, h _ _ hp, cl, na, lk_eq, k⟩⟩
theorem fl_22 (cl : Cls K C) (na : NoAttr K C b) (r : (pO2 C a b e f).r F v t) (h : Ex F H) (h1 : (b == a) = false := by decide +kernel) : ∃ w, f.r F w t.2 ∧ ∀ ⦃σ ta⦄, Val ta σ H v → Val (tFld K ta b) σ H w := by
  obtain ⟨p, dx, fs, rfl, hp, u, w, rfl, r1, r2⟩ := r
  exact ⟨w, r2, fun _ _ ha Q k => ha _ ⟨p, C, dx, _, w, rfl, h _ _ hp, cl, na, (lk_ne h1).trans lk_eq, k⟩⟩
theorem fl_31 (cl : Cls K C) (na : NoAttr K C a) (r : (pO3 C a b c e f g').r F v z) (h : Ex F H) : ∃ w, e.r F w z.1 ∧ ∀ ⦃σ ta⦄, Val ta σ H v → Val (tFld K ta a) σ H w := by
  obtain ⟨p, dx, fs, rfl, hp, u, w, y, rfl, r1, r2, r3⟩ := r
  exact ⟨u, r1, fun _ _ ha Q k => ha _ ⟨p, C, dx, _, u, rfl, h _ _ hp, cl, na, lk_eq, k⟩⟩
theorem fl_32 (cl : Cls K C) (na : NoAttr K C b) (r : (pO3 C a b c e f g').r F v z) (h : Ex F H) (h1 : (b == a) = false := by decide +kernel) : ∃ w, f.r F w z.2.1 ∧ ∀ ⦃σ ta⦄, Val ta σ H v → Val (tFld K ta b) σ H w := by
  obtain ⟨p, dx, fs, rfl, hp, u, w, y, rfl, r1, r2, r3⟩ := r
  exact ⟨w, r2, fun _ _ ha Q k => ha _ ⟨p, C, dx, _, w, rfl, h _ _ hp, cl, na, (lk_ne h1).trans lk_eq, k⟩⟩
theorem fl_33 (cl : Cls K C) (na : NoAttr K C c) (r : (pO3 C a b c e f g').r F v z) (h : Ex F H) (h1 : (c == a) = false := by decide +kernel) (h2 : (c == b) = false := by decide +kernel) : ∃ w, g'.r F w z.2.2 ∧ ∀ ⦃σ ta⦄, Val ta σ H v → Val (tFld K ta c) σ H w := by
  obtain ⟨p, dx, fs, rfl, hp, u, w, y, rfl, r1, r2, r3⟩ := r
  exact ⟨y, r3, fun _ _ ha Q k => ha _ ⟨p, C, dx, _, y, rfl, h _ _ hp, cl, na, (lk_ne h1).trans ((lk_ne h2).trans lk_eq), k⟩⟩
/-- the object of a method's call -/
theorem me_1 {m : Str} (r : (pO1 C a e).r F v s) (h : Ex F H) (h1 : (m == a) = false := by decide +kernel) : ∃ p dx fs, v = .ref p ∧ H p = some (.ins C dx fs) ∧ fs.lookup m = none := by
  obtain ⟨p, dx, fs, rfl, hp, u, rfl, _⟩ := r
  exact ⟨p, dx, _, rfl, h _ _ hp, (lk_ne h1).trans rfl⟩
theorem me_2 {m : Str} (r : (pO2 C a b e f).r F v t) (h : Ex F H) (h1 : (m == a) = false := by decide +kernel) (h2 : (m == b) = false := by decide +kernel) : ∃ p dx fs, v = .ref p ∧ H p = some (.ins C dx fs) ∧ fs.lookup m = none := by
  obtain ⟨p, dx, fs, rfl, hp, u, w, rfl, _⟩ := r
  exact ⟨p, dx, _, rfl, h _ _ hp, (lk_ne h1).trans ((lk_ne h2).trans rfl)⟩
theorem me_3 {m : Str} (r : (pO3 C a b c e f g').r F v z) (h : Ex F H) (h1 : (m == a) = false := by decide +kernel) (h2 : (m == b) = false := by decide +kernel) (h3 : (m == c) = false := by decide +kernel) : ∃ p dx fs, v = .ref p ∧ H p = some (.ins C dx fs) ∧ fs.lookup m = none := by
  obtain ⟨p, dx, fs, rfl, hp, u, w, y, rfl, _⟩ := r
  exact ⟨p, dx, _, rfl, h _ _ hp, (lk_ne h1).trans ((lk_ne h2).trans ((lk_ne h3).trans rfl))⟩
end
/-! one's own object, while it is made -/
/-- the heap without p -/
def wo (H : Hp) (p : Addr) : Hp := fun a => if a = p then none else H a
theorem wo_same {H : Hp} {p : Addr} : wo H p p = none := if_pos rfl
theorem wo_ne {H : Hp} {p q : Addr} (h : q ≠ p) : wo H p q = H q := if_neg h
theorem Wf.start (f : Ex F H) (n : F p = none) : Wf F (wo H p) F H := ⟨fun a o h => by
    by_cases q : a = p
    · subst q; rw [wo_same] at h; cases h
    · rw [wo_ne q] at h; exact h, f, Ex.rfl', fun a o h h0 => by rw [h] at h0; cases h0⟩
theorem Xc.start (n : F p = none) (h : H p = some o) : Xc (wo H p) F H p o := ⟨wo_same, n, h⟩
/-- behind the making of x -/
theorem Wf.made {x dx : Addr} {o u : HO} (nx : H x = none) (nd : H dx = none) (w : Wf F (wo (upd (upd H dx o) x u) x) F' H') : Wf F H F' H' := by
  have e : Ex H (wo (upd (upd H dx o) x u) x) := fun a v h => by
    have h1 : a ≠ x := ne_of_none h nx
    have h2 : a ≠ dx := ne_of_none h nd
    rw [wo_ne h1, upd_ne h1, upd_ne h2]; exact h
  exact ⟨e.tr w.h, w.f, w.g, fun a o h h0 => e.non (w.n a o h h0)⟩
theorem Ex.made {x dx : Addr} {o u : HO} (f : Ex F H) (nx : H x = none) (nd : H dx = none) : Ex F (upd (upd H dx o) x u) := fun a v h => by
  have h' := f a v h
  rw [upd_ne (ne_of_none h' nx), upd_ne (ne_of_none h' nd)]; exact h'
theorem Xc.frzO {u : HO} (x : Xc H0 F H q u) (h : ∀ q o, Xc H0 F H q o → q ≠ p → Xc H0 F' H q o) (hq : q ≠ p) (g : Ex F F') : Xc H0 F' H q u := h _ _ x hq
/-- self.f = v -/
theorem a_fld {C dx : Addr} {fs : List (Str × V)} {a : Str} (cl : Cls K C) (na : NoAttr K C a) (x : Xc H0 F H p (.ins C dx fs)) (w : Wf F0 H0 F H) (hl : fs.length < 1000) (ho : Val to σ H (.ref p))
    (k : ∀ H', Wf F0 H0 F H' → Xc H0 F H' p (.ins C dx (putF a v fs)) → (∀ q o, H q = some o → q ≠ p → H' q = some o) → D.nx σ H') :
    (fun y H1 => to σ H1 fun x H2 => ∃ a' C' dx' fs', x = .ref a' ∧ H2 a' = some (.ins C' dx' fs') ∧ Cls K C' ∧ NoAttr K C' a ∧ fs'.length < 1000 ∧ D.nx σ (upd H2 a' (.ins C' dx' (putF a y fs')))) v H :=
  ho _ ⟨p, C, dx, fs, rfl, x.h, cl, na, hl, k _ (w.set x) x.set fun q o h hq => by rw [upd_ne hq]; exact h⟩
theorem e_fld {tv : TE} {a : Str} (h : tv σ H fun y H1 => to σ H1 fun x H2 => ∃ a' C' dx' fs', x = .ref a' ∧ H2 a' = some (.ins C' dx' fs') ∧ Cls K C' ∧ NoAttr K C' a ∧ fs'.length < 1000 ∧ D.nx σ (upd H2 a' (.ins C' dx' (putF a y fs')))) : sFld K to tv a D σ H := h
/-- reading a field of one's own object -/
theorem fl_X {C dx : Addr} {fs : List (Str × V)} {a : Str} (cl : Cls K C) (na : NoAttr K C a) (x : Xc H0 F H p (.ins C dx fs)) (hl : fs.lookup a = some u) (ho : Val to σ H (.ref p)) : Val (tFld K to a) σ H u :=
  fun Q k => ho _ ⟨p, C, dx, fs, u, rfl, x.h, cl, na, hl, k⟩
/-- it is made: it changes no more -/
theorem Xc.frzE {o : HO} (x : Xc H0 F H p o) (w : Wf F0 H0 F H) : ∃ F', Wf F0 H0 F' H ∧ Ex F F' ∧ F' p = some o := ⟨_, w.freeze x, Ex.new x.n, upd_same⟩
/-! ### borrowed lists and dicts: read only, their place not told -/
structure BL {α : Type} (e : Rep α) (F H : Hp) (p : Addr) (xs : List α) : Prop where
  x : ∃ vs, H p = some (.lst vs) ∧ All e F vs xs
structure BD {κ α : Type} [KeyT κ] (e : Rep α) (F H : Hp) (p : Addr) (m : List (κ × α)) : Prop where
  x : ∃ kvs, H p = some (.dK kvs) ∧ DA e F kvs m
theorem BL.step (x : BL e F H p xs) (w : Wf F H F' H') : BL e F' H' p xs := let ⟨vs, a, b⟩ := x.x; ⟨vs, w.h _ _ a, b.mono w.g⟩
theorem BL.ne (x : BL e F H p xs) (h : H q = none) : p ≠ q := let ⟨_, a, _⟩ := x.x; ne_of_none a h
theorem BL.frzO {X : Prop} (x : BL e F H q xs) (h : X) (hq : q ≠ p) (g : Ex F F') : BL e F' H q xs := let ⟨vs, a, b⟩ := x.x; ⟨vs, a, b.mono g⟩
theorem BL.kept (x : BL e F H q xs) (h : ∀ q o, H q = some o → q ≠ p → H' q = some o) (hq : q ≠ p) : BL e F H' q xs := let ⟨vs, a, b⟩ := x.x; ⟨vs, h _ _ a hq, b⟩
theorem XL.bw (x : XL e H0 F H p xs) : BL e F H p xs := let ⟨vs, a, b⟩ := x.x; ⟨vs, a.h, b⟩
end
section
variable {κ α : Type} [DecidableEq κ] [KeyT κ] {e : Rep α} {K : PySem.W.Frag} {σ : L2.St} {F0 H0 F F' H H' : Hp} {te td ty tx tv : TE} {Q : VK} {v w y z : V} {m : List (κ × α)} {p q : Addr} {j : κ} {x : α} {D : Ends}
omit [DecidableEq κ] in
theorem BD.step (x : BD e F H p m) (w : Wf F H F' H') : BD e F' H' p m := let ⟨vs, a, b⟩ := x.x; ⟨vs, w.h _ _ a, b.mono w.g⟩
omit [DecidableEq κ] in
theorem BD.ne (x : BD e F H p m) (h : H q = none) : p ≠ q := let ⟨_, a, _⟩ := x.x; ne_of_none a h
omit [DecidableEq κ] in
theorem BD.frzO {X : Prop} (x : BD e F H q m) (h : X) (hq : q ≠ p) (g : Ex F F') : BD e F' H q m := let ⟨vs, a, b⟩ := x.x; ⟨vs, a, b.mono g⟩
omit [DecidableEq κ] in
theorem BD.kept (x : BD e F H q m) (h : ∀ q o, H q = some o → q ≠ p → H' q = some o) (hq : q ≠ p) : BD e F H' q m := let ⟨vs, a, b⟩ := x.x; ⟨vs, h _ _ a hq, b⟩
omit [DecidableEq κ] in
theorem XD.bw (x : XD e H0 F H p m) : BD e F H p m := let ⟨vs, a, b⟩ := x.x; ⟨vs, a.h, b⟩
omit [DecidableEq κ] in
theorem D_bw (r : (pD e).r F v m) (f : Ex F H) : ∃ p, v = .ref p ∧ BD e F H p m := let ⟨p, vs, a, b, c⟩ := r; ⟨p, a, ⟨vs, f _ _ b, c⟩⟩
theorem in_BD (r : BD e F H p m) (hy : Val ty σ H (kV (KeyT.k j))) (hd : Val td σ H (.ref p)) : Val (tDIn ty td) σ H (.bl (hasT m j)) := by
  obtain ⟨kvs, hp, a⟩ := r.x
  exact fun Q k => hy _ (hd _ ⟨p, _, rfl, DGet.k hp, by rw [a.has j]; exact k⟩)
theorem ix_BD (r : BD e F H p m) (hx : valT m j = some x) : ∃ w, e.r F w x ∧ ∀ ⦃σ td ty⦄, Val td σ H (.ref p) → Val ty σ H (kV (KeyT.k j)) → Val (tDGet td ty) σ H w := by
  obtain ⟨kvs, hp, a⟩ := r.x
  obtain ⟨w, h1, h2⟩ := (a.get j).1 x hx
  exact ⟨w, h2, fun _ _ _ hd hy Q k => hd _ (hy _ ⟨p, w, rfl, by rw [← h1]; exact DGet.k hp, k⟩)⟩
/-- list(d) -/
def keyC (κ : Type) [KeyT κ] (b : Rep κ) : Prop := ∀ (F : Hp) (k : κ), b.r F (kV (KeyT.k k)) k
theorem keyN : keyC Nat pN := fun _ _ => rfl
theorem keyI : keyC Int pI := fun _ _ => rfl
theorem keyS : keyC Str pS := fun _ _ => rfl
omit [DecidableEq κ] in
theorem DA.keys {b : Rep κ} (hb : keyC κ b) : ∀ {kvs : List (Key × V)} {m : List (κ × α)}, DA e F kvs m → All b F (kvs.map fun kv => kV kv.1) (m.map (·.1))
  | [], [], _ => trivial
  | p :: r, q :: s, ⟨a, _, c⟩ => ⟨by show b.r F (kV p.1) q.1; rw [a]; exact hb F q.1, DA.keys hb c⟩
  | [], _ :: _, q => q.elim
  | _ :: _, [], q => q.elim
def rListD : List V → Hp → VK → Prop := fun xs H Q => ∃ (a : Addr) (kvs : List (Key × V)), xs = [.ref a] ∧ Rd H a (.dK kvs) ∧ ∀ p, H p = none → Q (.ref p) (upd H p (.lst (kvs.map fun kv => kV kv.1)))
omit [DecidableEq κ] in
theorem n_listD {b : Rep κ} (hb : keyC κ b) (r : (pD e).r F v m) (w : Wf F0 H0 F H) (k : ∀ p H', H p = none → Wf F H F H' → XL b H0 F H' p (m.map (·.1)) → Q (.ref p) H') : rListD [v] H Q := by
  obtain ⟨p, kvs, rfl, hp, a⟩ := r
  exact ⟨p, kvs, rfl, .inl (w.f _ _ hp), fun l hl => k l _ hl (Wf.newX w.f hl) ⟨_, Xc.mk' w hl, a.keys hb⟩⟩
theorem n_listXD {b : Rep κ} (hb : keyC κ b) (r : XD e H0 F H q m) (w : Wf F0 H0 F H) (k : ∀ p H', H p = none → Wf F H F H' → XL b H0 F H' p (m.map (·.1)) → Q (.ref p) H') : rListD [.ref q] H Q := by
  obtain ⟨kvs, hp, a⟩ := r.rd
  exact ⟨q, kvs, rfl, .inl hp, fun l hl => k l _ hl (Wf.newX w.f hl) ⟨_, Xc.mk' w hl, a.keys hb⟩⟩
end
/-- a method that may be called -/
structure Md (P : Program) (w : World) (K : PySem.W.Frag) (mg : Str → Option Value) (base : Heap) (CX : CXT) (k : Nat) (C : Addr) (m : Str) (ps : List Str) (sp : Sp) : Prop where
  ex : ∃ f fd, FnOk P w K mg base CX k f fd ps sp ∧ Meth K C m f ∧ Binds K fd ps []
/-- a class that makes -/
structure Nw (P : Program) (w : World) (K : PySem.W.Frag) (mg : Str → Option Value) (base : Heap) (CX : CXT) (k : Nat) (C : Addr) (x : Str) (ps : List Str) (sp : Sp) : Prop where
  ex : ∃ f fd, FnOk P w K mg base CX k f fd ps sp ∧ Mk K C f ∧ mg x = some (.ref C) ∧ Binds K fd ps []
section
variable {X : Cx} {k : Nat} {C : Addr} {x m : Str} {ps : List Str} {sp : Sp} {o e : Expr} {es : List Expr} {p pos apos : Pos} {ta : TE} {t : TA} {pl : Sem Bool}
theorem pe_md (M : Md X.prog X.w X.K X.mg X.base CX0 k C m ps sp) (cl : Cls X.K C) (hr : Room k X.A) (he : PE X o ta) (ha : PA X (e :: es) t)
    (hst : starEach (e :: es) X.env = (false, eval e X.env) :: starEach es X.env := by rfl) (hpl : (backTo pos (starEach es X.env)).any (·.1) = false := by rfl)
    (ht : eval (.Call (.Attribute o m apos) (e :: es) [] pos) X.env = (do
      let ov ← eval o X.env
      standAt apos.atName
      let (f, first) ← holding [ov] (getMethod ov m pl)
      callWith pos f first (backTo pos (starEach (e :: es) X.env)) (backToKw pos (keywordEach [] X.env))) := by rfl) :
    PE X (.Call (.Attribute o m apos) (e :: es) [] pos) (tMeth C m sp [] E0 ta t) := by
  obtain ⟨f, fd, F, hm, hb⟩ := M.ex
  exact pe_meth he cl hm F hr hb .nil pass0 ha hst hpl ht
theorem pe_md0 (M : Md X.prog X.w X.K X.mg X.base CX0 k C m ps sp) (cl : Cls X.K C) (hr : Room k X.A) (he : PE X o ta)
    (ht : eval (.Call (.Attribute o m apos) [] [] pos) X.env = (do
      let ov ← eval o X.env
      standAt apos.atName
      let (f, first) ← holding [ov] (getMethod ov m pl)
      callWith pos f first (backTo pos (starEach [] X.env)) (backToKw pos (keywordEach [] X.env))) := by rfl) :
    PE X (.Call (.Attribute o m apos) [] [] pos) (tMeth C m sp [] E0 ta tNil) := by
  obtain ⟨f, fd, F, hm, hb⟩ := M.ex
  exact pe_meth0 he cl hm F hr hb .nil pass0 ht
theorem pe_nw (M : Nw X.prog X.w X.K X.mg X.base CX0 k C x ps sp) (hr : Room (k + 1) X.A) (hg : Gl X x) (ha : PA X (e :: es) t) (hdb : (x == ("__debug__" : Str)) = false := by decide)
    (he : starEach (e :: es) X.env = (false, eval e X.env) :: starEach es X.env := by rfl) (hpl : (backTo pos (starEach es X.env)).any (·.1) = false := by rfl) : PE X (.Call (.Name x p) (e :: es) [] pos) (tMake C sp [] E0 t) := by
  obtain ⟨f, fd, F, hk, hm, hb⟩ := M.ex
  exact pe_make hk F hr hg hm hb .nil pass0 ha hdb he hpl
end
section
variable {σ : L2.St} {H : Hp} {C : Addr} {m : Str} {sp : Sp} {E : XK} {ta : TE} {t : TA} {Q : VK} {v : V} {p dx : Addr} {fs : List (Str × V)} {vs : List V}
theorem e_md (h : ta σ H fun x H1 => ∃ a dx fs, x = .ref a ∧ H1 a = some (.ins C dx fs) ∧ fs.lookup m = none ∧ t σ H1 fun vs H2 => sp (x :: vs) H2 Q E) : tMeth C m sp [] E ta t σ H Q := by
  show ta σ H fun x H1 => ∃ a dx fs, x = .ref a ∧ H1 a = some (.ins C dx fs) ∧ fs.lookup m = none ∧ t σ H1 fun vs H2 => sp (x :: (vs ++ [])) H2 Q E
  simpa only [List.append_nil] using h
theorem e_nw (h : t σ H fun vs H1 => ∀ x dx, H1 x = none → H1 dx = none → dx ≠ x → sp (.ref x :: vs) (upd (upd H1 dx (.own x)) x (.ins C dx [])) (fun v H2 => v = .non ∧ Q (.ref x) H2) E) : tMake C sp [] E t σ H Q := by
  show t σ H fun vs H1 => ∀ x dx, H1 x = none → H1 dx = none → dx ≠ x → sp (.ref x :: (vs ++ [])) (upd (upd H1 dx (.own x)) x (.ins C dx [])) (fun v H2 => v = .non ∧ Q (.ref x) H2) E
  simpa only [List.append_nil] using h
end
/-- an object of which only the fields are read -/
structure BO (C : Addr) (F H : Hp) (p dx : Addr) (fs : List (Str × V)) : Prop where
  h : H p = some (.ins C dx fs)
section
variable {α β γ : Type} {K : PySem.W.Frag} {σ : L2.St} {C p q dx : Addr} {fs : List (Str × V)} {H0 F F' H H' : Hp} {to ta : TE} {Q : VK} {a b c m : Str} {u v : V} {o : HO}
theorem BO.step (x : BO C F H p dx fs) (w : Wf F H F' H') : BO C F' H' p dx fs := ⟨w.h _ _ x.h⟩
theorem BO.ne (x : BO C F H p dx fs) (h : H q = none) : p ≠ q := ne_of_none x.h h
theorem BO.frzO {X : Prop} (x : BO C F H q dx fs) (h : X) (hq : q ≠ p) (g : Ex F F') : BO C F' H q dx fs := ⟨x.h⟩
theorem BO.kept (x : BO C F H q dx fs) (h : ∀ q o, H q = some o → q ≠ p → H' q = some o) (hq : q ≠ p) : BO C F H' q dx fs := ⟨h _ _ x.h hq⟩
theorem fl_B (na : NoAttr K C a) (cl : Cls K C) (x : BO C F H p dx fs) (hl : fs.lookup a = some u) (ho : Val to σ H (.ref p)) : Val (tFld K to a) σ H u :=
  fun Q k => ho _ ⟨p, C, dx, fs, u, rfl, x.h, cl, na, hl, k⟩
def kFld (K : PySem.W.Frag) (a : Str) (Q : VK) (x : V) (H1 : Hp) : Prop := ∃ a' C dx fs v, x = .ref a' ∧ H1 a' = some (.ins C dx fs) ∧ Cls K C ∧ NoAttr K C a ∧ fs.lookup a = some v ∧ Q v H1
theorem e_tfld (h : ta σ H (kFld K a Q)) : tFld K ta a σ H Q := h
theorem fl_val (h : Val (tFld K (tC v) a) [] H u) (q : Q u H) : kFld K a Q v H := h Q q
theorem put_ne {f g : Str} {v x : V} {r : List (Str × V)} (h : ¬ g = f) : putF f v ((g, x) :: r) = (g, x) :: putF f v r := if_neg h
theorem put_eq {f : Str} {v x : V} {r : List (Str × V)} : putF f v ((f, x) :: r) = (f, v) :: r := if_pos rfl
theorem Xc.cast {fs' : List (Str × V)} (x : Xc H0 F H p (.ins C dx fs)) (e : fs = fs') : Xc H0 F H p (.ins C dx fs') := e ▸ x
/-- the first field, a dict, as it is borrowed -/
theorem st_bw {κ : Type} [KeyT κ] {e : Rep α} {f : Rep β} {g : Rep γ} {z : List (κ × α) × β × γ} (r : (pO3 C a b c (pD e) f g).r F v z) (h : Ex F H) (h1 : (m == a) = false := by decide +kernel) (h2 : (m == b) = false := by decide +kernel) (h3 : (m == c) = false := by decide +kernel) :
    ∃ p dx fs d, v = .ref p ∧ H p = some (.ins C dx fs) ∧ fs.lookup a = some (.ref d) ∧ BD e F H d z.1 ∧ fs.lookup m = none := by
  obtain ⟨p, dx, fs, rfl, hp, u, w, y, rfl, r1, r2, r3⟩ := r
  obtain ⟨d, rfl, bd⟩ := D_bw r1 h
  exact ⟨p, dx, _, d, rfl, h _ _ hp, lk_eq, bd, (lk_ne h1).trans ((lk_ne h2).trans ((lk_ne h3).trans rfl))⟩
end
section
variable {κ α : Type} [KeyT κ] {e : Rep α} {σ : L2.St} {F0 H0 F H : Hp} {tk tv : TE} {Q : VK} {v : V} {j : κ} {x : α}
/-- {k: v} -/
theorem n_disp1 (hk : ∀ H, Val tk σ H (kV (KeyT.k j))) (hv : ∀ H, Val tv σ H v) (r : e.r F v x) (w : Wf F0 H0 F H) (k : ∀ p H', H p = none → Wf F H F H' → XD e H0 F H' p [(j, x)] → Q (.ref p) H') : tDisp [(tk, tv)] σ H Q := fun p hp => by
  refine hk _ _ (hv _ _ ⟨upd_same, [(KeyT.k j, v)], rfl, (show 1 ≤ 15 by decide), ?_⟩)
  rw [upd_upd]
  exact k p _ hp (Wf.newX w.f hp) ⟨[(KeyT.k j, v)], Xc.mk' w hp, rfl, r, trivial⟩
end
theorem m_list0 {α : Type} {e : Rep α} {K : PySem.W.Frag} {σ : L2.St} {H0 F H : Hp} {p : Addr} {xs : List α} {to : TE} {Q : VK} {r : V → List V → Hp → VK → Prop} (z : XL e H0 F H p xs) (ho : Val to σ H (.ref p)) (k : r (.ref p) [] H Q) : tBM0 K "list" r to σ H Q := ho _ ⟨let ⟨_, a, _⟩ := z.x; Or.inl ⟨rfl, _, Or.inl (Or.inl a.h)⟩, k⟩
end Wk

namespace Wk
open PySem L2
section
variable {K : PySem.W.Frag} {σ : L2.St} {F0 H0 F H H' : Hp} {ta to : TE} {Q : VK} {v : V} {xs : List Nat} {p q : Addr} {x : Nat}
theorem nats_eq {vs : List V} {F : Hp} (a : All pN F vs xs) : vs = (xs.map Int.ofNat).map V.int := a.nats
def maxT (xs : List Nat) : Nat := xs.foldl max 0
theorem maxT_aux : ∀ (xs : List Nat) (a : Nat), a ≤ xs.foldl max a ∧ (∀ y ∈ xs, y ≤ xs.foldl max a) ∧ (xs.foldl max a = a ∨ xs.foldl max a ∈ xs)
  | [], a => ⟨Nat.le_refl _, fun y h => (by cases h), .inl rfl⟩
  | x :: xs, a => by
    obtain ⟨h1, h2, h3⟩ := maxT_aux xs (max a x)
    refine ⟨Nat.le_trans (Nat.le_max_left a x) h1, fun y hy => ?_, ?_⟩
    · rcases List.mem_cons.mp hy with e | m
      · subst e; exact Nat.le_trans (Nat.le_max_right a y) h1
      · exact h2 y m
    · show xs.foldl max (max a x) = a ∨ xs.foldl max (max a x) ∈ x :: xs
      rcases h3 with e | m
      · rw [e]
        rcases Nat.le_total a x with o | o
        · rw [Nat.max_eq_right o]; exact .inr (List.mem_cons_self ..)
        · rw [Nat.max_eq_left o]; exact .inl rfl
      · exact .inr (List.mem_cons_of_mem _ m)
theorem maxT_le {y : Nat} (h : y ∈ xs) : y ≤ maxT xs := (maxT_aux xs 0).2.1 y h
theorem maxT_mem (h : 0 < xs.length) : maxT xs ∈ xs := by
  rcases (maxT_aux xs 0).2.2 with e | m
  · obtain ⟨y, hy⟩ : ∃ y, y ∈ xs := by cases xs with
      | nil => exact absurd h (Nat.lt_irrefl _)
      | cons y _ => exact ⟨y, List.mem_cons_self ..⟩
    have := maxT_le hy
    have e2 : maxT xs = 0 := e
    rw [e2] at this ⊢
    have : y = 0 := by omega
    subst this; exact hy
  · exact m
/-- max(xs) -/
theorem vn_max (r : (pL pN).r F v xs) (f : Ex F H) (hl : 0 < xs.length) (ha : Val ta σ H v) : Val (tCB (L2.rMax K) (tCons ta tNil)) σ H (.int ((maxT xs : Nat) : Int)) := by
  obtain ⟨p, vs, rfl, hp, a⟩ := L_rd r f
  rw [nats_eq a] at hp
  refine v_cb1 ha fun Q k => ⟨p, _, rfl, SqL.of hp, by rw [List.length_map]; exact hl, fun m hm hle => ?_⟩
  have : m = ((maxT xs : Nat) : Int) := by
    obtain ⟨n, hn, rfl⟩ := List.mem_map.mp hm
    have h1 := maxT_le hn
    have h2 := hle _ (List.mem_map.mpr ⟨_, maxT_mem hl, rfl⟩)
    simp only [Int.ofNat_eq_natCast] at h2 ⊢
    omega
  rw [this]; exact k
theorem vn_maxX (r : XL pN H0 F H p xs) (hl : 0 < xs.length) (ha : Val ta σ H (.ref p)) : Val (tCB (L2.rMax K) (tCons ta tNil)) σ H (.int ((maxT xs : Nat) : Int)) := by
  obtain ⟨vs, hp, a⟩ := r.rd
  rw [nats_eq a] at hp
  refine v_cb1 ha fun Q k => ⟨p, _, rfl, SqL.of hp, by rw [List.length_map]; exact hl, fun m hm hle => ?_⟩
  have : m = ((maxT xs : Nat) : Int) := by
    obtain ⟨n, hn, rfl⟩ := List.mem_map.mp hm
    have h1 := maxT_le hn
    have h2 := hle _ (List.mem_map.mpr ⟨_, maxT_mem hl, rfl⟩)
    simp only [Int.ofNat_eq_natCast] at h2 ⊢
    omega
  rw [this]; exact k
theorem sum_nats : ∀ xs : List Nat, (xs.map Int.ofNat).sum = ((xs.sum : Nat) : Int)
  | [] => rfl
  | x :: xs => by rw [List.map_cons, List.sum_cons, List.sum_cons, sum_nats xs]; simp
/-- sum(xs) -/
theorem vn_sum (r : (pL pN).r F v xs) (f : Ex F H) (ha : Val ta σ H v) : Val (tCB (L2.rSum K) (tCons ta tNil)) σ H (.int ((xs.sum : Nat) : Int)) := by
  obtain ⟨p, vs, rfl, hp, a⟩ := L_rd r f
  rw [nats_eq a] at hp
  exact v_cb1 ha fun Q k => ⟨p, _, rfl, SqL.of hp, by rw [sum_nats]; exact k⟩
theorem vn_sumX (r : XL pN H0 F H p xs) (ha : Val ta σ H (.ref p)) : Val (tCB (L2.rSum K) (tCons ta tNil)) σ H (.int ((xs.sum : Nat) : Int)) := by
  obtain ⟨vs, hp, a⟩ := r.rd
  rw [nats_eq a] at hp
  exact v_cb1 ha fun Q k => ⟨p, _, rfl, SqL.of hp, by rw [sum_nats]; exact k⟩
/-- xs.remove(x) -/
theorem first_of {x : Nat} : ∀ {xs : List Nat}, x ∈ xs → ∃ j, xs[j]? = some x ∧ (∀ m, m < j → xs[m]? ≠ some x) ∧ xs.eraseIdx j = xs.erase x
  | [], h => by cases h
  | y :: xs, h => by
    by_cases e : y = x
    · subst e
      exact ⟨0, rfl, fun m hm => absurd hm (Nat.not_lt_zero _), by simp⟩
    · obtain ⟨j, h1, h2, h3⟩ := first_of (xs := xs) ((List.mem_cons.mp h).resolve_left fun z => e z.symm)
      refine ⟨j + 1, by simpa using h1, fun m hm => ?_, ?_⟩
      · cases m with
        | zero => simpa using e
        | succ m => simpa using h2 m (by omega)
      · rw [List.eraseIdx_cons_succ, h3, List.erase_cons_tail (by simpa using e)]
theorem erase_map {α β : Type} (f : α → β) : ∀ (xs : List α) (j : Nat), (xs.map f).eraseIdx j = (xs.eraseIdx j).map f
  | [], _ => rfl
  | _ :: _, 0 => rfl
  | x :: xs, j + 1 => by rw [List.map_cons, List.eraseIdx_cons_succ, List.eraseIdx_cons_succ, List.map_cons, erase_map f xs j]
theorem a_rem (z : XL pN H0 F H p xs) (w : Wf F0 H0 F H) (hx : x ∈ xs) (k : ∀ H', Wf F0 H0 F H' → XL pN H0 F H' p (xs.erase x) → (∀ q o, H q = some o → q ≠ p → H' q = some o) → Q .non H') : L2.rRemI (.ref p) [.int (x : Int)] H Q := by
  obtain ⟨vs, a, b⟩ := z.x
  have e := nats_eq b
  obtain ⟨j, h1, h2, h3⟩ := first_of hx
  have hh := a.h
  rw [e] at hh
  refine ⟨p, _, _, j, rfl, rfl, hh, by rw [List.getElem?_map, h1]; rfl, fun m hm z => h2 m hm ?_, ?_⟩
  · rw [List.getElem?_map] at z
    cases q : xs[m]? with
    | none => rw [q] at z; cases z
    | some y =>
      rw [q] at z
      have : Int.ofNat y = (x : Int) := Option.some.inj z
      have : y = x := by simp only [Int.ofNat_eq_natCast] at this; omega
      rw [this]
  · refine k _ (w.set a) ⟨_, a.set, ?_⟩ fun q o h hq => by rw [upd_ne hq]; exact h
    have e4 : ((xs.map Int.ofNat).eraseIdx j).map V.int = ((xs.erase x).map Int.ofNat).map V.int := by
      rw [← h3, erase_map]
    rw [e4]
    have go : ∀ ys : List Nat, All pN F ((ys.map Int.ofNat).map V.int) ys := by
      intro ys
      induction ys with
      | nil => trivial
      | cons y ys ih => exact ⟨rfl, ih⟩
    exact go _
/-- sorted(d), the keys numbers -/
def rSortedDI : List V → Hp → VK → Prop := fun xs H Q => ∃ (a : Addr) (kvs : List (Key × V)) (ks : List Int), xs = [.ref a] ∧ Rd H a (.dK kvs) ∧ kvs.map (·.1) = ks.map Sum.inl ∧ ks.length < 64 ∧ ∀ (ys : List Int) (p : Addr), ys.Perm ks → ys.Pairwise (· ≤ ·) → H p = none → Q (.ref p) (upd H p (.lst (ys.map V.int)))
theorem DA.nkeys {α : Type} {e : Rep α} {F : Hp} : ∀ {kvs : List (Key × V)} {m : List (Nat × α)}, DA e F kvs m → kvs.map (·.1) = ((m.map (·.1)).map Int.ofNat).map Sum.inl
  | [], [], _ => rfl
  | p :: r, q :: s, ⟨a, _, c⟩ => by rw [List.map_cons, List.map_cons, List.map_cons, List.map_cons, DA.nkeys c, a]; rfl
  | [], _ :: _, q => q.elim
  | _ :: _, [], q => q.elim
theorem n_sortD {α : Type} {e : Rep α} {m : List (Nat × α)} (r : (pD e).r F v m) (w : Wf F0 H0 F H) (hl : m.length < 64) (k : ∀ (ys : List Nat) p H', ys.Perm (m.map (·.1)) → ys.Pairwise (· ≤ ·) → H p = none → Wf F H F H' → XL pN H0 F H' p ys → Q (.ref p) H') : rSortedDI [v] H Q := by
  obtain ⟨p, kvs, rfl, hp, a⟩ := r
  refine ⟨p, kvs, (m.map (·.1)).map Int.ofNat, rfl, .inl (w.f _ _ hp), a.nkeys, by rw [List.length_map, List.length_map]; exact hl, fun ys q hperm hs hq => ?_⟩
  have e1 : ys = (ys.map Int.toNat).map Int.ofNat := by
    rw [List.map_map]
    have : ys.map (Int.ofNat ∘ Int.toNat) = ys.map id := List.map_congr_left fun y hy => by
      obtain ⟨n, _, rfl⟩ := List.mem_map.mp (hperm.mem_iff.mp hy)
      rfl
    rw [this, List.map_id]
  have e2 : (ys.map Int.toNat).Perm (m.map (·.1)) := by
    have := hperm.map Int.toNat
    rw [List.map_map (l := m.map (·.1))] at this
    have z : (m.map (·.1)).map (Int.toNat ∘ Int.ofNat) = (m.map (·.1)).map id := List.map_congr_left fun y _ => rfl
    rw [z, List.map_id] at this
    exact this
  have e3 : (ys.map Int.toNat).Pairwise (· ≤ ·) := List.pairwise_map.mpr (hs.imp fun h => Int.toNat_le_toNat h)
  have go : ∀ zs : List Nat, All pN F ((zs.map Int.ofNat).map V.int) zs := by
    intro zs
    induction zs with
    | nil => trivial
    | cons y zs ih => exact ⟨rfl, ih⟩
  have a2 := go (ys.map Int.toNat)
  rw [← e1] at a2
  exact k _ q _ e2 e3 hq (Wf.newX w.f hq) ⟨_, Xc.mk' w hq, a2⟩
end
end Wk

namespace Wk
open PySem L2
/-- one of two kinds -/
def pAlt {α β : Type} (e : Rep α) (f : Rep β) : Rep (Sum α β) := ⟨fun F v x => match x with | .inl a => e.r F v a | .inr b => f.r F v b, fun {_ _ _ x} h q => by cases x with | inl a => exact e.mono h q | inr b => exact f.mono h q⟩
theorem alt_n {α : Type} {e : Rep α} {F : Hp} {v : V} {x : Sum α Nat} {y : Nat} (r : (pAlt e pN).r F v x) (h : x = Sum.inr y) : v = .int ((y : Nat) : Int) := by subst h; exact r
theorem alt_l {α β : Type} {e : Rep α} {f : Rep β} {F : Hp} {v : V} {x : Sum α β} {y : α} (r : (pAlt e f).r F v x) (h : x = Sum.inl y) : e.r F v y := by subst h; exact r
def rLenD : List V → Hp → VK → Prop := fun xs H Q => ∃ (p : Addr) (kvs : List (Key × V)), xs = [.ref p] ∧ H p = some (.dK kvs) ∧ Q (.int kvs.length) H
theorem len_D {κ α : Type} [DecidableEq κ] [KeyT κ] {e : Rep α} {F H : Hp} {v : V} {m : List (κ × α)} {σ : L2.St} {ta : TE} (r : (pD e).r F v m) (f : Ex F H) (ha : Val ta σ H v) : Val (tCB rLenD (tCons ta tNil)) σ H (.int ((m.length : Nat) : Int)) := by
  obtain ⟨p, kvs, rfl, hp, a⟩ := D_rd r f
  exact v_cb1 ha fun Q k => ⟨p, kvs, rfl, hp, by rw [a.len]; exact k⟩
end Wk
/-! SrtD: sorted(d) of a dict whose keys are numbers, however many (after the rule for fewer than 64, with the sort of SortInts). -/
namespace Wk
open PySem PySem.Spec PyProof.Rows L2
/-- sorted(d), any number of keys -/
def rSortedDX : List V → Hp → VK → Prop := fun xs H Q => ∃ (a : Addr) (kvs : List (Key × V)) (ks : List Int), xs = [.ref a] ∧ Rd H a (.dK kvs) ∧ kvs.map (·.1) = ks.map Sum.inl ∧ ks.length < 1000000 ∧ ∀ (ys : List Int) (p : Addr), ys.Perm ks → ys.Pairwise (· ≤ ·) → H p = none → Q (.ref p) (upd H p (.lst (ys.map V.int)))
section
variable {X : Cx}
theorem call_sortedDX (hcalm : X.calm = true) : CallR X (.builtin "sorted") rSortedDX := by
  intro pins s σ H xs us Q Iv rr qq
  obtain ⟨da, kvs, ks, ex, hd, hks, hbig, qq⟩ := qq
  subst ex
  obtain ⟨u1, eu, rx⟩ := vals1 rr
  subst eu
  cases rx
  obtain ⟨zz, lo, vs, rel, dd⟩ := dk_rd Iv.hok hd
  obtain ⟨ep, hat⟩ := dd.dictAt
  have hks2 : vs.map (·.1) = ks.map Sum.inl := rel.keys.symm.trans hks
  have hln : vs.length = ks.length := by
    have el := congrArg List.length hks2
    rw [List.length_map, List.length_map] at el; exact el
  have hsz : ks.length ≤ sizeLine := by rw [sizeLine_eq]; omega
  refine Calls.call_function_entry kind_sorted plain_sorted entry_sorted (args_sorted1 _) ?_
  unfold Builtin.«sorted»
  refine wpAny_bind (m := checkCount "sorted" 1 1 _) (wpAny_pure ?_)
  refine wpAny_bind (PySem.W.kdu_collect (A := X.A.in1) (PySem.W.kdl_dict (knd := mixKind X.prog X.w) (kvs := vs) (ep := ep) lo) (Iv.ok.hd hcalm) hat (by rw [hln]; exact hsz) fun hp2 tk2 ac hkp hac => ?_)
  have hal2 : ac.toList.length = ks.length := by rw [Array.length_toList, hac.1, hln]
  have hInt : IntsAre ac.toList ks := ints_each hal2 fun j v e => by
    obtain ⟨key, x, e1, e2⟩ := hac.2 j v (by rw [← Array.getElem?_toList]; exact e)
    have e3 : (vs.map (·.1))[j]? = some key := by rw [List.getElem?_map, e1]; rfl
    rw [hks2, List.getElem?_map] at e3
    cases e4 : ks[j]? with
    | none => rw [e4] at e3; cases e3
    | some y =>
      rw [e4] at e3
      have e5 : Sum.inl y = key := Option.some.inj e3
      subst e5
      rcases keyIs_shape (show keyIs (Sum.inl y) v = true from e2) with ⟨i, t, ek, ev⟩ | ⟨z, t, ek, ev⟩
      · cases ek; exact ⟨y, t, rfl, ev⟩
      · cases ek
  have Iv2 : Inv X pins σ H { s with heap := hp2, toks := tk2 } := Iv.kept hkp
  refine wpAny_bind (wpAny_newList ?_ (by rw [hal2]; exact hsz))
  have hob2 : (hp2.push (seqObj "list" ac.toList.toArray 0)).get? hp2.objs.size = some (seqObj "list" ac.toList.toArray 0) := Heap.get?_push_size _ rfl
  show wpAny _ _ _ _ _ { s with heap := hp2.push (seqObj "list" ac.toList.toArray 0), toks := tk2 }
  refine wpAny_bind (wpAny_holding (wpAny_call_entry slot_list_sort ⟨_, hob2, rfl⟩ entry_list_sort
    (SrtO.list_sort_ord (s := { s with heap := hp2.push (seqObj "list" ac.toList.toArray 0), toks := tk2 }) SrtO.swo_int hob2 (by rw [hal2]; exact hsz) (fun h2 => SrtO.ints_sortable hInt h2) fun out g1 g2 => ⟨_, rfl, ?_⟩) (args_list_sort _)))
  obtain ⟨k1, k2, k3⟩ := SrtO.ints_out hInt g1 g2
  obtain ⟨ep2, hep2⟩ := sortedHeap_at (vs := ac.toList) (out := out.toArray) hob2
  have hlen2 : ((out.map SrtO.iv).map V.int).length ≤ sizeLine := by rw [List.length_map, k2.length_eq]; exact hsz
  refine wpAny_pure ⟨_, rfl, .ref hp2.objs.size, upd H hp2.objs.size (.lst ((out.map SrtO.iv).map V.int)), Iv2.laid (t' := tk2) (fun b u e => ?_) (Nat.le_refl _)
    (show ObjOk X.prog X.w _ _ _ (.lst ((out.map SrtO.iv).map V.int)) from ⟨hlen2, out, ep2, vals_of_ints k1, hep2⟩), rfl, qq _ _ k2 k3 (Iv2.hok.fresh (Nat.le_refl _))⟩
  have hbl : b < hp2.objs.size := Heap.lt_size e
  rw [sortedHeap_old (Nat.ne_of_lt hbl) (by rw [size_push']; exact Nat.lt_succ_of_lt hbl)]
  exact Heap.get?_push_of_some _ e
end
section
variable {K : PySem.W.Frag} {F0 H0 F H H' : Hp} {Q : VK} {v : V}
theorem n_sortDX {α : Type} {e : Rep α} {m : List (Nat × α)} (r : (pD e).r F v m) (w : Wf F0 H0 F H) (hl : m.length < 1000000) (k : ∀ (ys : List Nat) p H', ys.Perm (m.map (·.1)) → ys.Pairwise (· ≤ ·) → H p = none → Wf F H F H' → XL pN H0 F H' p ys → Q (.ref p) H') : rSortedDX [v] H Q := by
  obtain ⟨p, kvs, rfl, hp, a⟩ := r
  refine ⟨p, kvs, (m.map (·.1)).map Int.ofNat, rfl, .inl (w.f _ _ hp), a.nkeys, by rw [List.length_map, List.length_map]; exact hl, fun ys q hperm hs hq => ?_⟩
  have e1 : ys = (ys.map Int.toNat).map Int.ofNat := by
    rw [List.map_map]
    have : ys.map (Int.ofNat ∘ Int.toNat) = ys.map id := List.map_congr_left fun y hy => by
      obtain ⟨n, _, rfl⟩ := List.mem_map.mp (hperm.mem_iff.mp hy)
      rfl
    rw [this, List.map_id]
  have e2 : (ys.map Int.toNat).Perm (m.map (·.1)) := by
    have := hperm.map Int.toNat
    rw [List.map_map (l := m.map (·.1))] at this
    have z : (m.map (·.1)).map (Int.toNat ∘ Int.ofNat) = (m.map (·.1)).map id := List.map_congr_left fun y _ => rfl
    rw [z, List.map_id] at this
    exact this
  have e3 : (ys.map Int.toNat).Pairwise (· ≤ ·) := List.pairwise_map.mpr (hs.imp fun h => Int.toNat_le_toNat h)
  have go : ∀ zs : List Nat, All pN F ((zs.map Int.ofNat).map V.int) zs := by
    intro zs
    induction zs with
    | nil => trivial
    | cons y zs ih => exact ⟨rfl, ih⟩
  have a2 := go (ys.map Int.toNat)
  rw [← e1] at a2
  exact k _ q _ e2 e3 hq (Wf.newX w.f hq) ⟨_, Xc.mk' w hq, a2⟩
end
end Wk
/-! Xn: defs that may raise; try. -/
namespace Wk
open PySem L2
def tTry (K : PySem.W.Frag) (c : Value) (tb : WX → TS) (ts : Addr → Value → Option Addr → TS) (Wout : WX) : TS := fun D σ H => tb (wOnly K c ts Wout D) D σ H
theorem a_tryI {K : PySem.W.Frag} {c : Value} {tb : WX → TS} {ts : Addr → Value → Option Addr → TS} {Wout : WX} {D : Ends} {σ : L2.St} {H : Hp} (h : tb (wOnly K c ts Wout D) D σ H) : tTry K c tb ts Wout D σ H := h
theorem a_exc {K : PySem.W.Frag} {c cls : Value} {d : Option Addr} {ts : Addr → Value → Option Addr → TS} {Wout : WX} {D : Ends} {σ : L2.St} {H : Hp} (he : PySem.W.exmOne K cls c = some true) (h : ∀ a, H a = none → ts a cls d D σ H) : wOnly K c ts Wout D cls d σ H :=
  ⟨true, he, fun _ => h, fun q => Bool.noConfusion q⟩
theorem a_excO {K : PySem.W.Frag} {c cls : Value} {d : Option Addr} {ts : Addr → Value → Option Addr → TS} {Wout : WX} {D : Ends} {σ : L2.St} {H : Hp} (he : PySem.W.exmOne K cls c = some false) (h : Wout cls d σ H) : wOnly K c ts Wout D cls d σ H :=
  ⟨false, he, fun q => Bool.noConfusion q, fun _ => h⟩
/-- raise, in short -/
def tRaise (W : WX) (C : Addr) : TS := fun _ σ H => W (.ref C) none σ H
theorem e_callS {sp : Sp} {E : L2.St → XK} {tA : TA} {σ : L2.St} {H : Hp} {Q : VK} (h : tA σ H fun vs H1 => sp vs H1 Q (E σ)) : tCallS sp E tA σ H Q := h
/-- what the walk asks of an exception's class -/
structure XC (K : PySem.W.Frag) (mg : Str → Option Value) (n : Str) (C : Addr) : Prop where
  x : PySem.W.excIn K C [.type "ValueError", .type "Exception", .type "BaseException", .type "object"] "ValueError.__new__" = true
  g : mg n = some (.ref C)
  k : PySem.W.keepIn K (.ref C) = true
  b : PySem.W.subIn K (.ref C) (.type "BaseException") = some true
  t : PySem.W.typeIn K (.ref C) = some (.type "type")
theorem exm_of {K : PySem.W.Frag} {S T : Addr} {b : Bool} (h1 : PySem.W.subIn K (.ref T) (.type "BaseException") = some true) (h2 : PySem.W.isClsIn K T = true) (h3 : PySem.W.typeIn K (.ref T) = some (.type "type")) (h4 : PySem.W.subIn K (.ref S) (.ref T) = some b) :
    PySem.W.exmOne K (.ref S) (.ref T) = some b := by
  have e1 : (PySem.W.subIn K (.ref T) (.type "BaseException") == some true) = true := by rw [h1]; rfl
  have e2 : ((PySem.W.clsIn K T).isSome && PySem.W.typeIn K (.ref T) == some (.type "type")) = true := by
    have h2' : (PySem.W.clsIn K T).isSome = true := h2
    rw [h2', h3]; rfl
  show (if (PySem.W.subIn K (.ref T) (.type "BaseException") == some true) = true then (if ((PySem.W.clsIn K T).isSome && PySem.W.typeIn K (.ref T) == some (.type "type")) = true then PySem.W.subIn K (.ref S) (.ref T) else none) else none) = some b
  rw [if_pos e1, if_pos e2]; exact h4
section
variable {X : Cx} {k : Nat} {C : Addr} {x m : Str} {ps : List Str} {sp : Sp} {W : WX} {o e : Expr} {es : List Expr} {p pos apos : Pos} {ta : TE} {t : TA} {pl : Sem Bool}
theorem pe_fnL (F : Fn X.prog X.w X.K X.mg X.base (L2.CX X.prog X.w) k x ps sp) (hr : Room k X.A) (hg : Gl X x) (ha : PA X (e :: es) t) (hdb : (x == ("__debug__" : Str)) = false := by decide)
    (he : starEach (e :: es) X.env = (false, eval e X.env) :: starEach es X.env := by rfl) (hpl : (backTo pos (starEach es X.env)).any (·.1) = false := by rfl) : PE X (.Call (.Name x p) (e :: es) [] pos) (tCall sp [] E0 t) := by
  obtain ⟨f, fd, F, hm, hk, hb⟩ := F.ex
  exact pe_call F hr hg hm hk hb .nil passL ha hdb he hpl
theorem pe_fnS (F : Fn X.prog X.w X.K X.mg X.base (L2.CX X.prog X.w) k x ps sp) (tk : Takes X W) (hr : Room k X.A) (hg : Gl X x) (ha : PA X (e :: es) t) (hdb : (x == ("__debug__" : Str)) = false := by decide)
    (he : starEach (e :: es) X.env = (false, eval e X.env) :: starEach es X.env := by rfl) (hpl : (backTo pos (starEach es X.env)).any (·.1) = false := by rfl) : PE X (.Call (.Name x p) (e :: es) [] pos) (tCallS sp (WE W) t) := by
  obtain ⟨f, fd, F, hm, hk, hb⟩ := F.ex
  exact pe_callS F hr hg hm hk hb (fun σ => passAt tk σ) ha hdb he hpl
/-- methods -/
theorem pe_mdL (M : Md X.prog X.w X.K X.mg X.base (L2.CX X.prog X.w) k C m ps sp) (cl : Cls X.K C) (hr : Room k X.A) (he : PE X o ta) (ha : PA X (e :: es) t)
    (hst : starEach (e :: es) X.env = (false, eval e X.env) :: starEach es X.env := by rfl) (hpl : (backTo pos (starEach es X.env)).any (·.1) = false := by rfl)
    (ht : eval (.Call (.Attribute o m apos) (e :: es) [] pos) X.env = (do
      let ov ← eval o X.env
      standAt apos.atName
      let (f, first) ← holding [ov] (getMethod ov m pl)
      callWith pos f first (backTo pos (starEach (e :: es) X.env)) (backToKw pos (keywordEach [] X.env))) := by rfl) :
    PE X (.Call (.Attribute o m apos) (e :: es) [] pos) (tMeth C m sp [] E0 ta t) := by
  obtain ⟨f, fd, F, hm, hb⟩ := M.ex
  exact pe_meth he cl hm F hr hb .nil passL ha hst hpl ht
def tMdS (C : Addr) (m : Str) (sp : Sp) (E : L2.St → XK) (ta : TE) (t : TA) : TE := fun σ H Q => ta σ H fun x H1 => ∃ a dx fs, x = .ref a ∧ H1 a = some (.ins C dx fs) ∧ fs.lookup m = none ∧ t σ H1 fun vs H2 => sp (x :: vs) H2 Q (E σ)
theorem e_mdS {E : L2.St → XK} {σ : L2.St} {H : Hp} {Q : VK} (h : ta σ H fun x H1 => ∃ a dx fs, x = .ref a ∧ H1 a = some (.ins C dx fs) ∧ fs.lookup m = none ∧ t σ H1 fun vs H2 => sp (x :: vs) H2 Q (E σ)) : tMdS C m sp E ta t σ H Q := h
theorem pe_mdS (M : Md X.prog X.w X.K X.mg X.base (L2.CX X.prog X.w) k C m ps sp) (tk : Takes X W) (cl : Cls X.K C) (hr : Room k X.A) (he : PE X o ta) (ha : PA X (e :: es) t)
    (hst : starEach (e :: es) X.env = (false, eval e X.env) :: starEach es X.env := by rfl) (hpl : (backTo pos (starEach es X.env)).any (·.1) = false := by rfl)
    (ht : eval (.Call (.Attribute o m apos) (e :: es) [] pos) X.env = (do
      let ov ← eval o X.env
      standAt apos.atName
      let (f, first) ← holding [ov] (getMethod ov m pl)
      callWith pos f first (backTo pos (starEach (e :: es) X.env)) (backToKw pos (keywordEach [] X.env))) := by rfl) :
    PE X (.Call (.Attribute o m apos) (e :: es) [] pos) (tMdS C m sp (WE W) ta t) := by
  obtain ⟨f, fd, F, hm, hb⟩ := M.ex
  refine ⟨fun pins s σ H Q Iv hh => ?_⟩
  refine PySem.W.methodCall_KW (pl := pl) (thn (he.run pins s σ H _ Iv hh) fun u s1 ⟨x, H1, Iv1, rx, a, dx, fs, ex, ea, lk, qq⟩ => ?_) ht
  subst ex
  obtain rfl : u = Value.ref a := rx
  refine getmeth_ok Iv1 ea cl hm lk ?_
  refine PySem.W.callWith_K (first := [.ref a]) (h₀ := X.base) Iv1.ok.mod.kin hm.kp (thn (ha.run pos pins s1 σ H1 _ Iv1 qq) fun us s2 ⟨vs, H2, Iv2, rv, q2⟩ => ⟨Iv2.kIn, ?_⟩) hst hpl
  exact run_fnS (us := .ref a :: us) (vs := .ref a :: vs) F hr hb (passAt tk σ) Iv2 (.cons rfl rv) q2
end
theorem a_par {i j : Nat} {tA : TA} {D : Ends} {σ : L2.St} {H : Hp} (h : tA σ H fun vs H1 => ∃ v w, vs = [v, w] ∧ D.nx ((σ.set i (some v)).set j (some w)) H1) : tPar i j tA D σ H := h
theorem a_raise {W : WX} {C : Addr} {D : Ends} {σ : L2.St} {H : Hp} (h : W (.ref C) none σ H) : tRaise W C D σ H := h
end Wk
/-! An: things of any kind; constants of the module. -/
namespace Wk
open PySem L2
/-- a thing: a whole number, a truth, None, a text, or another one of a kind that is told -/
inductive An where
  | i (n : Int)
  | b (b : Bool)
  | n
  | s (x : Str)
  | o (T : String)
  | l (xs : List An)
  | t (xs : List An)
mutual
def anR (F : Hp) : An → V → Prop
  | .i n, v => v = .int n
  | .b b, v => v = .bl b
  | .n, v => v = .non
  | .s x, v => v = .str x
  | .o T, v => ∃ p, v = .ref p ∧ ((T = "list" ∧ ∃ vs, F p = some (.lst vs)) ∨ (T = "tuple" ∧ ∃ vs, F p = some (.tup vs)) ∨ (T = "dict" ∧ ∃ kvs, F p = some (.dK kvs)))
  | .l xs, v => ∃ p vs, v = .ref p ∧ F p = some (.lst vs) ∧ anRs F xs vs
  | .t xs, v => ∃ p vs, v = .ref p ∧ F p = some (.tup vs) ∧ anRs F xs vs
def anRs (F : Hp) : List An → List V → Prop
  | [], [] => True
  | x :: xs, v :: vs => anR F x v ∧ anRs F xs vs
  | _, _ => False
end
mutual
theorem anR_mono {F F' : Hp} (h : Ex F F') : ∀ {x : An} {v : V}, anR F x v → anR F' x v
  | .i _, _, r => r
  | .b _, _, r => r
  | .n, _, r => r
  | .s _, _, r => r
  | .o T, v, r => by
    obtain ⟨p, e, q⟩ := (show ∃ p, v = .ref p ∧ _ from r)
    refine ⟨p, e, ?_⟩
    rcases q with ⟨t, vs, q⟩ | ⟨t, vs, q⟩ | ⟨t, vs, q⟩
    · exact .inl ⟨t, vs, h _ _ q⟩
    · exact .inr (.inl ⟨t, vs, h _ _ q⟩)
    · exact .inr (.inr ⟨t, vs, h _ _ q⟩)
  | .l _, _, ⟨p, vs, a, b, c⟩ => ⟨p, vs, a, h _ _ b, anRs_mono h c⟩
  | .t _, _, ⟨p, vs, a, b, c⟩ => ⟨p, vs, a, h _ _ b, anRs_mono h c⟩
theorem anRs_mono {F F' : Hp} (h : Ex F F') : ∀ {xs : List An} {vs : List V}, anRs F xs vs → anRs F' xs vs
  | [], [], _ => trivial
  | _ :: _, _ :: _, ⟨a, b⟩ => ⟨anR_mono h a, anRs_mono h b⟩
  | [], _ :: _, r => r.elim
  | _ :: _, [], r => r.elim
end
def pA : Rep An := ⟨fun F v x => anR F x v, fun h r => anR_mono h r⟩
theorem anRs_all {F : Hp} : ∀ {xs : List An} {vs : List V}, anRs F xs vs ↔ All pA F vs xs
  | [], [] => Iff.rfl
  | x :: xs, v :: vs => ⟨fun ⟨a, b⟩ => ⟨a, anRs_all.mp b⟩, fun ⟨a, b⟩ => ⟨a, anRs_all.mpr b⟩⟩
  | [], _ :: _ => ⟨fun q => q.elim, fun q => q.elim⟩
  | _ :: _, [] => ⟨fun q => q.elim, fun q => q.elim⟩
theorem an_l {F : Hp} {v : V} {xs : List An} : pA.r F v (.l xs) ↔ (pL pA).r F v xs :=
  ⟨fun r => let ⟨p, vs, a, b, c⟩ := (show ∃ p vs, v = .ref p ∧ F p = some (.lst vs) ∧ anRs F xs vs from r); ⟨p, vs, a, b, anRs_all.mp c⟩, fun ⟨p, vs, a, b, c⟩ => (show ∃ p vs, v = .ref p ∧ F p = some (.lst vs) ∧ anRs F xs vs from ⟨p, vs, a, b, anRs_all.mpr c⟩)⟩
theorem an_t {F : Hp} {v : V} {xs : List An} : pA.r F v (.t xs) ↔ (pTL pA).r F v xs :=
  ⟨fun r => let ⟨p, vs, a, b, c⟩ := (show ∃ p vs, v = .ref p ∧ F p = some (.tup vs) ∧ anRs F xs vs from r); ⟨p, vs, a, b, anRs_all.mp c⟩, fun ⟨p, vs, a, b, c⟩ => (show ∃ p vs, v = .ref p ∧ F p = some (.tup vs) ∧ anRs F xs vs from ⟨p, vs, a, b, anRs_all.mpr c⟩)⟩
/-- readings as things of any kind -/
def Cv {α : Type} (e : Rep α) (f : α → An) : Prop := ∀ {F : Hp} {v : V} {x : α}, e.r F v x → pA.r F v (f x)
theorem cv_nat : Cv pN (fun n => .i (n : Int)) := fun r => r
theorem cv_int : Cv pI .i := fun r => r
theorem cv_bool : Cv pB .b := fun r => r
theorem cv_str : Cv pS .s := fun r => r
theorem cv_any : Cv pA (fun x => x) := fun r => r
theorem cv_unit : Cv pU (fun _ => .n) := fun r => r
theorem cv_all {α : Type} {e : Rep α} {f : α → An} (h : Cv e f) {F : Hp} : ∀ {vs : List V} {xs : List α}, All e F vs xs → All pA F vs (xs.map f)
  | [], [], _ => trivial
  | _ :: _, _ :: _, ⟨a, b⟩ => ⟨h a, cv_all h b⟩
  | [], _ :: _, q => q.elim
  | _ :: _, [], q => q.elim
theorem cv_L {α : Type} {e : Rep α} {f : α → An} (h : Cv e f) : Cv (pL e) (fun xs => .l (xs.map f)) := fun ⟨p, vs, a, b, c⟩ => an_l.mpr ⟨p, vs, a, b, cv_all h c⟩
theorem cv_TL {α : Type} {e : Rep α} {f : α → An} (h : Cv e f) : Cv (pTL e) (fun xs => .t (xs.map f)) := fun ⟨p, vs, a, b, c⟩ => an_t.mpr ⟨p, vs, a, b, cv_all h c⟩
theorem cv_T2 {α β : Type} {e : Rep α} {g : Rep β} {f : α → An} {k : β → An} (h : Cv e f) (h2 : Cv g k) : Cv (pT2 e g) (fun x => .t [f x.1, k x.2]) := fun ⟨p, u, w, a, b, c, d⟩ => an_t.mpr ⟨p, _, a, b, h c, h2 d, trivial⟩
theorem cv_T3 {α β γ : Type} {e : Rep α} {g : Rep β} {g2 : Rep γ} {f : α → An} {k : β → An} {k2 : γ → An} (h : Cv e f) (h2 : Cv g k) (h3 : Cv g2 k2) : Cv (pT3 e g g2) (fun x => .t [f x.1, k x.2.1, k2 x.2.2]) := fun ⟨p, u, w, y, a, b, c, d, q⟩ => an_t.mpr ⟨p, _, a, b, h c, h2 d, h3 q, trivial⟩
def An.ty : An → String
  | .i _ => "int"
  | .b _ => "bool"
  | .n => "NoneType"
  | .s _ => "str"
  | .o T => T
  | .l _ => "list"
  | .t _ => "tuple"
/-- isinstance(x, T) for a built-in T -/
def isA (T : String) (x : An) : Bool := x.ty == T || (T == "int" && x.ty == "bool")
section
variable {α β : Type} {e : Rep α} {f : Rep β} {K : PySem.W.Frag} {σ : L2.St} {F F' H : Hp} {ta : TE} {v : V} {x : An} {xs : List α} {y : α × β}
theorem an_L (r : (pL e).r F v xs) : pA.r F v (.o "list") := let ⟨p, vs, a, b, _⟩ := r; (show ∃ p, v = .ref p ∧ _ from ⟨p, a, .inl ⟨rfl, vs, b⟩⟩)
theorem an_TL (r : (pTL e).r F v xs) : pA.r F v (.o "tuple") := let ⟨p, vs, a, b, _⟩ := r; (show ∃ p, v = .ref p ∧ _ from ⟨p, a, .inr (.inl ⟨rfl, vs, b⟩)⟩)
theorem an_T2 (r : (pT2 e f).r F v y) : pA.r F v (.o "tuple") := let ⟨p, u, w, a, b, _⟩ := r; (show ∃ p, v = .ref p ∧ _ from ⟨p, a, .inr (.inl ⟨rfl, _, b⟩)⟩)
theorem an_ty (r : pA.r F v x) (h : Ex F H) : TyX K H v (.type x.ty) := by
  cases x with
  | i n => cases (show v = V.int n from r); exact .base (.int _)
  | b b => cases (show v = V.bl b from r); exact .base (.bl _)
  | n => cases (show v = V.non from r); exact .base .non
  | s x => cases (show v = V.str x from r); exact .base (.str _)
  | o T =>
    obtain ⟨p, rfl, q⟩ := (show ∃ p, v = .ref p ∧ _ from r)
    rcases q with ⟨rfl, vs, q⟩ | ⟨rfl, vs, q⟩ | ⟨rfl, vs, q⟩
    · exact .base (.lst (h _ _ q))
    · exact .base (.tup (h _ _ q))
    · exact .base (.dK (h _ _ q))
  | l xs =>
    obtain ⟨p, vs, rfl, q, _⟩ := an_l.mp r
    exact .base (.lst (h _ _ q))
  | t xs =>
    obtain ⟨p, vs, rfl, q, _⟩ := an_t.mp r
    exact .base (.tup (h _ _ q))
/-- the classes that are asked for -/
def okT (T : String) : Bool := ["int", "bool", "str", "list", "tuple", "dict"].all fun t => ["int", "bool", "NoneType", "str", "list", "tuple", "dict"].all fun u => kitB u T == some (u == T || (T == "int" && u == "bool"))
theorem kit_isA (T : String) (r : pA.r F v x) (hT : ∀ u ∈ ["int", "bool", "NoneType", "str", "list", "tuple", "dict"], kitB u T = some (u == T || (T == "int" && u == "bool"))) : kitB x.ty T = some (isA T x) := by
  unfold isA
  cases x with
  | i n => exact hT "int" (by simp)
  | b b => exact hT "bool" (by simp)
  | n => exact hT "NoneType" (by simp)
  | s x => exact hT "str" (by simp)
  | o T' =>
    obtain ⟨p, _, q⟩ := (show ∃ p, v = .ref p ∧ _ from r)
    rcases q with ⟨e, _⟩ | ⟨e, _⟩ | ⟨e, _⟩ <;> subst e
    · exact hT "list" (by simp)
    · exact hT "tuple" (by simp)
    · exact hT "dict" (by simp)
  | l xs => exact hT "list" (by simp)
  | t xs => exact hT "tuple" (by simp)
theorem v_isiA (T : String) (ha : Val ta σ H v) (r : pA.r F v x) (h : Ex F H) (hT : ∀ u ∈ ["int", "bool", "NoneType", "str", "list", "tuple", "dict"], kitB u T = some (u == T || (T == "int" && u == "bool")) := by decide +kernel) : Val (tCB (rIsi K) (tCons ta (tCons (tC (.ty T)) tNil))) σ H (.bl (isA T x)) :=
  v_isi ha (an_ty r h) (kit_isA T r hT)
theorem an_i {n : Int} (r : pA.r F v x) (h : x = An.i n) : v = .int n := by subst h; exact r
theorem an_toL {ys : List An} (r : pA.r F v x) (h : x = An.l ys) : (pL pA).r F v ys := by subst h; exact an_l.mp r
end
/-- a constant of the module -/
theorem pe_globE {X : Cx} {x : Str} {v : V} {pos : Pos} (h : ∃ u, X.mg x = some u ∧ RelV v u) (hg : Gl X x) (hd : (x == ("__debug__" : Str)) = false := by decide) : PE X (.Name x pos) (tC v) := by
  obtain ⟨u, h1, h2⟩ := h
  exact pe_glob hg h1 h2 hd
end Wk
/-! ETup: enumerate(a tuple), after the rule for lists. -/
namespace PySem
open Sem (wp)
open AutoSeq1 (wpAny_loadPart')
theorem enumT_meets (tt : Addr) (o : Obj) (items : Array Value) (n : Nat) (hcls : o.cls = .type "tuple") (hdat : o.data = .seq items n) :
    Meets (Builtin.«enumerate.__new__» ⟨[.type "enumerate", .ref tt], []⟩) (fun _ R s => s.heap.get? tt = some o ∧
      R (.ok (.ret (.ref (s.heap.push { cls := .type "tuple_iterator", data := .fields #[.ref tt, .int 0 0] }).objs.size)))
        { s with heap := (s.heap.push { cls := .type "tuple_iterator", data := .fields #[.ref tt, .int 0 0] }).push { cls := .type "enumerate", data := .fields #[.none, .bool false, .ref s.heap.objs.size, rawInt 0, .none, .none] } }) :=
  .of_wp fun prog w A R s h => by
    obtain ⟨hp, g, d, tk, os⟩ := s
    obtain ⟨hl, h⟩ := h
    have hsub := sub_enumerate
    obtain ⟨oc, od, odt, osl⟩ := o
    replace hcls : oc = .type "tuple" := hcls
    replace hdat : odt = .seq items n := hdat
    subst hcls hdat
    have hT : Heap.IsTuple (Shared.heap ⟨hp, g, d, tk, os⟩) tt items := ⟨_, hl, rfl, n, rfl⟩
    wp_walk using wpAny_loadPart' hl
    refine wpAny_stack_any fun st => wpAny_pure ?_
    split
    · rename_i c _ _ _ _ _
      cases (c == Value.type "enumerate")
      · (wp_walk using wpAny_loadPart' hl, wpAny_pyIter_tuple hT); exact ⟨_, rfl, h⟩
      · (wp_walk using wpAny_loadPart' hl, wpAny_pyIter_tuple hT); exact ⟨_, rfl, h⟩
    · (wp_walk using wpAny_loadPart' hl, wpAny_pyIter_tuple hT); exact ⟨_, rfl, h⟩
section
variable {prog : Program} {w : World} {A : Around} {E : Value → Shared → Prop} {s : Shared}
theorem call_enumT {tt : Addr} {items : Array Value} {Q : Value → Shared → Prop} (hL : s.heap.IsTuple tt items)
    (h : ∀ h', IsEnum h' (s.heap.objs.size + 1) s.heap.objs.size 0 .none → h'.IsTupleIter s.heap.objs.size tt 0 → h'.objs.size = s.heap.objs.size + 2 → (∀ b o, s.heap.get? b = some o → h'.get? b = some o) → Q (.ref (s.heap.objs.size + 1)) { s with heap := h' }) :
    wpAny (model prog w) A (call (.type "enumerate") [.ref tt]) Q E s := by
  obtain ⟨ob, hl, hcl, n, hda⟩ := hL
  refine callType_new F.called_enumerate (by decide) (F.typeCall_enumerate_1 _) (F.newCall_enumerate_1 _) (fun obj => F.args_object_init_2 obj _) F.entry_enumerate_new (enumT_meets tt ob items n hcl hda) ⟨hl, ?_⟩
  have hsz : (s.heap.push { cls := .type "tuple_iterator", data := .fields #[.ref tt, .int 0 0] }).objs.size = s.heap.objs.size + 1 := Heap.size_push ..
  show _ ∧ _
  rw [hsz]
  have hen : IsEnum ((s.heap.push { cls := .type "tuple_iterator", data := .fields #[.ref tt, .int 0 0] }).push { cls := .type "enumerate", data := .fields #[.none, .bool false, .ref s.heap.objs.size, rawInt 0, .none, .none] }) (s.heap.objs.size + 1) s.heap.objs.size 0 .none := by
    have q := Heap.get?_push_size (s.heap.push { cls := .type "tuple_iterator", data := .fields #[.ref tt, .int 0 0] }) (o := { cls := .type "enumerate", data := .fields #[.none, .bool false, .ref s.heap.objs.size, rawInt 0, .none, .none] }) rfl
    rw [hsz] at q; exact q
  exact ⟨⟨_, hen, rfl⟩, h _ hen ⟨_, Heap.get?_push_of_some _ (Heap.get?_push_size _ rfl), rfl, rfl⟩ (by rw [Heap.size_push, hsz]) fun b o x => Heap.get?_push_of_some _ (Heap.get?_push_of_some _ x)⟩
end
end PySem
namespace Wk
open PySem PySem.Spec PyProof.Rows L2
/-- the tuple at a as it stands at each turn, each item in a new pair -/
def IteT (K : PySem.W.Frag) (a : Addr) : It :=
  ⟨fun i H => ∃ (xs : List V) (x : V), SqT K H a xs ∧ xs[i]? = some x, fun i H v H' => ∃ T x, v = .ref T ∧ H T = none ∧ H' = upd H T (.tup [.int (i : Nat), x]) ∧ ∀ xs, SqT K H a xs → xs[i]? = some x, fun i H => ∃ xs : List V, SqT K H a xs ∧ xs.length ≤ i⟩
theorem enumT_end {prog : Program} {w : World} {A : Around} {E : Value → Shared → Prop} {s : Shared} {en iw tt : Addr} {c : Int} {i : Nat} {items : Array Value} {old : Value} {Q : Option Value → Shared → Prop} (hh : A.handled = none)
    (hen : IsEnum s.heap en iw c old) (hit : s.heap.IsTupleIter iw tt i) (ht : s.heap.IsTuple tt items) (hx : items[i]? = none) (hQ : ∀ h', Heap.ExtBut iw s.heap h' → Q none { s with heap := h' }) : wpAny (model prog w) A (pyNext (.ref en)) Q E s := by
  have hTy2 : s.TypeIs (.ref en) "enumerate" := ⟨_, hen, rfl⟩
  unfold pyNext
  refine wpAny_bind (wpAny_attempt (wpAny_callSpecial?_slot (name := Str.ofString "__next__") hTy2 F.slot_enumerate_next (wpAny_call_entry F.slot_enumerate_next hTy2 F.entry_enumerate_next ?_ (F.args_enumerate_next_1 _))))
  show wpAny _ _ (field (.ref en) 2 >>= _) _ _ _
  refine wpAny_bind (wpAny_field hen rfl (x := .ref iw) rfl ?_)
  refine wpAny_bind (wpAny_nextOf_tuple_end hh hit ht hx fun h' x2 hx1 hx2 => ?_)
  obtain ⟨ob, ho, hcl⟩ := hx2
  refine wpAny_bind (wpAny_isInstance (T := "StopIteration") (b := true) ⟨ob, ho, hcl⟩ isSubtype_stop ?_)
  exact wpAny_pure (hQ _ hx1)
theorem turn_enumT {P : Program} {w : World} {K : PySem.W.Frag} {elts : List Expr} {kk : Nat} {tpos : Pos} (a en iw : Addr) :
    Turn P w K (.Tuple elts kk tpos) (IteT K a) [en, iw] en (fun i h => (∃ old, IsEnum h en iw ((i : Nat) : Int) old) ∧ h.IsTupleIter iw a i ∧ en ≠ iw ∧ a ≠ iw ∧ en ≠ a) where
  mem := by simp
  obj := fun i h stt b hb => by
    obtain ⟨⟨old, hen⟩, ⟨o, ho, hc, hd⟩, _⟩ := stt
    have e' : b = en ∨ b = iw := by simpa using hb
    rcases e' with z | z
    · rw [z]; exact ⟨_, hen, fun v q => nomatch q⟩
    · rw [z]; exact ⟨o, ho, fun v q => by rw [hd] at q; cases q⟩
  keep := fun i h h' stt k => let ⟨⟨old, hen⟩, hi, hne⟩ := stt; ⟨⟨old, k en (by simp) _ hen⟩, hi.at fun o q => k iw (by simp) o q, hne⟩
  item := by
    intro X hP hw hK hc i pins s σ H E Iv hff stt hg
    subst hP hw hK
    obtain ⟨⟨old, hen⟩, hit, hne, hai, hea⟩ := stt
    obtain ⟨xs, x, hq, hx⟩ := hg
    obtain ⟨its, rv, pt, hz⟩ := Iv.tuple hq
    obtain ⟨u, hu, ru⟩ := rv.get hx
    have hT0 : s.heap.IsTuple a its.toArray := pt
    have hel : en < s.heap.objs.size := Heap.lt_size hen
    have hil : iw < s.heap.objs.size := by obtain ⟨_, q, _⟩ := hit; exact Heap.lt_size q
    have hlt : i < its.toArray.size := by rw [List.size_toArray]; exact (List.getElem?_eq_some_iff.mp hu).1
    refine wpAny_pyNext_enum_itemD (Draws.tuple (A := X.A.in1) (Iv.ok.hd hc) iw a hai its.toArray) hen ⟨hit, hT0⟩ hlt hne (by simp [hne, hea]) fun x2 h' tk hP ho hstt' hT hsz hkp => ?_
    obtain rfl : x2 = u := by
      have h1 : its[i]? = some x2 := by simpa using hP
      rw [hu] at h1; exact (Option.some.inj h1).symm
    refine ⟨_, rfl, wpAny_letOwnedTupleGo_enum (s := { s with heap := h', toks := tk + 1 }) ho fun h'' he' sb => ?_⟩
    have hT2 : h''.get? s.heap.objs.size = some { cls := .type "tuple", data := .seq #[.int i tk, x2] } := (sb.2 _ (Nat.ne_of_gt hel)).trans hT
    have newt : ObjOk X.prog X.w (upd H s.heap.objs.size (.tup [.int (i : Nat), x])) h'' s.heap.objs.size (.tup [.int (i : Nat), x]) :=
      ⟨by show 2 ≤ sizeLine; decide, [.int i tk, x2], .cons ⟨_, rfl⟩ (.cons ru .nil), ⟨_, hT2, rfl, _, rfl⟩⟩
    have Iv1 : Inv X pins σ (upd H s.heap.objs.size (.tup [.int (i : Nat), x])) { s with heap := h'', toks := tk + 1 } :=
      Iv.turnedNew (ch := [en, iw]) (fun b ob hb q => (sb.2 b (fun z => hb (by simp [z]))).trans (hkp b ob (fun z => hb (by simp [z])) (fun z => hb (by simp [z])) q)) hff (Nat.le_refl _) newt
    refine ⟨.ref s.heap.objs.size, _, Iv1, rfl, ⟨_, x, rfl, Iv.hok.fresh (Nat.le_refl _), rfl, fun ys hy => by rw [Iv.tuple_inj hy hq]; exact hx⟩, ⟨⟨x2, ?_⟩, hstt'.1.at fun o q => (sb.2 iw (Ne.symm hne)).trans q, hne, hai, hea⟩, fun b hb => ?_⟩
    · have e1 : ((i + 1 : Nat) : Int) = (i : Int) + 1 := by omega
      rw [e1]; exact he'
    · have hb' : b < s.heap.objs.size := by
        have e' : b = en ∨ b = iw := by simpa using hb
        rcases e' with z | z <;> rw [z] <;> assumption
      rw [upd_ne (Nat.ne_of_lt hb')]
      exact (hff b hb).1
  done := by
    intro X hP hw hK hc i pins s σ H E Iv hff stt hg
    subst hP hw hK
    obtain ⟨⟨old, hen⟩, hit, hne, hai, hea⟩ := stt
    obtain ⟨xs, hq, hx⟩ := hg
    obtain ⟨its, rv, pt, hz⟩ := Iv.tuple hq
    obtain ⟨f0, f1, f2, f3, f4, f5⟩ := hff iw (by simp)
    have hlen := rv.length
    have hT0 : s.heap.IsTuple a its.toArray := pt
    exact enumT_end (Iv.ok.hd hc) hen hit hT0 (by simp; omega) fun h' eb => ⟨rfl, Iv.turned (t' := s.toks) (fun b o hb q => eb b o hb q) f0 f1 f3 f4 f5⟩
  self := fun A i s Q E stt h => let ⟨⟨_, hen⟩, _⟩ := stt; wpAny_pyIter_enum hen h
def iEnumT (K : PySem.W.Frag) (ta : TA) : TI := fun σ H R => ta σ H fun vs H1 => ∃ a xs, vs = [.ref a] ∧ SqT K H1 a xs ∧ R (IteT K a) H1
theorem pi_enumT {X : Cx} {e : Expr} {ta : TA} {p pos tpos : Pos} {elts : List Expr} {kk : Nat} (hg : Gl X "enumerate") (hm : X.mg "enumerate" = none) (ha : PA X [e] ta) (hs : starEach [e] X.env = [(false, eval e X.env)] := by rfl) :
    PI X (.Tuple elts kk tpos) (.Call (.Name "enumerate" p) [e] [] pos) (iEnumT X.K ta) := by
  refine ⟨fun pins s σ H R Iv h => ?_⟩
  refine Call_ (ld_blt Iv hg hm boot_enumerate (PyProof.Rows.callWith_type1 (thn (ha.run pos pins s σ H _ Iv h) fun us s1 ⟨vs, H1, Iv1, r1, q1⟩ => ?_) hs rfl))
  obtain ⟨a, xs, ex, hq, qq⟩ := q1
  subst ex
  cases r1 with
  | cons r rr =>
    cases rr
    cases r
    obtain ⟨its, rv, pt, hz⟩ := Iv1.tuple hq
    have hT0 : s1.heap.IsTuple a its.toArray := pt
    have hal : a < s1.heap.objs.size := by obtain ⟨o, ho, _⟩ := hT0; exact Heap.lt_size ho
    refine call_enumT hT0 fun h' hen hit hsz hkp => wpAny_pyIter_enum hen ?_
    have Iv2 : Inv X pins σ H1 { s1 with heap := h' } := Iv1.kept (t' := s1.toks) hkp
    refine ⟨s1.heap.objs.size + 1, [s1.heap.objs.size + 1, s1.heap.objs.size], _, _, H1, rfl, Iv2, turn_enumT a (s1.heap.objs.size + 1) s1.heap.objs.size, ⟨⟨.none, hen⟩, hit, Nat.succ_ne_self _, Nat.ne_of_lt hal, Nat.ne_of_gt (Nat.lt_succ_of_lt hal)⟩, fun b hb => ?_, qq⟩
    have hle2 : s1.heap.objs.size ≤ b := by
      have z : b = s1.heap.objs.size + 1 ∨ b = s1.heap.objs.size := by simpa using hb
      rcases z with z | z
      · rw [z]; exact Nat.le_succ _
      · rw [z]; exact Nat.le_refl _
    exact Iv1.fpOk hle2 (Iv1.hok.fresh hle2)
section
variable {α : Type} {e : Rep α} {K : PySem.W.Frag} {F H : Hp} {v : V} {xs : List α}
theorem src_enumT {R : It → Hp → Prop} (r : (pTL e).r F v xs) (f : Ex F H) (k : ∀ a, TWk (IteT K a) F (pT2 pN e) (enumT xs) → R (IteT K a) H) : ∃ a ws, [v] = [V.ref a] ∧ SqT K H a ws ∧ R (IteT K a) H := by
  obtain ⟨p, vs, rfl, hp, a⟩ := r
  refine ⟨p, vs, rfl, SqT.of (f _ _ hp), k p ?_⟩
  refine TWk.pairs (G := fun H => SqT K H p vs) (X := fun i => some (.int (i : Nat))) (Y := fun i => vs[i]?) ?_ (fun F' H' h1 h2 => SqT.of (h2 _ _ (h1 _ _ hp))) ?_ ?_
  · rw [enumT_len, ← a.len]
    refine ⟨fun i _ hi q => ⟨vs, vs[i], q, by simp [hi]⟩, fun _ q => ⟨vs, q, Nat.le_refl _⟩, fun i H v H' _ q y => ?_⟩
    obtain ⟨T, x, h1, h2, h3, h4⟩ := y
    exact ⟨T, .int (i : Nat), x, h1, h2, h3, rfl, h4 vs q⟩
  · intro i F' x _ hi hx
    rw [enumT_len] at hi
    rw [enumT_get, List.getElem?_eq_getElem hi]
    exact ⟨i, rfl, (Option.some.inj hx).symm⟩
  · intro i F' x h1 hi hx
    obtain ⟨z, hz, rz⟩ := a.got hx
    rw [enumT_get, hz]
    exact ⟨z, rfl, e.mono h1 rz⟩
/-- tuple(a list) -/
def rTupOf (K : PySem.W.Frag) : List V → Hp → VK → Prop := fun xs H Q => ∃ p ys, xs = [.ref p] ∧ ((SqL K H p ys ∧ ∀ l, H l = none → Q (.ref l) (upd H l (.tup ys))) ∨ (SqT K H p ys ∧ Q (.ref p) H))
theorem n_tupOf {F0 H0 : Hp} {Q : VK} (r : (pL e).r F v xs) (w : Wf F0 H0 F H) (k : ∀ p F' H', Wf F H F' H' → (pTL e).r F' (.ref p) xs → Q (.ref p) H') : rTupOf K [v] H Q := by
  obtain ⟨p, vs, rfl, hp, a⟩ := r
  exact ⟨p, vs, rfl, .inl ⟨SqL.of (w.f _ _ hp), fun l hl => k l _ _ (Wf.new w.f hl) ⟨l, vs, rfl, upd_same, a.mono (Ex.new (w.f.non hl))⟩⟩⟩
end
end Wk
namespace Wk
open PySem PySem.Spec PyProof.Rows L2
/-- a list or a tuple of things of one kind -/
def pSq {α : Type} (e : Rep α) : Rep (List α) := ⟨fun F v xs => ∃ p vs, v = .ref p ∧ (F p = some (.lst vs) ∨ F p = some (.tup vs)) ∧ All e F vs xs, fun h ⟨p, vs, a, b, c⟩ => ⟨p, vs, a, b.imp (h _ _) (h _ _), c.mono h⟩⟩
def iEnumA (K : PySem.W.Frag) (ta : TA) : TI := fun σ H R => ta σ H fun vs H1 => ∃ a xs, vs = [.ref a] ∧ ((SqL K H1 a xs ∧ R (Ite K a) H1) ∨ (SqT K H1 a xs ∧ R (IteT K a) H1))
theorem pi_enumA {X : Cx} {e : Expr} {ta : TA} {p pos tpos : Pos} {elts : List Expr} {kk : Nat} (hg : Gl X "enumerate") (hm : X.mg "enumerate" = none) (ha : PA X [e] ta) (hs : starEach [e] X.env = [(false, eval e X.env)] := by rfl) :
    PI X (.Tuple elts kk tpos) (.Call (.Name "enumerate" p) [e] [] pos) (iEnumA X.K ta) := by
  refine ⟨fun pins s σ H R Iv h => ?_⟩
  refine Call_ (ld_blt Iv hg hm boot_enumerate (PyProof.Rows.callWith_type1 (thn (ha.run pos pins s σ H _ Iv h) fun us s1 ⟨vs, H1, Iv1, r1, q1⟩ => ?_) hs rfl))
  obtain ⟨a, xs, ex, qq⟩ := q1
  subst ex
  cases r1 with
  | cons r rr =>
    cases rr
    cases r
    have hle3 : ∀ b ∈ [s1.heap.objs.size + 1, s1.heap.objs.size], FpOk X pins H1 b := fun b hb => by
      have hle2 : s1.heap.objs.size ≤ b := by
        have z : b = s1.heap.objs.size + 1 ∨ b = s1.heap.objs.size := by simpa using hb
        rcases z with z | z
        · rw [z]; exact Nat.le_succ _
        · rw [z]; exact Nat.le_refl _
      exact Iv1.fpOk hle2 (Iv1.hok.fresh hle2)
    rcases qq with ⟨hq, qq⟩ | ⟨hq, qq⟩
    · obtain ⟨its, rv, pt, hz⟩ := Iv1.list hq
      refine call_enumerate_list pt.isList fun h' hen hit hsz hkp => wpAny_pyIter_enum hen ?_
      have Iv2 : Inv X pins σ H1 { s1 with heap := h' } := Iv1.kept (t' := s1.toks) hkp
      exact ⟨s1.heap.objs.size + 1, [s1.heap.objs.size + 1, s1.heap.objs.size], _, _, H1, rfl, Iv2, turn_enum a (s1.heap.objs.size + 1) s1.heap.objs.size, ⟨⟨.none, hen⟩, hit, Nat.succ_ne_self _⟩, hle3, qq⟩
    · obtain ⟨its, rv, pt, hz⟩ := Iv1.tuple hq
      have hT0 : s1.heap.IsTuple a its.toArray := pt
      have hal : a < s1.heap.objs.size := by obtain ⟨o, ho, _⟩ := hT0; exact Heap.lt_size ho
      refine call_enumT hT0 fun h' hen hit hsz hkp => wpAny_pyIter_enum hen ?_
      have Iv2 : Inv X pins σ H1 { s1 with heap := h' } := Iv1.kept (t' := s1.toks) hkp
      exact ⟨s1.heap.objs.size + 1, [s1.heap.objs.size + 1, s1.heap.objs.size], _, _, H1, rfl, Iv2, turn_enumT a (s1.heap.objs.size + 1) s1.heap.objs.size, ⟨⟨.none, hen⟩, hit, Nat.succ_ne_self _, Nat.ne_of_lt hal, Nat.ne_of_gt (Nat.lt_succ_of_lt hal)⟩, hle3, qq⟩
section
variable {α : Type} {e : Rep α} {K : PySem.W.Frag} {F H : Hp} {v : V} {xs : List α}
theorem sq_L (r : (pL e).r F v xs) : (pSq e).r F v xs := let ⟨p, vs, a, b, c⟩ := r; ⟨p, vs, a, .inl b, c⟩
theorem sq_TL (r : (pTL e).r F v xs) : (pSq e).r F v xs := let ⟨p, vs, a, b, c⟩ := r; ⟨p, vs, a, .inr b, c⟩
theorem src_enumA {R : It → Hp → Prop} (r : (pSq e).r F v xs) (f : Ex F H) (k : ∀ J, TWk J F (pT2 pN e) (enumT xs) → R J H) : ∃ a ws, [v] = [V.ref a] ∧ ((SqL K H a ws ∧ R (Ite K a) H) ∨ (SqT K H a ws ∧ R (IteT K a) H)) := by
  obtain ⟨p, vs, rfl, hp, a⟩ := r
  rcases hp with hp | hp
  · obtain ⟨q, ws, e1, e2, e3⟩ := src_enum (K := K) (R := R) ⟨p, vs, rfl, hp, a⟩ f fun b T => k _ T
    exact ⟨q, ws, e1, .inl ⟨e2, e3⟩⟩
  · obtain ⟨q, ws, e1, e2, e3⟩ := src_enumT (K := K) (R := R) ⟨p, vs, rfl, hp, a⟩ f fun b T => k _ T
    exact ⟨q, ws, e1, .inr ⟨e2, e3⟩⟩
end
end Wk
namespace Wk
open PySem L2
/-- xs[i] = v -/
theorem a_lset {α : Type} {e : Rep α} {σ : L2.St} {F0 H0 F H : Hp} {p : Addr} {xs : List α} {y : α} {i : Nat} {v : V} {to ti : TE} {Q : L2.St → Hp → Prop} (x : XL e H0 F H p xs) (w : Wf F0 H0 F H) (hi : i < xs.length) (r : e.r F v y) (ho : Val to σ H (.ref p)) (hx : Val ti σ H (.int (i : Int)))
    (k : ∀ H', Wf F0 H0 F H' → XL e H0 F H' p (xs.set i y) → (∀ q o, H q = some o → q ≠ p → H' q = some o) → Q σ H') : gSub to ti rSetL v σ H Q := by
  obtain ⟨vs, a, b⟩ := x.x
  refine ho _ (hx _ ⟨p, vs, _, i, rfl, rfl, a.h, ?_, k _ (w.set a) ⟨_, a.set, b.set i r⟩ fun q o h hq => by rw [upd_ne hq]; exact h⟩)
  unfold ixN
  rw [if_pos (by omega), if_pos (by rw [b.len]; omega)]; rfl
theorem rcb1' {r : List V → Hp → VK → Prop} {x z : V} {H : Hp} {Q : VK} (h : Val (tCB r (tCons (tC x) tNil)) [] H z) (q : Q z H) : r [x] H Q := h Q q
end Wk
namespace Wk
open PySem L2
theorem kCpR_int {g : TG} {tc : TT} {te : TE} {vs : List Nat} {σ : L2.St} {Q : VK} {H : Hp} {j : Int} (h1 : -1000000 < j) (h : kCpR g tc te vs σ Q (.int ((j.toNat : Nat) : Int)) H) : kCpR g tc te vs σ Q (.int j) H := by
  obtain ⟨j', e, a, b, c⟩ := h
  have e' : ((j.toNat : Nat) : Int) = j' := V.int.inj (List.cons.inj e).1
  refine ⟨j, rfl, by omega, by omega, ?_⟩
  have : j'.toNat = j.toNat := by omega
  rw [← this]; exact c
end Wk
/-! Rc: rows of bits that go on by a rule. -/
namespace Wk
def dot (c : Nat) (f : Nat → Bool) : Nat → Bool
  | 0 => false
  | m + 1 => xor (dot c f m) (c.testBit m && f m)
theorem dot_congr {c : Nat} {f g : Nat → Bool} : ∀ {m : Nat}, (∀ j, j < m → f j = g j) → dot c f m = dot c g m
  | 0, _ => rfl
  | m + 1, h => by
    show xor (dot c f m) (c.testBit m && f m) = xor (dot c g m) (c.testBit m && g m)
    rw [dot_congr (m := m) fun j hj => h j (by omega), h m (by omega)]
theorem dot_false {c : Nat} : ∀ m : Nat, dot c (fun _ => false) m = false
  | 0 => rfl
  | m + 1 => by show xor (dot c _ m) (c.testBit m && false) = false; rw [dot_false m]; simp
theorem dot_xor {c : Nat} {f g : Nat → Bool} : ∀ m : Nat, dot c (fun i => xor (f i) (g i)) m = xor (dot c f m) (dot c g m)
  | 0 => rfl
  | m + 1 => by
    show xor (dot c _ m) (c.testBit m && xor (f m) (g m)) = xor (xor (dot c f m) (c.testBit m && f m)) (xor (dot c g m) (c.testBit m && g m))
    rw [dot_xor m]
    cases dot c f m <;> cases dot c g m <;> cases c.testBit m <;> cases f m <;> cases g m <;> rfl
theorem dot_and {c : Nat} {f : Nat → Bool} (b : Bool) : ∀ m : Nat, dot c (fun i => b && f i) m = (b && dot c f m)
  | 0 => by cases b <;> rfl
  | m + 1 => by
    show xor (dot c _ m) (c.testBit m && (b && f m)) = (b && xor (dot c f m) (c.testBit m && f m))
    rw [dot_and b m]
    cases b <;> cases dot c f m <;> cases c.testBit m <;> cases f m <;> rfl
theorem dot_swap {c d : Nat} {F : Nat → Nat → Bool} (p : Nat) : ∀ q : Nat, dot d (fun j => dot c (fun i => F j i) p) q = dot c (fun i => dot d (fun j => F j i) q) p
  | 0 => (dot_false p).symm
  | q + 1 => by
    show xor (dot d _ q) (d.testBit q && dot c (fun i => F q i) p) = dot c (fun i => xor (dot d (fun j => F j i) q) (d.testBit q && F q i)) p
    rw [dot_swap p q, dot_xor, dot_and]
/-- a rule that holds for ever, and one that holds long enough -/
theorem goes_on {a : Nat → Bool} {c d m0 m L : Nat} (h0 : ∀ t, a (t + m0) = dot c (fun i => a (t + i)) m0) (h : ∀ t, t < L → a (t + m) = dot d (fun j => a (t + j)) m) (hL : m0 ≤ L) : ∀ t, a (t + m) = dot d (fun j => a (t + j)) m := by
  intro t
  have e : xor (a (t + m)) (dot d (fun j => a (t + j)) m) = false := by
    induction t using Nat.strongRecOn with
    | ind t ih =>
      by_cases c1 : t < L
      · rw [h t c1]; simp
      · obtain ⟨u, rfl⟩ : ∃ u, t = u + m0 := ⟨t - m0, by omega⟩
        have e1 : a (u + m0 + m) = dot c (fun i => a (u + i + m)) m0 := by
          rw [show u + m0 + m = (u + m) + m0 by omega, h0]
          exact dot_congr fun i _ => by rw [show u + m + i = u + i + m by omega]
        have e2 : dot d (fun j => a (u + m0 + j)) m = dot c (fun i => dot d (fun j => a (u + i + j)) m) m0 := by
          rw [← dot_swap]
          refine dot_congr fun j _ => ?_
          rw [show u + m0 + j = (u + j) + m0 by omega, h0]
          exact dot_congr fun i _ => by rw [show u + j + i = u + i + j by omega]
        rw [e1, e2, ← dot_xor]
        by_cases z : m0 = 0
        · subst z; rfl
        · rw [← dot_false (c := c) m0]
          exact dot_congr fun i hi => ih (u + i) (by omega)
  revert e
  cases a (t + m) <;> cases dot d (fun j => a (t + j)) m <;> simp
theorem dot_and_l {c : Nat} {f : Nat → Bool} : ∀ {m : Nat}, (∀ j, m ≤ j → f j = false) → ∀ k, dot c f (m + k) = dot c f m
  | m, h, 0 => rfl
  | m, h, k + 1 => by
    show xor (dot c f (m + k)) (c.testBit (m + k) && f (m + k)) = _
    rw [h (m + k) (by omega), dot_and_l h k]; simp
/-- parity as a sum -/
theorem par_dot {s : Nat} : ∀ {m c : Nat}, c < 2 ^ m → par (c &&& s) = dot c s.testBit m
  | 0, c, h => by
    have : c = 0 := by simpa using h
    subst this; rw [Nat.zero_and, par_zero]; rfl
  | m + 1, c, h => by
    have hl : c % 2 ^ m < 2 ^ m := Nat.mod_lt _ (Nat.two_pow_pos m)
    have e : c = (c % 2 ^ m) ^^^ (if c.testBit m = true then 2 ^ m else 0) := Nat.eq_of_testBit_eq fun i => by
      rw [Nat.testBit_xor, Nat.testBit_mod_two_pow]
      by_cases q : c.testBit m = true
      · rw [if_pos q, Nat.testBit_two_pow]
        by_cases o : i = m
        · subst o; rw [q]; simp
        · by_cases o2 : i < m
          · rw [decide_eq_true o2, decide_eq_false (fun z => o z.symm)]; simp
          · rw [decide_eq_false o2, decide_eq_false (fun z => o z.symm), testBit_big h (by omega)]; rfl
      · rw [if_neg q, Nat.zero_testBit]
        by_cases o2 : i < m
        · rw [decide_eq_true o2]; simp
        · rw [decide_eq_false o2]
          by_cases o : i = m
          · subst o; simpa using q
          · rw [testBit_big h (by omega)]; rfl
    have ih := par_dot (s := s) hl
    have e3 : par (c &&& s) = xor (par ((c % 2 ^ m) &&& s)) (c.testBit m && s.testBit m) := by
      conv => lhs; rw [e]
      have ax : ∀ a b c : Nat, (a ^^^ b) &&& c = (a &&& c) ^^^ (b &&& c) := fun a b c => Nat.eq_of_testBit_eq fun i => by
        rw [Nat.testBit_and, Nat.testBit_xor, Nat.testBit_xor, Nat.testBit_and, Nat.testBit_and]
        cases a.testBit i <;> cases b.testBit i <;> cases c.testBit i <;> rfl
      rw [ax, par_xor]
      congr 1
      by_cases q : c.testBit m = true
      · rw [if_pos q, q]
        by_cases r : s.testBit m = true
        · have : 2 ^ m &&& s = 2 ^ m := Nat.eq_of_testBit_eq fun i => by
            rw [Nat.testBit_and, Nat.testBit_two_pow]
            by_cases o : m = i
            · subst o; rw [r]; simp
            · rw [decide_eq_false o]; rfl
          rw [this, par_two_pow, r]; rfl
        · have : 2 ^ m &&& s = 0 := Nat.eq_of_testBit_eq fun i => by
            rw [Nat.testBit_and, Nat.testBit_two_pow, Nat.zero_testBit]
            by_cases o : m = i
            · subst o; rw [decide_eq_true rfl]; simpa using r
            · rw [decide_eq_false o]; rfl
          rw [this, par_zero]; simpa using r
      · rw [if_neg q, Nat.zero_and, par_zero]
        have : c.testBit m = false := by simpa using q
        rw [this]; rfl
    rw [e3, ih]
    show xor (dot (c % 2 ^ m) s.testBit m) _ = xor (dot c s.testBit m) _
    congr 1
    have go : ∀ k, k ≤ m → dot (c % 2 ^ m) s.testBit k = dot c s.testBit k := by
      intro k
      induction k with
      | zero => exact fun _ => rfl
      | succ k ih2 =>
        intro hk
        show xor (dot _ _ k) ((c % 2 ^ m).testBit k && s.testBit k) = xor (dot _ _ k) (c.testBit k && s.testBit k)
        rw [ih2 (by omega), Nat.testBit_mod_two_pow, decide_eq_true (by omega), Bool.true_and]
    exact go m (Nat.le_refl _)
/-- of n + 1 masks below 2 ** n one is a sum of those ahead -/
theorem some_sum {n : Nat} {vs : List Nat} (hl : vs.length = n + 1) (hv : ∀ v ∈ vs, v < 2 ^ n) : ∃ j, j ≤ n ∧ Span (vs.take j) (vs.getD j 0) := by
  refine Classical.byContradiction fun hno => ?_
  have inj : ∀ S, S < 2 ^ (n + 1) → comb vs S = 0 → S = 0 := by
    intro S hS h0
    refine Classical.byContradiction fun z => ?_
    have hp := bits_pos z
    generalize hk : bits S - 1 = k at *
    have kb : S.testBit k = true := by rw [← hk]; exact bits_bit z
    have kn : k ≤ n := by have := bits_le.mpr hS; omega
    refine hno ⟨k, kn, S, ?_⟩
    have e1 : comb vs S = comb (vs.take (k + 1)) S := by
      have : ∀ (vs : List Nat) (k S : Nat), bits S ≤ k → comb vs S = comb (vs.take k) S := by
        intro vs
        induction vs with
        | nil => intro k S _; rw [List.take_nil]
        | cons v vs ih =>
          intro k S hb
          cases k with
          | zero =>
            have : S = 0 := bits_eq_zero.mp (by omega)
            subst this; rw [comb_zero]; rfl
          | succ k =>
            show (if S.testBit 0 = true then v else 0) ^^^ comb vs (S / 2) = (if S.testBit 0 = true then v else 0) ^^^ comb (vs.take k) (S / 2)
            rw [ih k (S / 2) (bits_le.mpr (by have := bits_le.mp hb; rw [Nat.pow_succ] at this; omega))]
      exact this vs (k + 1) S (by omega)
    have lt : k < vs.length := by omega
    have e2 : vs.take (k + 1) = vs.take k ++ [vs[k]] := List.take_succ_eq_append_getElem lt
    rw [e1, e2, comb_snoc, show (vs.take k).length = k by rw [List.length_take]; omega, if_pos kb] at h0
    rw [List.getD_eq_getElem?_getD, List.getElem?_eq_getElem lt]
    exact xor0 h0
  have nd : ((List.range (2 ^ (n + 1))).map (comb vs)).Nodup := by
    refine List.pairwise_map.mpr (List.Pairwise.imp_of_mem (fun {a b} ha hb hne e => hne ?_) List.nodup_range)
    have ha' := List.mem_range.mp ha
    have hb' := List.mem_range.mp hb
    exact xor0 (inj _ (Nat.xor_lt_two_pow ha' hb') (by rw [comb_xor, e, Nat.xor_self]))
  have := nodup_len (k := 2 ^ n) nd fun x hx => by
    obtain ⟨S, _, rfl⟩ := List.mem_map.mp hx
    exact comb_lt hv
  rw [List.length_map, List.length_range, Nat.pow_succ] at this
  have := Nat.two_pow_pos n
  omega
/-- parity of a sum of masks -/
theorem par_comb {s : Nat} : ∀ (vs : List Nat) (S : Nat), par (comb vs S &&& s) = dot S (fun j => par (vs.getD j 0 &&& s)) vs.length := by
  intro vs
  suffices h : ∀ k, k ≤ vs.length → ∀ S, par (comb (vs.take k) S &&& s) = dot S (fun j => par (vs.getD j 0 &&& s)) k by
    intro S
    have := h vs.length (Nat.le_refl _) S
    rwa [List.take_length] at this
  intro k
  induction k with
  | zero => intro _ S; show par (0 &&& s) = false; rw [Nat.zero_and, par_zero]
  | succ k ih =>
    intro hk S
    have e2 : vs.take (k + 1) = vs.take k ++ [vs[k]'(by omega)] := List.take_succ_eq_append_getElem (by omega)
    have el : (vs.take k).length = k := by rw [List.length_take]; omega
    have eg : vs.getD k 0 = vs[k]'(by omega) := by rw [List.getD_eq_getElem?_getD, List.getElem?_eq_getElem (by omega)]; rfl
    have ax : ∀ a b c : Nat, (a ^^^ b) &&& c = (a &&& c) ^^^ (b &&& c) := fun a b c => Nat.eq_of_testBit_eq fun i => by
      rw [Nat.testBit_and, Nat.testBit_xor, Nat.testBit_xor, Nat.testBit_and, Nat.testBit_and]
      cases a.testBit i <;> cases b.testBit i <;> cases c.testBit i <;> rfl
    rw [e2, comb_snoc, el, ax, par_xor, ih (by omega)]
    show _ = xor (dot S _ k) (S.testBit k && par (vs.getD k 0 &&& s))
    congr 1
    rw [eg]
    by_cases q : S.testBit k = true
    · rw [if_pos q, q]; simp
    · rw [if_neg q, Nat.zero_and, par_zero]
      have : S.testBit k = false := by simpa using q
      rw [this]; rfl
end Wk
/-! LZip: list(zip(a, b)) of two lists. -/
namespace Wk.LZ
open PySem PyProof.Rows L2
theorem zip_no_len : typeLookup (.type "zip") "__len__" = pure none := am_miss_of_fast (by decide +kernel)
theorem zip_no_hint : typeLookup (.type "zip") "__length_hint__" = pure none := am_miss_of_fast (by decide +kernel)
/-- the zip's own things at turn i; S: a list that is none of them -/
structure ZS (h : Heap) (z TI TO i1 i2 l1 l2 S : Addr) (i : Nat) (xs ys : Array Value) : Prop where
  ti : IsPair h TI (.ref i1) (.ref i2)
  to : ∃ x y, IsPair h TO x y
  h1 : h.IsListIter i1 l1 i
  h2 : h.IsListIter i2 l2 i
  a1 : h.IsList l1 xs
  a2 : h.IsList l2 ys
  zz : IsZip h z TI TO .none ∨ ∃ T f oT, IsZipHeld h z TI TO T f ∧ h.get? T = some oT ∧ T ≠ S ∧ T ≠ z ∧ T ≠ i1 ∧ T ≠ i2
section
variable {prog : Program} {w : World} {A : Around} {E : Value → Shared → Prop} {s : Shared} {z TI TO i1 i2 l1 l2 S : Addr} {i : Nat} {xs ys : Array Value}
theorem ZS.ty (h : ZS s.heap z TI TO i1 i2 l1 l2 S i xs ys) : s.TypeIs (.ref z) "zip" := by
  rcases h.zz with q | ⟨T, f, oT, q, _⟩
  · exact ⟨_, q, rfl⟩
  · exact ⟨_, q, rfl⟩
theorem ZS.frame {h h' : Heap} (q : ZS h z TI TO i1 i2 l1 l2 S i xs ys) (n : ∀ b ∈ [z, TI, TO, i1, i2, l1, l2], b ≠ S) (k : ∀ b o, b ≠ S → h.get? b = some o → h'.get? b = some o) : ZS h' z TI TO i1 i2 l1 l2 S i xs ys := by
  refine ⟨k _ _ (n _ (by simp)) q.ti, ?_, q.h1.at fun o e => k _ o (n _ (by simp)) e, q.h2.at fun o e => k _ o (n _ (by simp)) e, q.a1.at fun o e => k _ o (n _ (by simp)) e, q.a2.at fun o e => k _ o (n _ (by simp)) e, ?_⟩
  · obtain ⟨x, y, e⟩ := q.to; exact ⟨x, y, k _ _ (n _ (by simp)) e⟩
  · rcases q.zz with e | ⟨T, f, oT, e1, e2, e3⟩
    · exact .inl (k _ _ (n _ (by simp)) e)
    · exact .inr ⟨T, f, oT, k _ _ (n _ (by simp)) e1, k _ _ e3.1 e2, e3⟩
theorem next_item {Q : Option Value → Shared → Prop} {x y : Value} (D : ZipApart z TI TO i1 i2 l1 l2) (q : ZS s.heap z TI TO i1 i2 l1 l2 S i xs ys) (hS : S < s.heap.objs.size) (hx : xs[i]? = some x) (hy : ys[i]? = some y)
    (hQ : ∀ h', ZS h' z TI TO i1 i2 l1 l2 S (i + 1) xs ys → IsPair h' s.heap.objs.size x y → h'.objs.size = s.heap.objs.size + 1 →
      (∀ c o, c ≠ z → c ≠ TO → c ≠ i1 → c ≠ i2 → s.heap.get? c = some o → h'.get? c = some o) → Q (some (.ref s.heap.objs.size)) { s with heap := h' }) :
    wpAny (model prog w) A (pyNext (.ref z)) Q E s := by
  obtain ⟨ti, ⟨x0, y0, to⟩, h1, h2, a1, a2, zz⟩ := q
  rcases zz with e | ⟨T, f, oT, e1, e2, e3⟩
  · refine wpAny_pyNext_zip_item D e ti to h1 h2 a1 a2 hx hy fun h' z' TO' h1' h2' hT hsz hk => ?_
    exact hQ h' ⟨hk _ _ D.TIz D.TITO D.TIi1 D.TIi2 ti, ⟨_, _, TO'⟩, h1', h2', a1.at fun o e => hk _ o D.l1z D.l1TO D.l1i1 D.l1i2 e, a2.at fun o e => hk _ o D.l2z D.l2TO D.l2i1 D.l2i2 e, .inr ⟨_, false, _, z', hT, Nat.ne_of_gt hS, Nat.ne_of_gt (Heap.lt_size e), (by obtain ⟨_, q, _⟩ := h1; exact Nat.ne_of_gt (Heap.lt_size q)), (by obtain ⟨_, q, _⟩ := h2; exact Nat.ne_of_gt (Heap.lt_size q))⟩⟩ hT hsz hk
  · refine wpAny_pyNext_zip_item_held D e1 e2 ti h1 h2 a1 a2 hx hy fun h' z' h1' h2' hT hsz hk => ?_
    exact hQ h' ⟨hk _ _ D.TIz D.TIi1 D.TIi2 ti, ⟨_, _, hk _ _ D.TOz D.TOi1 D.TOi2 to⟩, h1', h2', a1.at fun o e => hk _ o D.l1z D.l1i1 D.l1i2 e, a2.at fun o e => hk _ o D.l2z D.l2i1 D.l2i2 e, .inr ⟨T, true, oT, z', hk _ _ e3.2.1 e3.2.2.1 e3.2.2.2 e2, e3⟩⟩ hT hsz fun c o c1 _ c3 c4 e => hk c o c1 c3 c4 e
theorem next_end {Q : Option Value → Shared → Prop} (hh : A.handled = none) (D : ZipApart z TI TO i1 i2 l1 l2) (q : ZS s.heap z TI TO i1 i2 l1 l2 S i xs ys) (he : xs[i]? = none ∨ ys[i]? = none)
    (hQ : ∀ h', (∀ c o, c ≠ z → c ≠ TO → c ≠ i1 → c ≠ i2 → s.heap.get? c = some o → h'.get? c = some o) → Q none { s with heap := h' }) : wpAny (model prog w) A (pyNext (.ref z)) Q E s := by
  obtain ⟨ti, ⟨x0, y0, to⟩, h1, h2, a1, a2, zz⟩ := q
  rcases zz with e | ⟨T, f, oT, e1, e2, e3⟩
  · exact wpAny_pyNext_zip_end hh D e ti to h1 h2 a1 a2 he fun h' hk => hQ h' fun c o c1 c2 c3 c4 e => hk c o c1 c2 c3 c4 e
  · exact wpAny_pyNext_zip_end_held hh D e1 e2 ti h1 h2 a1 a2 he fun h' hk => hQ h' fun c o c1 _ c3 c4 e => hk c o c1 c3 c4 e
end
/-- one tuple after the other is made -/
def NewT : Hp → List (V × V) → List V → Hp → Prop
  | H, [], ts, H' => ts = [] ∧ H' = H
  | H, (x, y) :: r, ts, H' => ∃ T ts', ts = .ref T :: ts' ∧ H T = none ∧ NewT (upd H T (.tup [x, y])) r ts' H'
theorem lst_get {S : Addr} {h : Heap} {acc : Array Value} {c : Nat} {f : Array Value → Array Value} (e : h.get? S = some { cls := .type "list", dict := none, data := .seq acc c, slots := #[] }) : ∃ c', (h.update S (Obj.mapSeq f)).get? S = some { cls := .type "list", dict := none, data := .seq (f acc) c', slots := #[] } :=
  ⟨_, Heap.get?_update_self (Obj.mapSeq f) e rfl⟩
section
variable {X : Cx} {pins : List (Addr × Obj)} {σ : L2.St} {z TI TO i1 i2 l1 l2 S : Addr} {vx vy : List V} {ix iy : List Value}
theorem loop {R : Result → Shared → Prop} {A : Around} (hh : A.handled = none) (D : ZipApart z TI TO i1 i2 l1 l2) (hS : ∀ b ∈ [z, TI, TO, i1, i2, l1, l2], b ≠ S) (rx : Vals vx ix) (ry : Vals vy iy) (hx : vx.length ≤ sizeLine) (res : Value) :
    ∀ (rest : List (V × V)) (i : Nat) (s : Shared) (H : Hp) (acc : Array Value) (c : Nat) (outs : List V), (vx.zip vy).drop i = rest → i ≤ (vx.zip vy).length → Inv X pins σ H s → (∀ b ∈ [S, z, TO, i1, i2], FpOk X pins H b) → ZS s.heap z TI TO i1 i2 l1 l2 S i ix.toArray iy.toArray →
    s.heap.get? S = some { cls := .type "list", dict := none, data := .seq acc c, slots := #[] } → Vals outs acc.toList → outs.length = i →
    (∀ s' H' acc' c' ts, Inv X pins σ H' s' → (∀ b ∈ [S, z, TO, i1, i2], FpOk X pins H' b) → s'.heap.get? S = some { cls := .type "list", dict := none, data := .seq acc' c', slots := #[] } → NewT H rest ts H' → Vals (outs ++ ts) acc'.toList → R (.ok (.ret res)) s') →
    codeAny (model X.prog X.w) A (.builtin "list.extend.loop" ⟨[.ref S, .ref z, res], []⟩) R s := by
  intro rest
  induction rest with
  | nil =>
    intro i s H acc c outs hd hi I hf q hL r hl hR
    have hin : (vx.zip vy).length ≤ i := List.drop_eq_nil_iff.mp hd
    rw [List.length_zip] at hin
    have he : ix.toArray[i]? = none ∨ iy.toArray[i]? = none := by
      have l1 := rx.length
      have l2 := ry.length
      rcases Nat.le_total vx.length vy.length with h | h
      · rw [Nat.min_eq_left h] at hin; exact .inl (by simp; omega)
      · rw [Nat.min_eq_right h] at hin; exact .inr (by simp; omega)
    refine codeAny_builtin F.entry_extend_loop ?_
    rw [Around.under_plainId F.plain_extend_loop _]
    show wpAny _ A.in1 (pyNext (.ref z) >>= _) _ _ s
    refine wpAny_bind (next_end hh D q he fun h' hk => ?_)
    have I' : Inv X pins σ H { s with heap := h' } := I.turnedL (t' := s.toks) (ch := [S, z, TO, i1, i2]) (fun b o hb e => hk b o (fun q => hb (by simp [q])) (fun q => hb (by simp [q])) (fun q => hb (by simp [q])) (fun q => hb (by simp [q])) e) hf
    exact wpAny_pure (hR _ H acc c [] I' hf (hk S _ (hS _ (by simp)).symm (hS _ (by simp)).symm (hS _ (by simp)).symm (hS _ (by simp)).symm hL) ⟨rfl, rfl⟩ (by rw [List.append_nil]; exact r))
  | cons p rest ih =>
    obtain ⟨x, y⟩ := p
    intro i s H acc c outs hd hi I hf q hL r hl hR
    have hget : (vx.zip vy)[i]? = some (x, y) := by
      have e : ((vx.zip vy).drop i)[0]? = some (x, y) := by rw [hd]; rfl
      rw [List.getElem?_drop] at e; exact e
    have hlt : i < (vx.zip vy).length := (List.getElem?_eq_some_iff.mp hget).1
    obtain ⟨ex, ey⟩ := List.getElem?_zip_eq_some.mp hget
    obtain ⟨u, hu, ru⟩ := rx.get ex
    obtain ⟨u2, hu2, ru2⟩ := ry.get ey
    have hmin : (vx.zip vy).length ≤ vx.length := by rw [List.length_zip]; exact Nat.min_le_left _ _
    have hacc : acc.size = i := by rw [← Array.length_toList, ← r.length]; exact hl
    refine codeAny_builtin F.entry_extend_loop ?_
    rw [Around.under_plainId F.plain_extend_loop _]
    show wpAny _ A.in1 (pyNext (.ref z) >>= _) _ _ s
    have hSl : S < s.heap.objs.size := Heap.lt_size hL
    refine wpAny_bind (next_item D q hSl (x := u) (y := u2) (by simpa using hu) (by simpa using hu2) fun h' q' hT hsz hk => ?_)
    have new : ObjOk X.prog X.w (upd H s.heap.objs.size (.tup [x, y])) h' s.heap.objs.size (.tup [x, y]) :=
      ⟨by show 2 ≤ sizeLine; decide, [u, u2], .cons ru (.cons ru2 .nil), ⟨_, hT, rfl, _, rfl⟩⟩
    have hfr : H s.heap.objs.size = none := I.hok.fresh (Nat.le_refl _)
    have I1 : Inv X pins σ (upd H s.heap.objs.size (.tup [x, y])) { s with heap := h' } :=
      I.turnedNew (t' := s.toks) (ch := [S, z, TO, i1, i2]) (fun b o hb e => hk b o (fun q => hb (by simp [q])) (fun q => hb (by simp [q])) (fun q => hb (by simp [q])) (fun q => hb (by simp [q])) e) hf (Nat.le_refl _) new
    have hlts : ∀ b ∈ [S, z, TO, i1, i2], b < s.heap.objs.size := by
      intro b hb
      have e' : b = S ∨ b = z ∨ b = TO ∨ b = i1 ∨ b = i2 := by simpa using hb
      rcases e' with e | e | e | e | e
      · rw [e]; exact hSl
      · rw [e]; rcases q.zz with e1 | ⟨_, _, _, e1, _⟩
        · exact Heap.lt_size e1
        · exact Heap.lt_size e1
      · rw [e]; obtain ⟨_, _, e1⟩ := q.to; exact Heap.lt_size e1
      · rw [e]; obtain ⟨_, e1, _⟩ := q.h1; exact Heap.lt_size e1
      · rw [e]; obtain ⟨_, e1, _⟩ := q.h2; exact Heap.lt_size e1
    have hf1 : ∀ b ∈ [S, z, TO, i1, i2], FpOk X pins (upd H s.heap.objs.size (.tup [x, y])) b := fun b hb => by
      obtain ⟨n1, rest⟩ := hf b hb
      exact ⟨by rw [upd_ne (Nat.ne_of_lt (hlts b hb))]; exact n1, rest⟩
    have hL' := hk S _ (hS _ (by simp)).symm (hS _ (by simp)).symm (hS _ (by simp)).symm (hS _ (by simp)).symm hL
    show wpAny _ A.in1 (updateSeq S (·.push (.ref s.heap.objs.size)) >>= _) _ _ _
    refine wpAny_bind ?_
    refine wpAny_updateSeq hL' rfl (wpAny_pure ⟨plainId_quiet F.plain_extend_loop _, ?_⟩) (by rw [hacc]; omega) (by show (acc.push _).size ≤ sizeLine + 1; rw [Array.size_push, hacc]; omega)
    obtain ⟨c2, hL2⟩ := lst_get (f := (·.push (.ref s.heap.objs.size))) hL'
    have oth : ∀ b o, b ≠ S → h'.get? b = some o → (h'.update S (Obj.mapSeq (·.push (.ref s.heap.objs.size)))).get? b = some o := fun b o hb e => (Heap.get?_update_other _ _ (Ne.symm hb)).trans e
    have I2 : Inv X pins σ (upd H s.heap.objs.size (.tup [x, y])) { s with heap := h'.update S (Obj.mapSeq (·.push (.ref s.heap.objs.size))) } :=
      Inv.turnedL (s := { s with heap := h' }) I1 (t' := s.toks) (ch := [S]) (fun b o hb e => oth b o (fun q => hb (by simp [q])) e) (fun b hb => hf1 b (by rw [List.mem_singleton.mp hb]; simp))
    refine ih (i + 1) _ _ (acc.push (.ref s.heap.objs.size)) c2 (outs ++ [.ref s.heap.objs.size]) (by rw [← List.drop_drop, hd]; rfl) hlt I2 hf1 (q'.frame hS oth) hL2 (by rw [Array.toList_push]; exact r.append (.cons rfl .nil)) (by rw [List.length_append, hl]; rfl) fun s' H' acc' c' ts I' hf' hL' hn hv => ?_
    exact hR s' H' acc' c' (.ref s.heap.objs.size :: ts) I' hf' hL' ⟨_, _, rfl, hfr, hn⟩ (by rw [List.append_assoc] at hv; exact hv)
end
section
variable {X : Cx} {pins : List (Addr × Obj)} {σ : L2.St} {z TI TO i1 i2 l1 l2 : Addr} {vx vy : List V} {ix iy : List Value}
/-- extend by a zip -/
theorem extend_zip {R : Result → Shared → Prop} {A : Around} {s : Shared} {H : Hp} {S : Addr} {c₀ : Nat} (hh : A.handled = none) (D : ZipApart z TI TO i1 i2 l1 l2) (hS : ∀ b ∈ [z, TI, TO, i1, i2, l1, l2], b ≠ S) (rx : Vals vx ix) (ry : Vals vy iy) (hx : vx.length ≤ sizeLine) (res : Value)
    (I : Inv X pins σ H s) (hf : ∀ b ∈ [S, z, TO, i1, i2], FpOk X pins H b) (q : ZS s.heap z TI TO i1 i2 l1 l2 S 0 ix.toArray iy.toArray) (hL : s.heap.get? S = some { cls := .type "list", data := .seq #[] c₀ })
    (hR : ∀ s' H' acc' c' ts, Inv X pins σ H' s' → (∀ b ∈ [S, z, TO, i1, i2], FpOk X pins H' b) → s'.heap.get? S = some { cls := .type "list", dict := none, data := .seq acc' c', slots := #[] } → NewT H (vx.zip vy) ts H' → Vals ts acc'.toList → R (.ok (.ret res)) s') :
    wpAny (model X.prog X.w) A.in1 (Builtin.List.listExtendWith (.ref S) (.ref z) res)
      (fun fin s' => match fin with | .done f => R (.ok f) s' | .again c' => c'.quiet = true ∧ codeAny (model X.prog X.w) A c' R s') (fun e s' => R (.error e) s') s := by
  have hSz : S ≠ z := (hS z (by simp)).symm
  have h1 : Builtin.List.listSameRef (.ref S) (.ref z) = false := by simp [Builtin.List.listSameRef, hSz]
  have h2 : (Value.type "zip" == Value.type "list") = false := by decide
  have h3 : (Value.type "zip" == Value.type "tuple") = false := by decide
  unfold Builtin.List.listExtendWith
  refine wpAny_bind (wpAny_typeOf q.ty ?_)
  simp only [h1, h2, h3, Bool.or_false, Bool.false_eq_true, if_false]
  have hit : ∀ {Q : Value → Shared → Prop} {E : Value → Shared → Prop}, Q (.ref z) s → wpAny (model X.prog X.w) A.in1 (pyIter (.ref z)) Q E s := fun h => by
    rcases q.zz with e | ⟨T, f, oT, e, _⟩
    · exact wpAny_pyIter_zip e h
    · have hT : s.TypeIs (.ref z) "zip" := ⟨_, e, rfl⟩
      refine wpAny_pyIter_slot hT F.slot_zip_iter (wpAny_call_entry F.slot_zip_iter hT F.entry_zip_iter ?_ (F.args_zip_iter_1 _))
      show wpAny _ _ (ret (.ref z)) _ _ s
      exact wpAny_pure ⟨_, rfl, "zip", _, hT, F.slot_zip_next.lookup, h⟩
  refine wpAny_bind (hit ?_)
  refine wpAny_bind (wpAny_holding ?_)
  unfold Builtin.List.listLengthHint
  refine wpAny_bind (wpAny_specialOf q.ty zip_no_len ?_)
  show wpAny _ A.in1 (specialOf (Value.ref z) (Str.ofString "__length_hint__") >>= _) _ _ _
  refine wpAny_bind (wpAny_specialOf q.ty zip_no_hint ?_)
  refine wpAny_pure ?_
  show wpAny _ A.in1 (rule "list.extend.makes-room" >>= fun _ => Builtin.List.listTouch (.ref S) >>= fun _ =>
    again (.builtin "list.extend.loop" ⟨[.ref S, .ref z, res], []⟩)) _ _ _
  refine wpAny_bind (wpAny_rule ?_)
  refine wpAny_bind ?_
  show wpAny _ A.in1 (updateSeq S (·.push .none) >>= fun _ => updateSeq S (·.pop)) _ _ _
  refine wpAny_bind (wpAny_updateSeq hL rfl ?_)
  obtain ⟨c1, hL1⟩ := lst_get (f := (·.push Value.none)) hL
  refine wpAny_updateSeq hL1 rfl ?_
  obtain ⟨c2, hL2⟩ := lst_get (f := (·.pop)) hL1
  have oth : ∀ b o, b ≠ S → s.heap.get? b = some o → ((s.heap.update S (Obj.mapSeq (·.push Value.none))).update S (Obj.mapSeq (·.pop))).get? b = some o :=
    fun b o hb e => (Heap.get?_update_other _ _ (Ne.symm hb)).trans ((Heap.get?_update_other _ _ (Ne.symm hb)).trans e)
  have I2 : Inv X pins σ H { s with heap := (s.heap.update S (Obj.mapSeq (·.push Value.none))).update S (Obj.mapSeq (·.pop)) } :=
    I.turnedL (t' := s.toks) (ch := [S]) (fun b o hb e => oth b o (fun q => hb (by simp [q])) e) (fun b hb => hf b (by rw [List.mem_singleton.mp hb]; simp))
  refine wpAny_pure ⟨plainId_quiet F.plain_extend_loop _, loop hh D hS rx ry hx res (vx.zip vy) 0 _ H #[] c2 [] rfl (Nat.zero_le _) I2 hf (q.frame hS oth) hL2 .nil rfl fun s' H' acc' c' ts I' hf' hL' hn hv => ?_⟩
  exact hR s' H' acc' c' ts I' hf' hL' hn hv
end
end Wk.LZ
namespace Wk
open PySem L2 PyProof.Rows
def rLstZip (K : PySem.W.Frag) (Q : VK) (vs : List V) (H1 : Hp) : Prop := ∃ (a b : Addr) (xs ys : List V), vs = [.ref a, .ref b] ∧ SqL K H1 a xs ∧ SqL K H1 b ys ∧ ∀ ts H2, LZ.NewT H1 (xs.zip ys) ts H2 → ∀ q, H2 q = none → Q (.ref q) (upd H2 q (.lst ts))
def tLstZip (K : PySem.W.Frag) (ta : TA) : TE := fun σ H Q => ta σ H (rLstZip K Q)
theorem e_lzip {K : PySem.W.Frag} {ta : TA} {σ : L2.St} {H : Hp} {Q : VK} (h : ta σ H (rLstZip K Q)) : tLstZip K ta σ H Q := h
theorem LZ.len : ∀ {r : List (V × V)} {H : Hp} {ts : List V} {H2 : Hp}, LZ.NewT H r ts H2 → ts.length = r.length
  | [], _, _, _, ⟨a, _⟩ => by rw [a]; rfl
  | (x, y) :: r, _, _, _, ⟨T, ts', a, _, c⟩ => by rw [a, List.length_cons, List.length_cons, LZ.len c]
section
variable {X : Cx}
theorem pe_lstZip {e e2 : Expr} {ta : TA} {p p2 pos pos2 : Pos} (hc : X.calm = true) (hg : Gl X "list") (hm : X.mg "list" = none) (hg2 : Gl X "zip") (hm2 : X.mg "zip" = none) (ha : PA X [e, e2] ta)
    (hs : starEach [e, e2] X.env = (false, eval e X.env) :: starEach [e2] X.env := by rfl) (hpl : (backTo pos2 (starEach [e2] X.env)).any (·.1) = false := by rfl)
    (hs2 : starEach [.Call (.Name "zip" p2) [e, e2] [] pos2] X.env = (false, eval (.Call (.Name "zip" p2) [e, e2] [] pos2) X.env) :: starEach [] X.env := by rfl) :
    PE X (.Call (.Name "list" p) [.Call (.Name "zip" p2) [e, e2] [] pos2] [] pos) (tLstZip X.K ta) := by
  refine ⟨fun pins s σ H Q I h => ?_⟩
  refine Call_ (ld_blt I hg hm PyProof.Rows.boot_list (PyProof.Rows.callWith_type1 (args_cons (Call_ (ld_blt I hg2 hm2 PyProof.Rows.boot_zip (PyProof.Rows.callWith_type1 (thn (ha.run pos2 pins s σ H _ I h) fun us s1 ⟨vs, H1, I1, r1, q1⟩ => ?_) hs hpl))) hs2) hs2 rfl))
  obtain ⟨a, b, xs, ys, ex, hqx, hqy, q⟩ := q1
  subst ex
  cases r1 with
  | cons r rr =>
    cases rr with
    | cons r' rr =>
      cases rr
      cases r
      cases r'
      obtain ⟨its, rv, p1, hz1⟩ := I1.list hqx
      obtain ⟨its2, rv2, p2', _⟩ := I1.list hqy
      have la : a < s1.heap.objs.size := p1.lt
      have lb : b < s1.heap.objs.size := p2'.lt
      refine call_zip_2 p1.isList p2'.isList fun h' hz hTI hTO h1 h2 hsz hk => args_nil ?_
      have D := PySem.W.ktu_apart s1.heap.objs.size a b la lb
      have I2 : Inv X pins σ H1 { s1 with heap := h' } := I1.kept (t' := s1.toks) hk
      -- the list
      refine callType_codes (Q₁ := fun obj s₁ => obj = .ref h'.objs.size ∧ s₁ = { s1 with heap := h'.push { cls := .type "list", data := .seq #[] } }) F.called_list (F.typeCall_list_1 _) F.entry_list_init
        (code_list_new _ ⟨rfl, rfl⟩) fun obj s₁ h₁ => ?_
      obtain ⟨rfl, rfl⟩ := h₁
      have hS : (h'.push { cls := .type "list", data := .seq #[] }).get? h'.objs.size = some { cls := .type "list", data := .seq #[] } := Heap.get?_push_size _ rfl
      refine ⟨⟨_, hS, rfl⟩, F.args_list_init_2 _ _, ?_⟩
      show wpAny _ _ (do let old ← Builtin.List.listItems (.ref h'.objs.size); Builtin.List.listUpdate (.ref h'.objs.size) (fun _ => #[]); letGo old.toList.reverse; Builtin.List.listExtendWith (.ref h'.objs.size) (.ref (s1.heap.objs.size + 4)) .none) _ _ _
      refine wpAny_bind ?_
      unfold Builtin.List.listItems
      refine wpAny_bind (wpAny_seqItems hS rfl (wpAny_pure ?_))
      show wpAny _ _ (updateSeq h'.objs.size (fun _ => #[]) >>= fun _ => letGo (#[] : Array Value).toList.reverse >>= fun _ => Builtin.List.listExtendWith (.ref h'.objs.size) (.ref (s1.heap.objs.size + 4)) .none) _ _ _
      refine wpAny_bind (wpAny_updateSeq hS rfl ?_)
      obtain ⟨c₂, hS₂⟩ : ∃ c, ((h'.push { cls := .type "list", data := .seq #[] }).update h'.objs.size (Obj.mapSeq (fun _ => (#[] : Array Value)))).get? h'.objs.size = some { cls := .type "list", data := .seq #[] c } := ⟨_, Heap.get?_update_self (Obj.mapSeq (fun _ => (#[] : Array Value))) hS rfl⟩
      have oth : ∀ b o, h'.get? b = some o → ((h'.push { cls := .type "list", data := .seq #[] }).update h'.objs.size (Obj.mapSeq (fun _ => (#[] : Array Value)))).get? b = some o :=
        fun b o e => (Heap.get?_update_other _ _ (Nat.ne_of_gt (Heap.lt_size e))).trans (Heap.get?_push_of_some _ e)
      refine wpAny_bind (wpAny_letGo ?_)
      have I3 : Inv X pins σ H1 { s1 with heap := (h'.push { cls := .type "list", data := .seq #[] }).update h'.objs.size (Obj.mapSeq (fun _ => (#[] : Array Value))) } := I1.kept (t' := s1.toks) fun b u e => oth b u (hk b u e)
      have hlt : ∀ {b o}, h'.get? b = some o → b ≠ h'.objs.size := fun e => Nat.ne_of_lt (Heap.lt_size e)
      have hSs : ∀ c ∈ [s1.heap.objs.size + 4, s1.heap.objs.size + 2, s1.heap.objs.size + 3, s1.heap.objs.size, s1.heap.objs.size + 1, a, b], c ≠ h'.objs.size := by
        intro c hc
        rw [hsz]
        have e' : c = s1.heap.objs.size + 4 ∨ c = s1.heap.objs.size + 2 ∨ c = s1.heap.objs.size + 3 ∨ c = s1.heap.objs.size ∨ c = s1.heap.objs.size + 1 ∨ c = a ∨ c = b := by simpa using hc
        refine Nat.ne_of_lt ?_
        rcases e' with e | e | e | e | e | e | e
        · rw [e]; exact Nat.lt_succ_self _
        · rw [e]; exact Nat.add_lt_add_left (by decide) _
        · rw [e]; exact Nat.add_lt_add_left (by decide) _
        · rw [e]; exact Nat.lt_add_of_pos_right (by decide)
        · rw [e]; exact Nat.add_lt_add_left (by decide) _
        · rw [e]; exact Nat.lt_of_lt_of_le la (Nat.le_add_right _ _)
        · rw [e]; exact Nat.lt_of_lt_of_le lb (Nat.le_add_right _ _)
      have hf : ∀ c ∈ [h'.objs.size, s1.heap.objs.size + 4, s1.heap.objs.size + 3, s1.heap.objs.size, s1.heap.objs.size + 1], FpOk X pins H1 c := by
        intro c hc
        have e' : c = h'.objs.size ∨ c = s1.heap.objs.size + 4 ∨ c = s1.heap.objs.size + 3 ∨ c = s1.heap.objs.size ∨ c = s1.heap.objs.size + 1 := by simpa using hc
        have hle : s1.heap.objs.size ≤ c := by
          rw [hsz] at e'
          rcases e' with e | e | e | e | e
          · rw [e]; exact Nat.le_add_right _ _
          · rw [e]; exact Nat.le_add_right _ _
          · rw [e]; exact Nat.le_add_right _ _
          · rw [e]; exact Nat.le_refl _
          · rw [e]; exact Nat.le_add_right _ _
        exact I1.fpOk hle (I1.hok.fresh hle)
      refine LZ.extend_zip (X := X) (pins := pins) (σ := σ) (H := H1) (A := X.A.in1) (R := wants (fun r s₂ => r = Value.none ∧ _) _) (I1.ok.hd hc) D hSs rv rv2 hz1 .none I3 hf ⟨oth _ _ hTI, ⟨_, _, oth _ _ hTO⟩, h1.at fun o e => oth _ o e, h2.at fun o e => oth _ o e, (p1.isList.at fun o e => oth _ o (hk _ o e)), (p2'.isList.at fun o e => oth _ o (hk _ o e)), .inl (oth _ _ hz)⟩ hS₂ fun s' H' acc' c' ts I' hf' hL' hn hv => ?_
      refine ⟨rfl, ?_⟩
      have hl : ts.length ≤ sizeLine := by rw [LZ.len hn, List.length_zip]; exact Nat.le_trans (Nat.min_le_left _ _) hz1
      have hnew : ObjOk X.prog X.w (upd H' h'.objs.size (.lst ts)) s'.heap h'.objs.size (.lst ts) := ⟨hl, acc'.toList, c', hv, by rw [Array.toArray_toList]; exact hL'⟩
      have hfS := hf' h'.objs.size (by simp)
      exact ⟨.ref h'.objs.size, upd H' h'.objs.size (.lst ts), I'.take (t' := s'.toks) (fun _ _ _ e => e) hfS hnew, rfl, q ts H' hn _ hfS.1⟩
end
section
variable {α β : Type} {e : Rep α} {f : Rep β} {K : PySem.W.Frag} {F0 H0 F H H2 : Hp} {p q : Addr} {xs : List α} {ys : List β} {Q : VK}
/-- the new tuples -/
theorem newT_all : ∀ {us vs : List V} {xs : List α} {ys : List β} {F H : Hp} {ts : List V}, Ex F H → All e F us xs → All f F vs ys → LZ.NewT H (us.zip vs) ts H2 →
    ∃ F2, Wf F H F2 H2 ∧ All (pT2 e f) F2 ts (xs.zip ys)
  | [], _, [], _, F, H, ts, hf, _, _, ⟨a, b⟩ => by subst a b; exact ⟨F, Wf.id hf, trivial⟩
  | _ :: _, [], _ :: _, [], F, H, ts, hf, _, _, ⟨a, b⟩ => by subst a b; exact ⟨F, Wf.id hf, trivial⟩
  | u :: us, v :: vs, x :: xs, y :: ys, F, H, ts, hf, ⟨a1, a2⟩, ⟨b1, b2⟩, ⟨T, ts', hts, hT, hn⟩ => by
    subst hts
    have w := Wf.new (o := .tup [u, v]) hf hT
    have g := w.g
    obtain ⟨F2, w2, a⟩ := newT_all w.f (a2.mono g) (b2.mono g) hn
    refine ⟨F2, w.tr w2, ⟨⟨T, u, v, rfl, w2.g _ _ upd_same, e.mono w2.g (e.mono g a1), f.mono w2.g (f.mono g b1)⟩, a⟩⟩
  | [], _, _ :: _, _, _, _, _, _, q, _, _ => q.elim
  | _ :: _, _, [], _, _, _, _, _, q, _, _ => q.elim
  | _ :: _, [], _ :: _, _ :: _, _, _, _, _, _, q, _ => q.elim
  | _ :: _, _ :: _, _ :: _, [], _, _, _, _, _, q, _ => q.elim
theorem n_lzip {v1 v2 : V} (r1 : (pL e).r F v1 xs) (r2 : (pL f).r F v2 ys) (w : Wf F0 H0 F H) (k : ∀ p F' H', H p = none → Wf F H F' H' → XL (pT2 e f) H0 F' H' p (xs.zip ys) → Q (.ref p) H') : rLstZip K Q [v1, v2] H := by
  obtain ⟨p1, us, rfl, h1, a1⟩ := r1
  obtain ⟨p2, vs, rfl, h2, a2⟩ := r2
  refine ⟨p1, p2, us, vs, rfl, SqL.of (w.f _ _ h1), SqL.of (w.f _ _ h2), fun ts H2 hn l hl => ?_⟩
  obtain ⟨F2, w2, a⟩ := newT_all w.f a1 a2 hn
  exact k l F2 _ (w2.h.non hl) (w2.tr (Wf.newX w2.f hl)) ⟨ts, Xc.mk' (w.tr w2) hl, a⟩
end
end Wk
/-! Df: methods with a default, lists that are told inside a tuple, lists of any kind. -/
namespace Wk
open PySem L2
/-- a raw value -/
def pV : Rep V := ⟨fun _ v x => v = x, fun _ h => h⟩
abbrev anN (n : Nat) : An := .i (n : Int)
section
variable {α : Type} {e : Rep α} {F : Hp} {v : V} {xs : List Nat} {ys : List Int}
theorem all_any : ∀ {vs : List V} {xs : List Nat}, All pN F vs xs → All pA F vs (xs.map anN)
  | [], [], _ => trivial
  | _ :: _, _ :: _, ⟨a, b⟩ => ⟨a, all_any b⟩
  | [], _ :: _, q => q.elim
  | _ :: _, [], q => q.elim
theorem L_any (r : (pL pN).r F v xs) : (pL pA).r F v (xs.map anN) := let ⟨p, vs, a, b, c⟩ := r; ⟨p, vs, a, b, all_any c⟩
theorem all_anyI : ∀ {vs : List V} {xs : List Int}, All pI F vs xs → All pA F vs (xs.map An.i)
  | [], [], _ => trivial
  | _ :: _, _ :: _, ⟨a, b⟩ => ⟨a, all_anyI b⟩
  | [], _ :: _, q => q.elim
  | _ :: _, [], q => q.elim
theorem L_anyI (r : (pL pI).r F v ys) : (pL pA).r F v (ys.map An.i) := let ⟨p, vs, a, b, c⟩ := r; ⟨p, vs, a, b, all_anyI c⟩
theorem an_T3 {α β γ : Type} {e : Rep α} {f : Rep β} {g : Rep γ} {y : α × β × γ} (r : (pT3 e f g).r F v y) : pA.r F v (.o "tuple") := let ⟨p, u, w, z, a, b, _⟩ := r; ⟨p, a, .inr (.inl ⟨rfl, _, b⟩)⟩
end
section
variable {α β γ : Type} {e : Rep α} {f : Rep β} {g : Rep γ} {K : PySem.W.Frag} {F H : Hp} {v : V} {x : α × β × γ}
theorem ix_3b (r : (pT3 e f g).r F v x) (h : Ex F H) : ∃ w, f.r F w x.2.1 ∧ ∀ ⦃σ ta tb⦄, Val ta σ H v → Val tb σ H (.int 1) → Val (tOp (rIxT K) ta tb) σ H w := by
  obtain ⟨p, u, w, y, rfl, hp, a, b, c⟩ := r
  exact ⟨w, b, fun _ _ _ ha hb => v2 ha hb fun Q k => ⟨p, _, _, w, rfl, rfl, SqT.of (h _ _ hp), rfl, k⟩⟩
theorem ix_3c (r : (pT3 e f g).r F v x) (h : Ex F H) : ∃ w, g.r F w x.2.2 ∧ ∀ ⦃σ ta tb⦄, Val ta σ H v → Val tb σ H (.int 2) → Val (tOp (rIxT K) ta tb) σ H w := by
  obtain ⟨p, u, w, y, rfl, hp, a, b, c⟩ := r
  exact ⟨y, c, fun _ _ _ ha hb => v2 ha hb fun Q k => ⟨p, _, _, y, rfl, rfl, SqT.of (h _ _ hp), rfl, k⟩⟩
theorem ix_3a (r : (pT3 e f g).r F v x) (h : Ex F H) : ∃ w, e.r F w x.1 ∧ ∀ ⦃σ ta tb⦄, Val ta σ H v → Val tb σ H (.int 0) → Val (tOp (rIxT K) ta tb) σ H w := by
  obtain ⟨p, u, w, y, rfl, hp, a, b, c⟩ := r
  exact ⟨u, a, fun _ _ _ ha hb => v2 ha hb fun Q k => ⟨p, _, _, u, rfl, rfl, SqT.of (h _ _ hp), rfl, k⟩⟩
theorem e_sl {r : V → Option Int → Option Int → Hp → VK → Prop} {te : TE} {tl th : TO} {σ : L2.St} {Q : VK} (h : te σ H fun v H1 => L2.tSl r (tC v) tl th σ H1 Q) : L2.tSl r te tl th σ H Q := h
instance {n m k : Nat} [Dat e n] [Dat f m] [Dat g k] : Dat (pT3 e f g) (max n (max m k) + 1) := ⟨fun x => .tuple [Dat.d e x.1, Dat.d f x.2.1, Dat.d g x.2.2], fun {K F v x} h => by
    obtain ⟨p, u, w, y, rfl, hp, a, b, c⟩ := h
    exact .tup (SqT.of hp) (.cons (Dat.dp a) (.cons (Dat.dp b) (.cons (Dat.dp c) .nil))), fun x => by
    show (PyData.canLay0 (Dat.d e x.1) && (PyData.canLay0 (Dat.d f x.2.1) && (PyData.canLay0 (Dat.d g x.2.2) && PyData.canLayAll0 []))) = true
    rw [Dat.lay, Dat.lay, Dat.lay]; rfl, fun x => by
    have a := Dat.dep (e := e) x.1
    have b := Dat.dep (e := f) x.2.1
    have c := Dat.dep (e := g) x.2.2
    simp only [PyData.depth, PyData.depthAll]
    omega, fun x y => by
    show (PyData.eqv (Dat.d e x.1) (Dat.d e y.1) && (PyData.eqv (Dat.d f x.2.1) (Dat.d f y.2.1) && (PyData.eqv (Dat.d g x.2.2) (Dat.d g y.2.2) && PyData.eqvAll [] []))) = true ↔ _
    have z : PyData.eqvAll [] [] = true := rfl
    rw [z, Bool.and_true, Bool.and_eq_true, Bool.and_eq_true, Dat.inj, Dat.inj, Dat.inj, Prod.ext_iff, Prod.ext_iff]⟩
end
/-- a method with a default -/
structure MdD (P : Program) (w : World) (K : PySem.W.Frag) (mg : Str → Option Value) (base : Heap) (CX : CXT) (k : Nat) (C : Addr) (m : Str) (ps : List Str) (sp : Sp) (dvs : List V) : Prop where
  ex : ∃ f fd, FnOk P w K mg base CX k f fd ps sp ∧ Meth K C m f ∧ Binds K fd ps [] ∧ ∃ ds, Vals dvs ds ∧ Binds K fd ps ds
theorem MdD.full {P : Program} {w : World} {K : PySem.W.Frag} {mg : Str → Option Value} {base : Heap} {CX : CXT} {k : Nat} {C : Addr} {m : Str} {ps : List Str} {sp : Sp} {dvs : List V} (M : MdD P w K mg base CX k C m ps sp dvs) : Md P w K mg base CX k C m ps sp :=
  let ⟨f, fd, a, b, c, _⟩ := M.ex; ⟨f, fd, a, b, c⟩
theorem funD_mk {K : PySem.W.Frag} {x qual : Str} {st : Stmt} {f T : Addr} {oc aT : Value} {od an bT : Option Addr} {osl sT : Array (Option Value)} {kV doc pm cdv ct : Value} {its : Array Value} {n : Nat} {dvs : List V}
    (l : K.lookup f = some ⟨oc, od, .func (PySem.W.fnOf x qual (defArgs st) (defBody st) (defScope st) (.ref T) kV doc pm an cdv ct), osl⟩) (c : PySem.W.codeIn K cdv qual = true) (k : PySem.W.keepIn K (.ref f) = true)
    (lT : K.lookup T = some ⟨aT, bT, .seq its n, sT⟩) (r : Vals dvs its.toList) (hne : dvs ≠ []) : FunD K x qual (defArgs st) (defBody st) (defScope st) dvs [] f (PySem.W.fnOf x qual (defArgs st) (defBody st) (defScope st) (.ref T) kV doc pm an cdv ct) :=
  ⟨⟨oc, od, _, kV, doc, pm, an, cdv, ct, osl, rfl, l, c, .inr ⟨hne, T, _, its.toList, n, rfl, lT, by rw [Array.toArray_toList], r⟩, .inl rfl⟩, k⟩
theorem FunD.full {K : PySem.W.Frag} {x qual : Str} {params : Arguments} {body : List Stmt} {scope : Scope} {dvs : List V} {f : Addr} {fd : FuncData} {ps : List Str} (F : FunD K x qual params body scope dvs [] f fd) (hd : dvs ≠ [])
    (h : ∀ (T : Addr) (kV doc pm : Value) (an : Option Addr) (cdv ct : Value) (us its : List Value), us.length = ps.length → its.length = dvs.length →
      ∃ k, bindArgs (PySem.W.fnOf x qual params body scope (.ref T) kV doc pm an cdv ct) ⟨us, []⟩ = seqItems? (.ref T) >>= k ∧ k (some its.toArray) = pure (ps.zip (us ++ its.drop dvs.length))) : Binds K fd ps [] := by
  obtain ⟨ds, r, b⟩ := F.binds1 (ps := ps) ps.length dvs.length hd (by rw [Nat.sub_self]; rfl) h
  rw [List.drop_length] at r
  cases r
  exact b
section
variable {X : Cx} {k : Nat} {C : Addr} {x m : Str} {ps : List Str} {sp : Sp} {W : WX} {o e : Expr} {es : List Expr} {p pos apos : Pos} {ta : TE} {t : TA} {pl : Sem Bool} {dvs : List V}
theorem run_fnSD {CX : CXT} {f : Addr} {fd : FuncData} {ds : List Value} {E : L2.St → XK} {pins : List (Addr × Obj)} {σ : L2.St} {H : Hp} {s : Shared} {Q : VK} {us : List Value} {vs : List V} (F : FnOk X.prog X.w X.K X.mg X.base CX k f fd ps sp) (hr : Room k X.A) (hb : Binds X.K fd ps ds) (hd : Vals dvs ds) (hx : PassesAt CX X σ (E σ))
    (I : Inv X pins σ H s) (r : Vals vs us) (h : sp (vs ++ dvs) H Q (E σ)) : wpAny (model X.prog X.w) X.A (call (.ref f) us) (EP X pins σ Q) X.xe s := by
  have r2 : Vals (vs ++ dvs) (us ++ ds) := r.append hd
  have hl : (us ++ ds).length = ps.length := by rw [← r2.length]; exact F.len _ _ _ _ h
  refine wpAny_call (codeAny_mono (F.run X.A X.stack s H ⟨us, []⟩ (us ++ ds) (vs ++ dvs) Q (E σ) hr I.env0 (hb s us I.kIn hl) r2 h) fun r s' hq => ?_)
  cases r with
  | error e => exact hx pins H s e s' I hq
  | ok fl =>
    cases fl with
    | ret u => exact I.after hq
    | next => exact False.elim hq
    | brk => exact False.elim hq
    | cont => exact False.elim hq
def tMdD (C : Addr) (m : Str) (sp : Sp) (dvs : List V) (E : L2.St → XK) (ta : TE) (t : TA) : TE := fun σ H Q => ta σ H fun x H1 => ∃ a dx fs, x = .ref a ∧ H1 a = some (.ins C dx fs) ∧ fs.lookup m = none ∧ t σ H1 fun vs H2 => sp (x :: (vs ++ dvs)) H2 Q (E σ)
theorem e_mdD {E : L2.St → XK} {σ : L2.St} {H : Hp} {Q : VK} (h : ta σ H fun x H1 => ∃ a dx fs, x = .ref a ∧ H1 a = some (.ins C dx fs) ∧ fs.lookup m = none ∧ t σ H1 fun vs H2 => sp (x :: (vs ++ dvs)) H2 Q (E σ)) : tMdD C m sp dvs E ta t σ H Q := h
theorem pe_mdD {E : L2.St → XK} (M : MdD X.prog X.w X.K X.mg X.base (L2.CX X.prog X.w) k C m ps sp dvs) (hx : ∀ σ, PassesAt (L2.CX X.prog X.w) X σ (E σ)) (cl : Cls X.K C) (hr : Room k X.A) (he : PE X o ta) (ha : PA X (e :: es) t)
    (hst : starEach (e :: es) X.env = (false, eval e X.env) :: starEach es X.env := by rfl) (hpl : (backTo pos (starEach es X.env)).any (·.1) = false := by rfl)
    (ht : eval (.Call (.Attribute o m apos) (e :: es) [] pos) X.env = (do
      let ov ← eval o X.env
      standAt apos.atName
      let (f, first) ← holding [ov] (getMethod ov m pl)
      callWith pos f first (backTo pos (starEach (e :: es) X.env)) (backToKw pos (keywordEach [] X.env))) := by rfl) :
    PE X (.Call (.Attribute o m apos) (e :: es) [] pos) (tMdD C m sp dvs E ta t) := by
  obtain ⟨f, fd, F, hm, _, ds, hd, hb⟩ := M.ex
  refine ⟨fun pins s σ H Q Iv hh => ?_⟩
  refine PySem.W.methodCall_KW (pl := pl) (thn (he.run pins s σ H _ Iv hh) fun u s1 ⟨x, H1, Iv1, rx, a, dx, fs, ex, ea, lk, qq⟩ => ?_) ht
  subst ex
  obtain rfl : u = Value.ref a := rx
  refine getmeth_ok Iv1 ea cl hm lk ?_
  refine PySem.W.callWith_K (first := [.ref a]) (h₀ := X.base) Iv1.ok.mod.kin hm.kp (thn (ha.run pos pins s1 σ H1 _ Iv1 qq) fun us s2 ⟨vs, H2, Iv2, rv, q2⟩ => ⟨Iv2.kIn, ?_⟩) hst hpl
  exact run_fnSD (us := .ref a :: us) (vs := .ref a :: vs) F hr hb hd (hx σ) Iv2 (.cons rfl rv) q2
end
theorem passAtL {X : Cx} (σ : L2.St) : PassesAt (L2.CX X.prog X.w) X σ E0 := fun pins H s e s' I h => passL pins σ H s e s' I h
/-- xs[:-n] -/
theorem n_cutNeg {α : Type} {e : Rep α} {K : PySem.W.Frag} {σ : L2.St} {F0 H0 F H : Hp} {te th : TE} {v : V} {xs : List α} {Q : VK} {n : Nat} (hn : 0 < n) (r : (pL e).r F v xs) (hv : Val te σ H v) (h2 : Val th σ H (.int (-(n : Int)))) (w : Wf F0 H0 F H)
    (k : ∀ p H', H p = none → Wf F H F H' → XL e H0 F H' p (xs.take (xs.length - n)) → Q (.ref p) H') : L2.tSl (rSlL K) te tNoPart (tPart th) σ H Q := by
  obtain ⟨p, vs, rfl, hp, a⟩ := r
  refine hv _ (h2 _ ⟨_, rfl, p, vs, rfl, SqL.of (w.f _ _ hp), fun l hl => ?_⟩)
  have e1 : cutV vs none (some (-(n : Int))) = vs.take (vs.length - n) := by
    unfold cutV
    have e2 : HT.sIx vs.length vs.length (some (-(n : Int))) = vs.length - n := by
      show (if (-(n : Int)) < 0 then ((-(n : Int)) + (vs.length : Int)).toNat else _) = _
      rw [if_pos (by omega)]; omega
    rw [e2, HT.sIx_none, List.drop_zero, Nat.sub_zero]
  rw [e1, a.len]
  exact k l _ hl (Wf.newX w.f hl) ⟨_, Xc.mk' w hl, a.take _⟩
/-! things that hold nothing of what was there at H -/
def nw (H F : Hp) : Hp := fun a => if H a = none then F a else none
theorem nw_ex {H F F' : Hp} (h : Ex F F') : Ex (nw H F) (nw H F') := fun a o e => by
  unfold nw at e ⊢
  by_cases q : H a = none
  · rw [if_pos q] at e ⊢; exact h a o e
  · rw [if_neg q] at e; cases e
theorem nw_sub {H F : Hp} : Ex (nw H F) F := fun a o e => by
  unfold nw at e
  by_cases q : H a = none
  · rw [if_pos q] at e; exact e
  · rw [if_neg q] at e; cases e
theorem nw_at {H F : Hp} {a : Addr} {o : HO} (h : H a = none) (e : F a = some o) : nw H F a = some o := by unfold nw; rw [if_pos h]; exact e
def Fre {α : Type} (H : Hp) (e : Rep α) (F : Hp) (v : V) (x : α) : Prop := e.r (nw H F) v x
section
variable {α β : Type} {e : Rep α} {f : Rep β} {F0 H0 F F' Fl H H2 F2 : Hp} {v u : V} {x : α} {y : β} {p : Addr} {Q : VK}
theorem Fre.r (h : Fre H e F v x) : e.r F v x := e.mono nw_sub h
theorem Fre.mono (g : Ex F F') (h : Fre H e F v x) : Fre H e F' v x := e.mono (nw_ex g) h
/-- behind a call to which one's own list was lent -/
theorem Fre.back (ex : Ex F H) (hx : Ex F Fl) (s : Wf Fl H F2 H2) (h : Fre H e F2 v x) : ∃ F3, Wf F H F3 H2 ∧ e.r F3 v x := by
  refine ⟨fun a => match nw H F2 a with | some o => some o | none => F a, ⟨s.h, fun a o q => ?_, fun a o q => ?_, fun a o q q0 => ?_⟩, e.mono (fun a o q => ?_) h⟩
  · cases z : nw H F2 a with
    | some o' =>
      have q' : (match nw H F2 a with | some o => some o | none => F a) = some o := q
      rw [z] at q'; cases q'
      exact s.f a _ (nw_sub a _ z)
    | none =>
      have q' : (match nw H F2 a with | some o => some o | none => F a) = some o := q
      rw [z] at q'
      exact s.h a o (ex a o q')
  · show (match nw H F2 a with | some o => some o | none => F a) = some o
    have : nw H F2 a = none := by unfold nw; rw [if_neg (by rw [ex a o q]; simp)]
    rw [this]; exact q
  · cases z : nw H F2 a with
    | some o' =>
      unfold nw at z
      by_cases c : H a = none
      · exact c
      · rw [if_neg c] at z; cases z
    | none =>
      have q' : (match nw H F2 a with | some o => some o | none => F a) = some o := q
      rw [z] at q'
      have q2 : F a = some o := q'
      rw [q0] at q2; cases q2
  · show (match nw H F2 a with | some o => some o | none => F a) = some o
    rw [q]
theorem all_sc {xs : List Nat} {F G : Hp} : ∀ {vs : List V} {xs : List Nat}, All pN F vs xs → All pN G vs xs
  | [], [], _ => trivial
  | _ :: _, _ :: _, ⟨a, b⟩ => ⟨a, all_sc (xs := xs) b⟩
  | [], _ :: _, q => q.elim
  | _ :: _, [], q => q.elim
/-- one's own list of numbers is changed no more, and is new -/
theorem XL.frzN {xs : List Nat} (x : XL pN H0 F H p xs) (w : Wf F0 H0 F H) : ∃ F', Wf F0 H0 F' H ∧ Ex F F' ∧ Fre H0 (pL pN) F' (.ref p) xs ∧ (∀ q o, Xc H0 F H q o → q ≠ p → Xc H0 F' H q o) := by
  obtain ⟨vs, a, b⟩ := x.x
  exact ⟨_, w.freeze a, Ex.new a.n, ⟨p, vs, rfl, nw_at a.z upd_same, all_sc (xs := xs) b⟩, fun q o z h => z.frz a h⟩
theorem n_fre2 (w : Wf F0 H0 F H) (a : Fre H0 e F v x) (b : Fre H0 f F u y) (k : ∀ p F' H', Wf F H F' H' → Fre H0 (pT2 e f) F' (.ref p) (x, y) → Q (.ref p) H') : kTup Q [v, u] H :=
  ⟨Nat.le_of_lt (small_len (n := 2) (by decide)), fun p hp => k p _ _ (Wf.new w.f hp) ⟨p, v, u, rfl, nw_at (w.h.non hp) upd_same, Fre.mono (Ex.new (w.f.non hp)) a, Fre.mono (Ex.new (w.f.non hp)) b⟩⟩
theorem T2_TL {z : α × α} (r : (pT2 e e).r F v z) : (pTL e).r F v [z.1, z.2] := let ⟨p, u, w, a, b, c, d⟩ := r; ⟨p, [u, w], a, b, c, d, trivial⟩
end
end Wk
/-! Mm: bits as masks, machines by tables. -/
namespace Wk
/-- the mask of a row of bits -/
def maskB : List Bool → Nat
  | [] => 0
  | b :: bs => b.toNat + 2 * maskB bs
theorem maskB_lt : ∀ bs : List Bool, maskB bs < 2 ^ bs.length
  | [] => by decide
  | b :: bs => by
    have := maskB_lt bs
    have hb : b.toNat ≤ 1 := by cases b <;> decide
    show b.toNat + 2 * maskB bs < 2 ^ (bs.length + 1)
    rw [Nat.pow_succ]; omega
theorem maskB_bit : ∀ (bs : List Bool) (j : Nat), (maskB bs).testBit j = bs.getD j false
  | [], j => by show (0 : Nat).testBit j = _; rw [Nat.zero_testBit]; rfl
  | b :: bs, 0 => by
    show (b.toNat + 2 * maskB bs).testBit 0 = b
    rw [Nat.testBit_zero]
    cases b
    · exact decide_eq_false (by show ¬ (0 + 2 * maskB bs) % 2 = 1; omega)
    · exact decide_eq_true (by show (1 + 2 * maskB bs) % 2 = 1; omega)
  | b :: bs, j + 1 => by
    show (b.toNat + 2 * maskB bs).testBit (j + 1) = bs.getD j false
    have e : (b.toNat + 2 * maskB bs) / 2 = maskB bs := by
      have hb : b.toNat ≤ 1 := by cases b <;> decide
      omega
    rw [← halfBit, e, maskB_bit bs j]
theorem maskB_snoc : ∀ (bs : List Bool) (b : Bool), maskB (bs ++ [b]) = maskB bs + b.toNat <<< bs.length
  | [], b => by show b.toNat + 2 * 0 = 0 + b.toNat <<< 0; rw [Nat.shiftLeft_eq]; omega
  | a :: bs, b => by
    show a.toNat + 2 * maskB (bs ++ [b]) = a.toNat + 2 * maskB bs + b.toNat <<< (bs.length + 1)
    rw [maskB_snoc bs b, Nat.shiftLeft_eq, Nat.shiftLeft_eq, Nat.pow_succ, ← Nat.mul_assoc]; omega
theorem maskB_or (bs : List Bool) (b : Bool) : maskB bs ||| b.toNat <<< bs.length = maskB (bs ++ [b]) := Nat.eq_of_testBit_eq fun j => by
  rw [Nat.testBit_or, maskB_bit, maskB_bit, Nat.testBit_shiftLeft, List.getD_eq_getElem?_getD, List.getD_eq_getElem?_getD]
  by_cases h : j < bs.length
  · rw [List.getElem?_append_left h, decide_eq_false (by omega)]; simp
  · rw [List.getElem?_append_right (by omega), List.getElem?_eq_none (by omega)]
    by_cases e : j = bs.length
    · subst e; rw [Nat.sub_self]; cases b <;> simp
    · rw [List.getElem?_eq_none (by rw [List.length_singleton]; omega)]
      have : b.toNat.testBit (j - bs.length) = false := by
        obtain ⟨k, hk⟩ : ∃ k, j - bs.length = k + 1 := ⟨j - bs.length - 1, by omega⟩
        rw [hk, ← halfBit]
        cases b
        · show (0 / 2 : Nat).testBit k = false; rw [Nat.zero_div, Nat.zero_testBit]
        · show (1 / 2 : Nat).testBit k = false; rw [show (1 / 2 : Nat) = 0 by decide, Nat.zero_testBit]
      rw [this]; simp
theorem NShl_bit {b : Bool} {k : Nat} (h : k < 1000000) : NShl b.toNat k := by
  unfold NShl
  have : b.toNat.log2 = 0 := by cases b <;> decide
  omega
/-- bits below w, all together -/
def px (f : Nat → Bool) : Nat → Bool
  | 0 => false
  | m + 1 => xor (px f m) (f m)
theorem px_congr {f g : Nat → Bool} : ∀ {m : Nat}, (∀ j, j < m → f j = g j) → px f m = px g m
  | 0, _ => rfl
  | m + 1, h => by show xor _ _ = xor _ _; rw [px_congr (m := m) fun j hj => h j (by omega), h m (by omega)]
theorem px_add (f : Nat → Bool) (m : Nat) : ∀ k, px f (m + k) = xor (px f m) (px (fun i => f (m + i)) k)
  | 0 => by show px f m = xor (px f m) false; simp
  | k + 1 => by show xor (px f (m + k)) (f (m + k)) = xor (px f m) (xor _ (f (m + k))); rw [px_add f m k]; simp
theorem px_xor (f g : Nat → Bool) : ∀ k, px (fun i => xor (f i) (g i)) k = xor (px f k) (px g k)
  | 0 => rfl
  | k + 1 => by
    show xor (px _ k) (xor (f k) (g k)) = xor (xor (px f k) (f k)) (xor (px g k) (g k))
    rw [px_xor f g k]; cases px f k <;> cases px g k <;> cases f k <;> cases g k <;> rfl
theorem par_px : ∀ {w n : Nat}, n < 2 ^ w → par n = px n.testBit w
  | 0, n, h => by
    have : n = 0 := by simpa using h
    subst this; rw [par_zero]; rfl
  | w + 1, n, h => by
    rw [par_step, par_px (w := w) (n := n / 2) (by rw [Nat.pow_succ] at h; omega), Nat.add_comm w 1, px_add]
    have e : px n.testBit 1 = n.testBit 0 := by show xor false _ = _; simp
    rw [e, px_congr (f := (n / 2).testBit) (g := fun i => n.testBit (1 + i)) fun j _ => by rw [halfBit, Nat.add_comm]]
theorem px_fold (n k : Nat) : px (n ^^^ n >>> k).testBit k = px n.testBit (k + k) := by
  rw [px_add, ← px_xor]
  exact px_congr fun j _ => by rw [Nat.testBit_xor, Nat.testBit_shiftRight]
def xfold (n : Nat) : Nat := [64, 32, 16, 8, 4, 2, 1].foldl (fun n k => n ^^^ n >>> k) n
theorem par_fold {n : Nat} (h : n < 2 ^ 128) : xfold n &&& 1 = (par n).toNat := by
  have e : par n = px (xfold n).testBit 1 := by
    rw [par_px h]
    show px n.testBit (64 + 64) = _
    rw [← px_fold n 64]
    show px _ (32 + 32) = _
    rw [← px_fold _ 32]
    show px _ (16 + 16) = _
    rw [← px_fold _ 16]
    show px _ (8 + 8) = _
    rw [← px_fold _ 8]
    show px _ (4 + 4) = _
    rw [← px_fold _ 4]
    show px _ (2 + 2) = _
    rw [← px_fold _ 2]
    show px _ (1 + 1) = _
    rw [← px_fold _ 1]
    rfl
  rw [e, Nat.and_one_is_mod]
  show _ = (xor false ((xfold n).testBit 0)).toNat
  rw [Nat.testBit_zero]
  rcases Nat.mod_two_eq_zero_or_one (xfold n) with q | q <;> rw [q] <;> rfl
/-! machines: inputs, pairs of the stores, pairs of the outs -/
abbrev Mach := Nat × List (Nat × Nat) × List (Nat × Nat)
def bitf (p : Nat × Nat) (s r : Nat) : Bool := xor (par (p.1 &&& s)) (par (p.2 &&& r))
def bitsV (ps : List (Nat × Nat)) (s r : Nat) : Nat := maskB (ps.map fun p => bitf p s r)
theorem bitsV_lt (ps : List (Nat × Nat)) (s r : Nat) : bitsV ps s r < 2 ^ ps.length := by
  have := maskB_lt (ps.map fun p => bitf p s r)
  rwa [List.length_map] at this
theorem bitsV_bit (ps : List (Nat × Nat)) (s r j : Nat) : (bitsV ps s r).testBit j = (decide (j < ps.length) && bitf (ps.getD j (0, 0)) s r) := by
  unfold bitsV
  rw [maskB_bit, List.getD_eq_getElem?_getD, List.getD_eq_getElem?_getD, List.getElem?_map]
  by_cases h : j < ps.length
  · rw [List.getElem?_eq_getElem h, decide_eq_true h]; simp
  · rw [List.getElem?_eq_none (by omega), decide_eq_false h]; rfl
structure MOk (M : Mach) : Prop where
  i : M.1 ≤ 6
  n : M.2.1.length ≤ 120
  o : M.2.2.length ≤ 6
  mn : ∀ p ∈ M.2.1, p.1 < 2 ^ M.2.1.length ∧ p.2 < 2 ^ M.1
  mo : ∀ p ∈ M.2.2, p.1 < 2 ^ M.2.1.length ∧ p.2 < 2 ^ M.1
def nextV (M : Mach) (s r : Nat) : Nat := bitsV M.2.1 s r
def outV (M : Mach) (s r : Nat) : Nat := bitsV M.2.2 s r
def walkV (M : Mach) (rows : List Nat) (s : Nat) : List Nat × Nat := rows.foldl (fun t r => (t.1 ++ [outV M t.2 r], nextV M t.2 r)) ([], s)
theorem walkF_len (M : Mach) : ∀ (rows : List Nat) (t : List Nat × Nat), (rows.foldl (fun t r => (t.1 ++ [outV M t.2 r], nextV M t.2 r)) t).1.length = t.1.length + rows.length
  | [], t => rfl
  | r :: rows, t => by
    rw [List.foldl_cons, walkF_len M rows, List.length_append]
    show t.1.length + 1 + rows.length = t.1.length + (rows.length + 1)
    omega
theorem walkV_len (M : Mach) (rows : List Nat) (s : Nat) : (walkV M rows s).1.length = rows.length := by
  unfold walkV; rw [walkF_len]; exact Nat.zero_add _
theorem walkF_lt {M : Mach} : ∀ (rows : List Nat) (t : List Nat × Nat), t.2 < 2 ^ M.2.1.length → (rows.foldl (fun t r => (t.1 ++ [outV M t.2 r], nextV M t.2 r)) t).2 < 2 ^ M.2.1.length
  | [], t, h => h
  | r :: rows, t, h => walkF_lt rows _ (bitsV_lt ..)
theorem walkV_lt {M : Mach} {rows : List Nat} {s : Nat} (h : s < 2 ^ M.2.1.length) : (walkV M rows s).2 < 2 ^ M.2.1.length := walkF_lt rows ([], s) h
theorem walkV_snoc (M : Mach) (rows : List Nat) (r s : Nat) : walkV M (rows ++ [r]) s = ((walkV M rows s).1 ++ [outV M (walkV M rows s).2 r], nextV M (walkV M rows s).2 r) := by
  unfold walkV; rw [List.foldl_append]; rfl
/-! things of any kind -/
def okA (x : An) (w : Nat) : Prop := ∃ n : Nat, x = An.i (n : Int) ∧ n < 2 ^ w
def fineA : An → Prop
  | .o T => T ≠ "int" ∧ T ≠ "bool"
  | _ => True
theorem isA_int (x : An) (h : fineA x) : (isA "int" x = true ∧ ¬ isA "bool" x = true) ↔ ∃ z : Int, x = An.i z := by
  cases x with
  | i z => exact ⟨fun _ => ⟨z, rfl⟩, fun _ => by simp [isA, An.ty]⟩
  | b b => exact ⟨fun q => absurd (by simp [isA, An.ty]) q.2, fun ⟨z, e⟩ => by cases e⟩
  | n => exact ⟨fun q => absurd q.1 (by simp [isA, An.ty]), fun ⟨z, e⟩ => by cases e⟩
  | s t => exact ⟨fun q => absurd q.1 (by simp [isA, An.ty]), fun ⟨z, e⟩ => by cases e⟩
  | l t => exact ⟨fun q => absurd q.1 (by simp [isA, An.ty]), fun ⟨z, e⟩ => by cases e⟩
  | t t => exact ⟨fun q => absurd q.1 (by simp [isA, An.ty]), fun ⟨z, e⟩ => by cases e⟩
  | o T =>
    refine ⟨fun q => absurd q.1 ?_, fun ⟨z, e⟩ => by cases e⟩
    obtain ⟨h1, h2⟩ := h
    unfold isA An.ty
    simp [h1, h2]
section
variable {α : Type}
theorem enumT_snd (xs : List α) : (enumT xs).map (·.2) = xs := by
  unfold enumT
  exact List.map_snd_zip (by rw [List.length_range]; exact Nat.le_refl _)
theorem enumT_split {xs : List α} {pre post : List (Nat × α)} {x : Nat × α} (h : enumT xs = pre ++ x :: post) : x.1 = pre.length ∧ xs = pre.map (·.2) ++ x.2 :: post.map (·.2) := by
  constructor
  · have e := enumT_get xs pre.length
    rw [h, List.getElem?_append_right (Nat.le_refl _), Nat.sub_self] at e
    have e' : some x = xs[pre.length]?.map fun y => (pre.length, y) := e
    cases q : xs[pre.length]? with
    | none => rw [q] at e'; cases e'
    | some y => rw [q] at e'; cases e'; rfl
  · have e := enumT_snd xs
    rw [h, List.map_append, List.map_cons] at e
    exact e.symm
theorem w_bits {ps : List α} {body : Nat × α → Nat → (Nat → Prop) → (Nat → Prop) → Prop} {k : Nat → Prop} (f : α → Bool) (hb : ∀ pre p post nx bk, ps = pre ++ p :: post → nx (maskB ((pre ++ [p]).map f)) → body (pre.length, p) (maskB (pre.map f)) nx bk) (hk : k (maskB (ps.map f))) : forW (enumT ps) 0 body k := by
  refine forW_ind (fun pre s => s = maskB ((pre.map (·.2)).map f)) rfl (fun pre x post s nx bk e hs hn _ => ?_) fun s hs => ?_
  · obtain ⟨e1, e2⟩ := enumT_split e
    obtain ⟨i, p⟩ := x
    have e1' : i = pre.length := e1
    subst hs e1'
    have := hb (pre.map (·.2)) p (post.map (·.2)) nx bk e2 (hn _ (by rw [List.map_append, List.map_append, List.map_append]; rfl))
    rwa [List.length_map] at this
  · rw [hs, enumT_snd]; exact hk
theorem forW_enum {S : Type} {ps : List α} {s : S} {body : Nat × α → S → (S → Prop) → (S → Prop) → Prop} {k : S → Prop} (P : List α → S → Prop) (h0 : P [] s)
    (hb : ∀ pre p post s nx bk, ps = pre ++ p :: post → P pre s → (∀ s', P (pre ++ [p]) s' → nx s') → body (pre.length, p) s nx bk) (hk : ∀ s, P ps s → k s) : forW (enumT ps) s body k := by
  refine forW_ind (fun pre s => P (pre.map (·.2)) s) h0 (fun pre x post s nx bk e hs hn _ => ?_) fun s hs => ?_
  · obtain ⟨e1, e2⟩ := enumT_split e
    obtain ⟨i, p⟩ := x
    have e1' : i = pre.length := e1
    subst e1'
    have := hb (pre.map (·.2)) p (post.map (·.2)) s nx bk e2 hs (fun s' h => hn s' (by rw [List.map_append]; exact h))
    rwa [List.length_map] at this
  · rw [enumT_snd] at hs; exact hk s hs
end
/-! what a mask over the next bits hangs on -/
def fsts (ps : List (Nat × Nat)) : List Nat := ps.map (·.1)
def snds (ps : List (Nat × Nat)) : List Nat := ps.map (·.2)
def backV (M : Mach) (m : Nat) : Nat × Nat := (comb (fsts M.2.1) m, comb (snds M.2.1) m)
theorem fsts_getD (ps : List (Nat × Nat)) (j : Nat) : (fsts ps).getD j 0 = (ps.getD j (0, 0)).1 := by
  unfold fsts
  rw [List.getD_eq_getElem?_getD, List.getD_eq_getElem?_getD, List.getElem?_map]
  cases ps[j]? <;> rfl
theorem snds_getD (ps : List (Nat × Nat)) (j : Nat) : (snds ps).getD j 0 = (ps.getD j (0, 0)).2 := by
  unfold snds
  rw [List.getD_eq_getElem?_getD, List.getD_eq_getElem?_getD, List.getElem?_map]
  cases ps[j]? <;> rfl
theorem back_law (ps : List (Nat × Nat)) {m s r : Nat} (hm : m < 2 ^ ps.length) : par (m &&& bitsV ps s r) = xor (par (comb (fsts ps) m &&& s)) (par (comb (snds ps) m &&& r)) := by
  have l1 : (fsts ps).length = ps.length := by unfold fsts; rw [List.length_map]
  have l2 : (snds ps).length = ps.length := by unfold snds; rw [List.length_map]
  rw [par_dot hm, par_comb, par_comb, l1, l2, ← dot_xor]
  exact dot_congr fun j hj => by rw [bitsV_bit, decide_eq_true hj, fsts_getD, snds_getD]; rfl
theorem back_lt {M : Mach} (h : MOk M) (m : Nat) : (backV M m).1 < 2 ^ M.2.1.length ∧ (backV M m).2 < 2 ^ M.1 := by
  constructor
  · refine comb_lt fun r hr => ?_
    obtain ⟨p, hp, e⟩ := List.mem_map.mp (show r ∈ List.map _ _ from hr)
    rw [← e]; exact (h.mn p hp).1
  · refine comb_lt fun r hr => ?_
    obtain ⟨p, hp, e⟩ := List.mem_map.mp (show r ∈ List.map _ _ from hr)
    rw [← e]; exact (h.mn p hp).2
theorem back_fold (ps : List (Nat × Nat)) (m : Nat) : ∀ k, k ≤ ps.length → (bl k m).foldl (fun (t : Nat × Nat) p => (t.1 ^^^ (ps.getD p (0, 0)).1, t.2 ^^^ (ps.getD p (0, 0)).2)) (0, 0) = (comb (fsts (ps.take k)) m, comb (snds (ps.take k)) m)
  | 0, _ => rfl
  | k + 1, hk => by
    have e2 : ps.take (k + 1) = ps.take k ++ [ps[k]'(by omega)] := List.take_succ_eq_append_getElem (by omega)
    have eg : ps.getD k (0, 0) = ps[k]'(by omega) := by rw [List.getD_eq_getElem?_getD, List.getElem?_eq_getElem (by omega)]; rfl
    have el : (ps.take k).length = k := by rw [List.length_take]; omega
    have f1 : fsts (ps.take (k + 1)) = fsts (ps.take k) ++ [(ps[k]'(by omega)).1] := by unfold fsts; rw [e2, List.map_append]; rfl
    have f2 : snds (ps.take (k + 1)) = snds (ps.take k) ++ [(ps[k]'(by omega)).2] := by unfold snds; rw [e2, List.map_append]; rfl
    have n1 : (fsts (ps.take k)).length = k := by unfold fsts; rw [List.length_map, el]
    have n2 : (snds (ps.take k)).length = k := by unfold snds; rw [List.length_map, el]
    rw [bl_snoc, List.foldl_append, back_fold ps m k (by omega), f1, f2, comb_snoc, comb_snoc, n1, n2]
    by_cases q : m.testBit k = true
    · rw [if_pos q, if_pos q, if_pos q, ← eg]; rfl
    · rw [if_neg q, if_neg q, if_neg q, Nat.xor_zero, Nat.xor_zero]; rfl
/-- the rows that hand one sign in -/
def signAt (which t : Nat) : Nat := if t = 0 then 2 ^ which else 0
def signRows (which turns : Nat) : List Nat := (List.range turns).map (signAt which)
theorem signRows_eq (which turns : Nat) : cutT ([2 ^ which] ++ (List.replicate turns [0]).flatten) none (some turns) = signRows which turns := by
  have e0 : ∀ n : Nat, (List.replicate n [0]).flatten = List.replicate n (0 : Nat) := fun n => by
    induction n with
    | zero => rfl
    | succ n ih => rw [List.replicate_succ, List.flatten_cons, ih, List.replicate_succ]; rfl
  show List.take turns _ = _
  rw [e0]
  cases turns with
  | zero => rfl
  | succ k =>
    unfold signRows
    rw [List.range_succ_eq_map, List.map_cons, List.map_map]
    show List.take (k + 1) (2 ^ which :: List.replicate (k + 1) 0) = _
    rw [List.take_succ_cons, List.take_replicate, Nat.min_eq_left (Nat.le_succ k)]
    show _ = 2 ^ which :: _
    congr 1
    refine List.ext_getElem (by simp) fun i h1 h2 => ?_
    simp [signAt]
theorem signRows_lt {which turns i : Nat} (h : which < i) : ∀ r ∈ signRows which turns, r < 2 ^ i := fun r hr => by
  obtain ⟨t, _, e⟩ := List.mem_map.mp (show r ∈ List.map _ _ from hr)
  rw [← e]; unfold signAt
  by_cases q : t = 0
  · rw [if_pos q]; exact Nat.pow_lt_pow_right (by decide) h
  · rw [if_neg q]; exact Nat.two_pow_pos _
theorem signRows_len (which turns : Nat) : (signRows which turns).length = turns := by unfold signRows; rw [List.length_map, List.length_range]
end Wk
/-! Rg: a linear turn over and over, polynomials of it. -/
namespace Wk
/-- v behind i turns -/
def itV (f : Nat → Nat) (v : Nat) : Nat → Nat
  | 0 => v
  | i + 1 => f (itV f v i)
theorem itV_add (f : Nat → Nat) (v a : Nat) : ∀ b, itV f v (a + b) = itV f (itV f v a) b
  | 0 => rfl
  | b + 1 => by show f (itV f v (a + b)) = f (itV f (itV f v a) b); rw [itV_add f v a b]
theorem itV_succ (f : Nat → Nat) (v : Nat) (b : Nat) : itV f v (b + 1) = itV f (f v) b := by rw [Nat.add_comm, itV_add]; rfl
structure Lin (f : Nat → Nat) : Prop where
  z : f 0 = 0
  x : ∀ a b, f (a ^^^ b) = f a ^^^ f b
theorem Lin.it {f : Nat → Nat} (h : Lin f) (i : Nat) : Lin (fun v => itV f v i) := by
  induction i with
  | zero => exact ⟨rfl, fun _ _ => rfl⟩
  | succ i ih => exact ⟨by show f (itV f 0 i) = 0; rw [show itV f 0 i = 0 from ih.z, h.z], fun a b => by show f (itV f (a ^^^ b) i) = f (itV f a i) ^^^ f (itV f b i); rw [show itV f (a ^^^ b) i = itV f a i ^^^ itV f b i from ih.x a b, h.x]⟩
/-- a polynomial of the turn, at v -/
def pa (f : Nat → Nat) (v q : Nat) : Nat := if h : q = 0 then 0 else (if q.testBit 0 = true then v else 0) ^^^ pa f (f v) (q / 2)
termination_by q
decreasing_by omega
theorem pa_zero (f : Nat → Nat) (v : Nat) : pa f v 0 = 0 := by rw [pa]; simp
theorem pa_step (f : Nat → Nat) (v q : Nat) : pa f v q = (if q.testBit 0 = true then v else 0) ^^^ pa f (f v) (q / 2) := by
  by_cases h : q = 0
  · subst h; rw [Nat.zero_div, pa_zero, pa_zero, Nat.zero_testBit, if_neg (by simp)]; rfl
  · rw [pa, dif_neg h]
section
variable {f : Nat → Nat}
theorem pa_lin0 (h : Lin f) : ∀ q : Nat, pa f 0 q = 0 := by
  intro q
  induction q using Nat.strongRecOn with
  | ind q ih =>
    by_cases z : q = 0
    · subst z; exact pa_zero f 0
    · rw [pa_step, h.z, ih (q / 2) (by omega), ite_self]; rfl
theorem pa_linx (h : Lin f) : ∀ (q a b : Nat), pa f (a ^^^ b) q = pa f a q ^^^ pa f b q := by
  intro q
  induction q using Nat.strongRecOn with
  | ind q ih =>
    intro a b
    by_cases z : q = 0
    · subst z; rw [pa_zero, pa_zero, pa_zero]; rfl
    · rw [pa_step f (a ^^^ b), pa_step f a, pa_step f b, h.x, ih (q / 2) (by omega)]
      by_cases c : q.testBit 0 = true
      · rw [if_pos c, if_pos c, if_pos c, xor_swap]
      · rw [if_neg c, if_neg c, if_neg c, Nat.zero_xor, Nat.zero_xor, Nat.zero_xor]
theorem pa_xor : ∀ (p q v : Nat), pa f v (p ^^^ q) = pa f v p ^^^ pa f v q := by
  intro p
  induction p using Nat.strongRecOn with
  | ind p ih =>
    intro q v
    by_cases z : p = 0
    · subst z; rw [Nat.zero_xor, pa_zero, Nat.zero_xor]
    · rw [pa_step f v (p ^^^ q), pa_step f v p, pa_step f v q, half_xor, ih (p / 2) (by omega), Nat.testBit_xor]
      cases p.testBit 0 <;> cases q.testBit 0 <;> simp
      · rw [← Nat.xor_assoc, ← Nat.xor_assoc, Nat.xor_comm v (pa f (f v) (p / 2))]
      · rw [Nat.xor_assoc]
      · rw [xor_swap, Nat.xor_self, Nat.zero_xor]
theorem pa_turn (h : Lin f) : ∀ (q v : Nat), f (pa f v q) = pa f (f v) q := by
  intro q
  induction q using Nat.strongRecOn with
  | ind q ih =>
    intro v
    by_cases z : q = 0
    · subst z; rw [pa_zero, pa_zero, h.z]
    · rw [pa_step f v q, pa_step f (f v) q, h.x, ih (q / 2) (by omega)]
      by_cases c : q.testBit 0 = true
      · rw [if_pos c, if_pos c]
      · rw [if_neg c, if_neg c, h.z]
theorem pa_two (v q : Nat) : pa f v (2 * q) = pa f (f v) q := by
  have e1 : (2 * q).testBit 0 = false := by rw [Nat.testBit_zero]; exact decide_eq_false (by omega)
  have e2 : 2 * q / 2 = q := by omega
  rw [pa_step, e1, e2, if_neg (by simp), Nat.zero_xor]
theorem pa_pm (h : Lin f) (a : Nat) : ∀ (b v : Nat), pa f v (pm a b) = pa f (pa f v a) b := by
  intro b
  induction b using Nat.strongRecOn with
  | ind b ih =>
    intro v
    by_cases z : b = 0
    · subst z; rw [pm_zero, pa_zero, pa_zero]
    · rw [pm_half, pa_xor, pa_two, ih (b / 2) (by omega), pa_step f (pa f v a) b, pa_turn h]
      by_cases c : b.testBit 0 = true
      · rw [if_pos c, if_pos c]
      · rw [if_neg c, if_neg c, pa_zero]
theorem pa_one (v : Nat) : pa f v 1 = v := by
  rw [pa_step, if_pos (by decide), show 1 / 2 = 0 by decide, pa_zero, Nat.xor_zero]
theorem pa_pow : ∀ (i v : Nat), pa f v (2 ^ i) = itV f v i
  | 0, v => pa_one v
  | i + 1, v => by rw [Nat.pow_succ, Nat.mul_comm, pa_two, pa_pow i (f v), itV_succ]
/-- the states one behind another -/
def orb (f : Nat → Nat) (v k : Nat) : List Nat := (List.range k).map (itV f v)
theorem orb_len (v k : Nat) : (orb f v k).length = k := by unfold orb; rw [List.length_map, List.length_range]
theorem orb_snoc (v k : Nat) : orb f v (k + 1) = orb f v k ++ [itV f v k] := by unfold orb; rw [List.range_succ, List.map_append]; rfl
theorem orb_take (v : Nat) {j k : Nat} (h : j ≤ k) : (orb f v k).take j = orb f v j := by
  unfold orb
  rw [← List.map_take, List.take_range, Nat.min_eq_left h]
theorem orb_getD (v : Nat) {j k : Nat} (h : j < k) : (orb f v k).getD j 0 = itV f v j := by
  unfold orb
  rw [List.getD_eq_getElem?_getD, List.getElem?_map, List.getElem?_range h]; rfl
theorem split_top {k q : Nat} (h : q < 2 ^ (k + 1)) : q = (q % 2 ^ k) ^^^ (if q.testBit k = true then 2 ^ k else 0) := Nat.eq_of_testBit_eq fun i => by
  rw [Nat.testBit_xor, Nat.testBit_mod_two_pow]
  by_cases c : q.testBit k = true
  · rw [if_pos c, Nat.testBit_two_pow]
    by_cases o : i = k
    · subst o; rw [c]; simp
    · by_cases o2 : i < k
      · rw [decide_eq_true o2, decide_eq_false (fun z => o z.symm)]; simp
      · rw [decide_eq_false o2, decide_eq_false (fun z => o z.symm), testBit_big h (by omega)]; rfl
  · rw [if_neg c, Nat.zero_testBit]
    by_cases o2 : i < k
    · rw [decide_eq_true o2]; simp
    · rw [decide_eq_false o2]
      by_cases o : i = k
      · subst o; simpa using c
      · rw [testBit_big h (by omega)]; rfl
theorem pa_comb (v : Nat) : ∀ (k q : Nat), q < 2 ^ k → pa f v q = comb (orb f v k) q
  | 0, q, h => by
    have : q = 0 := by simpa using h
    subst this; rw [pa_zero, comb_zero]
  | k + 1, q, h => by
    have hl : q % 2 ^ k < 2 ^ k := Nat.mod_lt _ (Nat.two_pow_pos k)
    rw [orb_snoc, comb_snoc, orb_len]
    have e1 : comb (orb f v k) q = comb (orb f v k) (q % 2 ^ k) := comb_ext fun j hj => by
      rw [orb_len] at hj
      rw [Nat.testBit_mod_two_pow, decide_eq_true hj, Bool.true_and]
    rw [e1, ← pa_comb v k _ hl]
    conv => lhs; rw [split_top h]
    rw [pa_xor]
    congr 1
    by_cases c : q.testBit k = true
    · rw [if_pos c, if_pos c, pa_pow]
    · rw [if_neg c, if_neg c, pa_zero]
theorem orb_span {v k : Nat} {w : Nat} : Span (orb f v k) w ↔ ∃ q, q < 2 ^ k ∧ pa f v q = w := by
  constructor
  · rintro ⟨S, e⟩
    have hl : S % 2 ^ k < 2 ^ k := Nat.mod_lt _ (Nat.two_pow_pos k)
    refine ⟨S % 2 ^ k, hl, ?_⟩
    rw [pa_comb v k _ hl, ← e]
    exact comb_ext fun j hj => by
      rw [orb_len] at hj
      rw [Nat.testBit_mod_two_pow, decide_eq_true hj, Bool.true_and]
  · rintro ⟨q, hq, e⟩
    exact ⟨q, by rw [← pa_comb v k q hq]; exact e⟩
/-- the least polynomial that brings v to 0 -/
structure Least (f : Nat → Nat) (v mu : Nat) : Prop where
  n : mu ≠ 0
  k : pa f v mu = 0
  l : ∀ q, q ≠ 0 → bits q < bits mu → pa f v q ≠ 0
theorem least_of (v m D : Nat) (hD : D < 2 ^ m) (h : comb (orb f v m) D = itV f v m) (hn : ∀ m', m' < m → ¬ Span (orb f v m') (itV f v m')) : Least f v (D ^^^ 2 ^ m) := by
  have hb : (D ^^^ 2 ^ m).testBit m = true := by rw [Nat.testBit_xor, testBit_big hD (Nat.le_refl _), Nat.testBit_two_pow, decide_eq_true rfl]; rfl
  have ne : D ^^^ 2 ^ m ≠ 0 := fun z => by rw [z, Nat.zero_testBit] at hb; cases hb
  refine ⟨ne, ?_, fun q hq hl hz => ?_⟩
  · rw [pa_xor, pa_pow, pa_comb v m D hD, h, Nat.xor_self]
  · have h1 : D ^^^ 2 ^ m < 2 ^ (m + 1) := Nat.xor_lt_two_pow (Nat.lt_trans hD (Nat.pow_lt_pow_right (by decide) (by omega))) (Nat.pow_lt_pow_right (by decide) (by omega))
    have h2 := bits_le.mpr h1
    have hp := bits_pos hq
    have hk : bits q - 1 < m := by omega
    refine hn _ hk (orb_span.mpr ⟨q % 2 ^ (bits q - 1), Nat.mod_lt _ (Nat.two_pow_pos _), ?_⟩)
    have h3 : q < 2 ^ (bits q - 1 + 1) := by rw [Nat.sub_add_cancel hp]; exact bits_le.mp (Nat.le_refl _)
    have e := split_top h3
    rw [if_pos (bits_bit hq)] at e
    rw [e, pa_xor, pa_pow] at hz
    exact xor0 hz
theorem least_bits {v m D : Nat} (hD : D < 2 ^ m) : bits (D ^^^ 2 ^ m) = m + 1 := by
  have hb : (D ^^^ 2 ^ m).testBit m = true := by rw [Nat.testBit_xor, testBit_big hD (Nat.le_refl _), Nat.testBit_two_pow, decide_eq_true rfl]; rfl
  have h1 : D ^^^ 2 ^ m < 2 ^ (m + 1) := Nat.xor_lt_two_pow (Nat.lt_trans hD (Nat.pow_lt_pow_right (by decide) (by omega))) (Nat.pow_lt_pow_right (by decide) (by omega))
  have h2 := bits_le.mpr h1
  refine Nat.le_antisymm h2 (Nat.lt_of_not_le fun z => ?_)
  rw [testBit_big (bits_le.mp z) (Nat.le_refl _)] at hb; cases hb
end
theorem two_pow_range {n : Nat} {g : Nat → Nat} (hg : Lin g) : ∀ {x : Nat}, x < 2 ^ n → comb ((List.range n).map fun k => g (2 ^ k)) x = g x := by
  induction n with
  | zero =>
    intro x h
    have : x = 0 := by simpa using h
    subst this; rw [comb_zero, hg.z]
  | succ n ih =>
    intro x h
    have hl : x % 2 ^ n < 2 ^ n := Nat.mod_lt _ (Nat.two_pow_pos n)
    rw [List.range_succ, List.map_append]
    show comb (_ ++ [g (2 ^ n)]) x = _
    rw [comb_snoc, List.length_map, List.length_range]
    have e1 : comb ((List.range n).map fun k => g (2 ^ k)) x = comb ((List.range n).map fun k => g (2 ^ k)) (x % 2 ^ n) := comb_ext fun j hj => by
      rw [List.length_map, List.length_range] at hj
      rw [Nat.testBit_mod_two_pow, decide_eq_true hj, Bool.true_and]
    rw [e1, ih hl]
    conv => rhs; rw [split_top h]
    rw [hg.x]
    congr 1
    by_cases c : x.testBit n = true
    · rw [if_pos c, if_pos c]
    · rw [if_neg c, if_neg c, hg.z]
/-- the turn with rows 0 -/
theorem lin_bits (ps : List (Nat × Nat)) : Lin (fun s => bitsV ps s 0) := by
  have b0 : ∀ p s, bitf p s 0 = par (p.1 &&& s) := fun p s => by unfold bitf; rw [Nat.and_zero, par_zero]; simp
  constructor
  · refine Nat.eq_of_testBit_eq fun j => ?_
    rw [bitsV_bit, b0, Nat.and_zero, par_zero, Nat.zero_testBit]; simp
  · intro a b
    refine Nat.eq_of_testBit_eq fun j => ?_
    have ax : ∀ c a b : Nat, c &&& (a ^^^ b) = (c &&& a) ^^^ (c &&& b) := fun c a b => Nat.eq_of_testBit_eq fun i => by
      rw [Nat.testBit_and, Nat.testBit_xor, Nat.testBit_xor, Nat.testBit_and, Nat.testBit_and]
      cases a.testBit i <;> cases b.testBit i <;> cases c.testBit i <;> rfl
    rw [Nat.testBit_xor, bitsV_bit, bitsV_bit, bitsV_bit, b0, b0, b0, ax, par_xor]
    cases decide (j < ps.length) <;> simp
theorem itV_lt {f : Nat → Nat} {n : Nat} (hf : ∀ s, f s < 2 ^ n) {v : Nat} (hv : v < 2 ^ n) : ∀ i, itV f v i < 2 ^ n
  | 0 => hv
  | i + 1 => hf _
end Wk
/-! Ei: except .. as e, isinstance of e; walks backward; lists of any kind that are of one kind. -/
namespace Wk
open PySem L2
def tTryAs (K : PySem.W.Frag) (c : Value) (i : Nat) (tb : WX → TS) (ts : Addr → Value → Option Addr → TS) (Wout : WX) : TS := fun D σ H => tb (wAs K c i ts Wout D) D σ H
theorem a_tryAs {K : PySem.W.Frag} {c : Value} {i : Nat} {tb : WX → TS} {ts : Addr → Value → Option Addr → TS} {Wout : WX} {D : Ends} {σ : L2.St} {H : Hp} (h : tb (wAs K c i ts Wout D) D σ H) : tTryAs K c i tb ts Wout D σ H := h
theorem a_excAs {K : PySem.W.Frag} {c cls : Value} {i : Nat} {d : Option Addr} {ts : Addr → Value → Option Addr → TS} {Wout : WX} {D : Ends} {σ : L2.St} {H : Hp} (he : PySem.W.exmOne K cls c = some true)
    (h : ∀ a, H a = none → ts a cls d { nx := fun σ' H' => D.nx (σ'.set i none) H', rt := D.rt, bk := fun σ' H' => D.bk (σ'.set i none) H', ct := fun σ' H' => D.ct (σ'.set i none) H' } (σ.set i (some (.ref a))) H) : wAs K c i ts Wout D cls d σ H :=
  ⟨true, he, fun _ => h, fun q => Bool.noConfusion q⟩
theorem a_excAsO {K : PySem.W.Frag} {c cls : Value} {i : Nat} {d : Option Addr} {ts : Addr → Value → Option Addr → TS} {Wout : WX} {D : Ends} {σ : L2.St} {H : Hp} (he : PySem.W.exmOne K cls c = some false) (h : Wout cls d σ H) : wAs K c i ts Wout D cls d σ H :=
  ⟨false, he, fun q => Bool.noConfusion q, fun _ => h⟩
/-- isinstance of the exception that is held -/
def tIsE (K : PySem.W.Frag) (i : Nat) (cls : Value) (d : Option Addr) (a C : Addr) : TE := fun σ H Q => ∃ (D : Addr) (b : Bool), cls = .ref D ∧ d = none ∧ ExcC K D ∧ PySem.W.kitOne K (.ref D) (.ref C) = some b ∧ σ[i]? = some (some (.ref a)) ∧ Q (.bl b) H
theorem pe_isE {X : Cx} {a C : Addr} {oe : Obj} {cls : Value} {d : Option Addr} {pn : List (Addr × Obj)} {i : Nat} {x c : Str} {pf px pc pos : Pos} (hz : Zc cls d oe) (hf : ∃ vs, oe.data = .fields vs) (hg : Gl X "isinstance") (hm : X.mg "isinstance" = none)
    (hx : PE (X.suite a ((a, oe) :: pn)) (.Name x px) (tVar i)) (hc : Gl X c) (hcm : X.mg c = some (.ref C)) (hd : (c == ("__debug__" : Str)) = false := by decide)
    (he : starEach [.Name x px, .Name c pc] X.env = (false, eval (.Name x px) X.env) :: starEach [.Name c pc] X.env := by rfl) (he2 : starEach [.Name c pc] X.env = (false, eval (.Name c pc) X.env) :: starEach [] X.env := by rfl)
    (hpl : (backTo pos (starEach [.Name c pc] X.env)).any (·.1) = false := by rfl) :
    PE (X.suite a ((a, oe) :: pn)) (.Call (.Name "isinstance" pf) [.Name x px, .Name c pc] [] pos) (tIsE X.K i cls d a C) := by
  refine ⟨fun pins s σ H Q I h => ?_⟩
  obtain ⟨D, b, rfl, rfl, hC, hk, hs, q⟩ := h
  have hcl : PE (X.suite a ((a, oe) :: pn)) (.Name c pc) (tC (.ref C)) := pe_glob (X := X.suite a ((a, oe) :: pn)) hc hcm rfl hd
  have ha : PA (X.suite a ((a, oe) :: pn)) [.Name x px, .Name c pc] (tCons (tVar i) (tCons (tC (.ref C)) tNil)) := pa_cons hx (pa_cons hcl pa_nil)
  exact (pe_callB (X := X.suite a ((a, oe) :: pn)) (call_isE (X := X) (pn := pn) hC hz hf) hg hm PyProof.Rows.boot_isinstance ha (by decide) (by decide) he hpl).run pins s σ H Q I
    ⟨_, hs, _, _, b, rfl, fun u ru => (show u = Value.ref C from ru), hk, q⟩
theorem kit_own {K : PySem.W.Frag} {S T : Addr} {b : Bool} (h2 : PySem.W.isClsIn K T = true) (h3 : PySem.W.typeIn K (.ref T) = some (.type "type")) (h0 : PySem.W.subIn K (.ref S) (.ref S) = some true) (h4 : PySem.W.subIn K (.ref S) (.ref T) = some b) :
    PySem.W.kitOne K (.ref S) (.ref T) = some b := by
  have e2 : ((PySem.W.clsIn K T).isSome && PySem.W.typeIn K (.ref T) == some (.type "type")) = true := by
    have h2' : (PySem.W.clsIn K T).isSome = true := h2
    rw [h2', h3]; rfl
  show (if ((Value.ref S == Value.ref T) = true) then some true else (if ((PySem.W.clsIn K T).isSome && PySem.W.typeIn K (.ref T) == some (.type "type")) = true then PySem.W.subIn K (.ref S) (.ref T) else none)) = some b
  by_cases q : (Value.ref S == Value.ref T) = true
  · rw [if_pos q]
    have e : S = T := Value.ref.inj (beq_iff_eq.mp q)
    subst e
    rw [h0] at h4; exact h4
  · rw [if_neg q, if_pos e2]; exact h4
section
variable {α : Type} {e : Rep α} {K : PySem.W.Frag} {F H : Hp} {v : V} {xs : List α} {R : It → Hp → Prop}
/-- reversed(a list) -/
theorem src_rev (r : (pL e).r F v xs) (f : Ex F H) (k : ∀ J, TWk J F e xs.reverse → R J H) : ∃ (a : Addr) (ws : List V), [v] = [V.ref a] ∧ SqL K H a ws ∧ R (Itv K a ws.length) H := by
  obtain ⟨p, vs, rfl, hp, a⟩ := r
  refine ⟨p, vs, rfl, SqL.of (f _ _ hp), k _ ⟨_, _, by rw [List.length_reverse, ← a.len]; exact walk_rev, fun F' H' h1 h2 => SqL.of (h2 _ _ (h1 _ _ hp)), fun i H v H' F' hi h1 h2 hy => ?_⟩⟩
  obtain ⟨rfl, hv⟩ := hy
  obtain ⟨z, hz, rz⟩ := a.got hv
  refine ⟨z, F', ?_, Wf.id h2, e.mono h1 rz⟩
  rw [List.length_reverse] at hi
  rw [List.getElem?_reverse hi, ← a.len]; exact hz
/-- range(i - 1, -1, -1) -/
theorem src_down {n : Nat} {i : Int} (hi : i + 1 = (n : Int)) (hn : n < 1000000) (k : ∀ J, TWk J F pN (List.range n).reverse → R J H) : ∃ (i' j c : Int) (m : Nat), [V.int i, V.int (-1), V.int (-1)] = [.int i', .int j, .int c] ∧ RgC i' j c m ∧ R (Itc i' c m) H := by
  have e : (i - (-1)).toNat = n := by omega
  refine ⟨i, -1, -1, n, rfl, by rw [← e]; exact RgC.neg (by omega) (by omega) (by decide) (by decide), k _ ⟨fun _ => True, YFn fun m => .int (i + (m : Nat) * (-1)), ?_, fun _ _ _ _ => trivial, fun m H x H' F' hm h1 h2 hy => ?_⟩⟩
  · rw [List.length_reverse, List.length_range]; exact walk_rangeC
  · obtain ⟨rfl, rfl⟩ := hy
    rw [List.length_reverse, List.length_range] at hm
    refine ⟨n - 1 - m, F', ?_, Wf.id h2, ?_⟩
    · rw [List.getElem?_reverse (by rw [List.length_range]; exact hm), List.length_range, List.getElem?_range (by omega)]
    · show V.int _ = V.int _
      congr 1; omega
theorem all_unN : ∀ {vs : List V} {ns : List Nat}, All pA F vs (ns.map anN) → All pN F vs ns
  | [], [], _ => trivial
  | _ :: _, _ :: _, ⟨a, b⟩ => ⟨a, all_unN b⟩
  | [], _ :: _, q => q.elim
  | _ :: _, [], q => q.elim
theorem an_toLN {x : An} {ns : List Nat} (r : pA.r F v x) (h : x = An.l (ns.map anN)) : (pL pN).r F v ns := by
  subst h
  obtain ⟨p, vs, a, b, c⟩ := an_l.mp r
  exact ⟨p, vs, a, b, all_unN c⟩
end
section
variable {α β γ : Type} {e : Rep α} {f : Rep β} {g : Rep γ} {K : PySem.W.Frag} {σ : L2.St} {F H : Hp} {v : V} {x : α × β × γ} {ta : TE} {C : Addr} {a b c : Str}
theorem len_T3 (r : (pT3 e f g).r F v x) (h : Ex F H) (ha : Val ta σ H v) : Val (tCB (rLen K) (tCons ta tNil)) σ H (.int ((3 : Nat) : Int)) := by
  obtain ⟨p, u, w, y, rfl, hp, _⟩ := r
  exact v_cb1 ha fun Q k => ⟨p, _, rfl, .inr (SqT.of (h _ _ hp)), k⟩
theorem ty_T3 (r : (pT3 e f g).r F v x) (h : Ex F H) : TyX K H v (.type "tuple") := by
  obtain ⟨p, u, w, y, rfl, hp, _⟩ := r
  exact .base (.tup (h _ _ hp))
/-- what isinstance asks of an own class -/
structure ClsI (K : PySem.W.Frag) (mg : Str → Option Value) (n : Str) (C : Addr) : Prop where
  ha : PySem.W.findIn K (.ref C) "__class__" = some (some (.builtin "object.__class__"))
  hn : PySem.W.specialIn K (.builtin "object.__class__") "__get__" = some (some (.builtin "getset_descriptor.__get__"))
  ht : PySem.W.takesIn K (.builtin "object.__class__") = some true
  hm : PySem.W.mroIn K C (.type "object") = some true
  g : mg n = some (.ref C)
theorem ty_O3 {mg : Str → Option Value} {n : Str} (r : (pO3 C a b c e f g).r F v x) (h : Ex F H) (cl : Cls K C) (ci : ClsI K mg n C) : TyX K H v (.ref C) := by
  obtain ⟨p, dx, fs, rfl, hp, _⟩ := r
  exact .base (.ins (h _ _ hp) cl ci.ha ci.hn ci.ht ci.hm)
theorem v_isiC (ha : Val ta σ H v) (t : TyX K H v (.ref C)) : Val (tCB (rIsi K) (tCons ta (tCons (tC (.ref C)) tNil))) σ H (.bl true) := fun Q k => ha _ ⟨v, .ref C, .ref C, .ref C, true, rfl, .own C, t, by
  show (if ((Value.ref C == Value.ref C) = true) then some true else _) = some true
  rw [if_pos (beq_self_eq_true _)], k⟩
end
end Wk
namespace My
open PySem L2 Wk
def topS (i : Nat) : Stmt := PySem.Challenge.pw_sumwires_k76_heard_rows_and_what_bars_le.main.body.getD i (.Pass ⟨0, 0, 0, 0⟩)
structure Cz where
  Steps : Addr
  Machine : Addr
  BadMask : Addr
  BadRow : Addr
structure Tz (K : PySem.W.Frag) (mg : Str → Option Value) (cc : Cz) : Prop where
  cl_Steps : Cls K cc.Steps
  na_Steps_kept : NoAttr K cc.Steps "kept"
  na_Steps_found : NoAttr K cc.Steps "found"
  na_Steps_gone : NoAttr K cc.Steps "gone"
  cl_Machine : Cls K cc.Machine
  na_Machine_inputs : NoAttr K cc.Machine "inputs"
  na_Machine_nexts : NoAttr K cc.Machine "nexts"
  na_Machine_outs : NoAttr K cc.Machine "outs"
  xc_BadMask : XC K mg "BadMask" cc.BadMask
  xc_BadRow : XC K mg "BadRow" cc.BadRow
  gl_MOST_HEARD : ∃ u, mg "MOST_HEARD" = some u ∧ RelV (.int 40) u
  gl_MOST_INPUTS : ∃ u, mg "MOST_INPUTS" = some u ∧ RelV (.int 6) u
  gl_MOST_OUTS : ∃ u, mg "MOST_OUTS" = some u ∧ RelV (.int 6) u
  gl_MOST_STORES : ∃ u, mg "MOST_STORES" = some u ∧ RelV (.int 120) u
  ci_Machine : ClsI K mg "Machine" cc.Machine
  xm_BadRow_BadRow : PySem.W.exmOne K (.ref cc.BadRow) (.ref cc.BadRow) = some true
abbrev s_is_whole : Stmt := topS 7
/-! is_whole -/
def W_is_whole (thing1 : An) (R : Bool → Prop) : Prop := R (decide (((isA "int" thing1) = true) ∧ (¬ ((isA "bool" thing1) = true))))
def sp_is_whole (K : PySem.W.Frag) (cc : Cz) : Sp := fun vs H Q _ => ∃ (F : Hp) (v1 : V) (thing1 : An) (R : Bool → Prop), vs = [v1] ∧ Ex F H ∧ pA.r F v1 thing1 ∧ W_is_whole thing1 R ∧ ∀ z, R z → ∀ F' H', Wf F H F' H' → Q (.bl (z)) H'
abbrev N_is_whole : List Str := ["thing"]
theorem sc_is_whole : FnScope N_is_whole ["thing"] (defScope s_is_whole) := ⟨rfl, rfl, rfl, by decide +kernel, rfl, by decide +kernel, by decide +kernel⟩
theorem ok_is_whole {P : Program} {w0 : World} {K : PySem.W.Frag} {mg : Str → Option Value} {base : Heap} {f : Addr} {fd : FuncData} {cc : Cz} (T : Tz K mg cc) (FU : Fun K "is_whole" "is_whole" s_is_whole f fd) (hm : mg "is_whole" = some (.ref f)) (hb : Binds K fd ["thing"] []) (n_bool : mg "bool" = none) (n_int : mg "int" = none) (n_isinstance : mg "isinstance" = none) : Fn P w0 K mg base CX0 1 "is_whole" ["thing"] (sp_is_whole K cc) := by
  refine ⟨f, fd, FU.ok sc_is_whole (fun vs H Q E h => ?_) (fun cdv A outer s H0 vs Q E hr h => ?_), hm, FU.kp, hb⟩
  · obtain ⟨_, _, _, _, rfl, _⟩ := h; rfl
  · obtain ⟨F0, v1, thing1, R, rfl, wf, r1, hW, hQ⟩ := h
    have nd := sc_is_whole.nd
    refine ⟨(tRet (tAndV (tCB (rIsi K) (tCons (tVar 0) (tCons (tC (.ty "int")) tNil))) (tNotV (tCB (rIsi K) (tCons (tVar 0) (tCons (tC (.ty "bool")) tNil)))))), (pss_one (ps_ret (pe_and (pe_callB call_isi (by rfl) n_isinstance PyProof.Rows.boot_isinstance (pa_cons (pv 0) (pa_cons (pe_bltn (v := .ty "int") (by rfl) n_int PyProof.Rows.boot_int rfl) pa_nil))) (pe_one (pe_not (pe_callB call_isi (by rfl) n_isinstance PyProof.Rows.boot_isinstance (pa_cons (pv 0) (pa_cons (pe_bltn (v := .ty "bool") (by rfl) n_bool PyProof.Rows.boot_bool rfl) pa_nil)))))))), ?_⟩
    have w := Wf.id wf
    refine a_ret (v := (.bl (decide (((isA "int" thing1) = true) ∧ (¬ ((isA "bool" thing1) = true)))))) (vt_and (vb_of (v_isiA "int" (val_var rfl) r1 w.f) dec_tt) (fun _ => (vt_not (vb_of (v_isiA "bool" (val_var rfl) r1 w.f) dec_tt)))) ?_
    exact hQ _ hW _ _ w
abbrev s_is_mask : Stmt := topS 8
/-! is_mask -/
def W_is_mask (thing1 : An) (width1 : Nat) (R : Bool → Prop) : Prop := jn (fun kk => W_is_whole thing1 fun z1 => if z1 = true then (∃ y1 : Int, thing1 = An.i y1 ∧ (width1 < 100000000) ∧ kk (decide (((0 : Nat) : Int) ≤ y1 ∧ y1 < ((2 ^ width1 : Nat) : Int)))) else (kk false)) fun b1 => R b1
def sp_is_mask (K : PySem.W.Frag) (cc : Cz) : Sp := fun vs H Q _ => ∃ (F : Hp) (v1 : V) (thing1 : An) (width1 : Nat) (R : Bool → Prop), vs = [v1, (.int ((width1 : Nat) : Int))] ∧ Ex F H ∧ pA.r F v1 thing1 ∧ W_is_mask thing1 width1 R ∧ ∀ z, R z → ∀ F' H', Wf F H F' H' → Q (.bl (z)) H'
abbrev N_is_mask : List Str := ["thing", "width"]
theorem sc_is_mask : FnScope N_is_mask ["thing", "width"] (defScope s_is_mask) := ⟨rfl, rfl, rfl, by decide +kernel, rfl, by decide +kernel, by decide +kernel⟩
theorem ok_is_mask {P : Program} {w0 : World} {K : PySem.W.Frag} {mg : Str → Option Value} {base : Heap} {f : Addr} {fd : FuncData} {cc : Cz} (T : Tz K mg cc) (FU : Fun K "is_mask" "is_mask" s_is_mask f fd) (hm : mg "is_mask" = some (.ref f)) (hb : Binds K fd ["thing", "width"] []) (c_is_whole : Fn P w0 K mg base CX0 1 "is_whole" ["thing"] (sp_is_whole K cc)) : Fn P w0 K mg base CX0 2 "is_mask" ["thing", "width"] (sp_is_mask K cc) := by
  refine ⟨f, fd, FU.ok sc_is_mask (fun vs H Q E h => ?_) (fun cdv A outer s H0 vs Q E hr h => ?_), hm, FU.kp, hb⟩
  · obtain ⟨_, _, _, _, _, rfl, _⟩ := h; rfl
  · obtain ⟨F0, v1, thing1, width1, R, rfl, wf, r1, hW, hQ⟩ := h
    have nd := sc_is_mask.nd
    refine ⟨(tRet (tAndV (tCall (sp_is_whole K cc) [] E0 (tCons (tVar 0) tNil)) (tChain kLe kLt (tC (.int 0)) (tVar 0) (tOp kShl (tC (.int 1)) (tVar 1))))), (pss_one (ps_ret (pe_and (pe_fn c_is_whole (hr.mono (by decide)) rfl (pa_cons (pv 0) pa_nil)) (pe_one (pe_chain op_le op_lt pe_int (pv 0) (pe_op op_shlW pe_int (pv 1))))))), ?_⟩
    have w := Wf.id wf
    refine a_retE ?_
    refine e_jnV hW (fun b F' H' => b = b ∧ Wf F0 H0 F' H' ∧ Ex F0 F') ?_ ?_
    · intro N1 hN1 hW
      have gx1 : Ex F0 F0 := Ex.rfl'
      refine e_AndV ?_
      refine e_call ?_
      refine a_val (v := v1) (val_var rfl) ?_
      refine a_nil ?_
      refine ⟨F0, (v1), (thing1), _, rfl, w.f, r1, hW, ?_⟩
      intro z1 hW F1 H1 s1
      replace r1 := Rep.mono _ s1.g r1
      replace w := w.tr s1
      replace gx1 := Ex.tr gx1 s1.g
      refine bl_if ?_
      refine bb_if (fun hc1 => ?_) (fun hc1 => ?_)
      · have hW := ifP hW hc1
        obtain ⟨y1, hy1, hW⟩ := hW
        have hv1 := an_i r1 hy1
        obtain ⟨c1, hW⟩ := hW
        refine e_val (v := .bl (decide (((0 : Nat) : Int) ≤ y1 ∧ y1 < ((2 ^ width1 : Nat) : Int)))) (vb_of (v_chain (b1 := decide (((0 : Nat) : Int) ≤ y1)) (b2 := decide (y1 < ((2 ^ width1 : Nat) : Int))) (x := (.int ((0 : Nat) : Int))) (y := (.int (y1))) (z := (.int ((2 ^ width1 : Nat) : Int))) val_c (v_eq (val_var rfl) hv1) (vn_one val_c (val_var rfl) c1) (fun Q k => rv2 (c_le val_c val_c) k) (fun Q k => rv2 (c_lt val_c val_c) k)) dec_and) ?_
        exact hN1 (decide (((0 : Nat) : Int) ≤ y1 ∧ y1 < ((2 ^ width1 : Nat) : Int))) _ _ ⟨rfl, w, gx1⟩ hW
      · have hW := ifN hW hc1
        exact hN1 false _ _ ⟨rfl, w, gx1⟩ hW
    intro b1 F2 H2 hI1 hW
    obtain ⟨_, w, gx2⟩ := hI1
    have r1 := Rep.mono _ gx2 r1
    exact hQ _ hW _ _ w
abbrev s_even : Stmt := topS 9
/-! even -/
def W_even (number1 : Nat) (R : Bool → Prop) : Prop := whileW (fun (many1, number2) T => T (decide (0 < number2))) (fun (many1, number2) nx1 bk1 => ∀ many2 : Nat, many2 = many1 ^^^ (number2 &&& 1) → ∀ number3 : Nat, number3 = number2 >>> 1 → nx1 (many2, number3)) (0, number1) fun (many1, number2) => R (decide (many1 = 0))
def sp_even (K : PySem.W.Frag) (cc : Cz) : Sp := fun vs H Q _ => ∃ (F : Hp) (number1 : Nat) (R : Bool → Prop), vs = [(.int ((number1 : Nat) : Int))] ∧ Ex F H ∧ W_even number1 R ∧ ∀ z, R z → ∀ F' H', Wf F H F' H' → Q (.bl (z)) H'
abbrev N_even : List Str := ["number", "many"]
theorem sc_even : FnScope N_even ["number"] (defScope s_even) := ⟨rfl, rfl, rfl, by decide +kernel, rfl, by decide +kernel, by decide +kernel⟩
theorem ok_even {P : Program} {w0 : World} {K : PySem.W.Frag} {mg : Str → Option Value} {base : Heap} {f : Addr} {fd : FuncData} {cc : Cz} (T : Tz K mg cc) (FU : Fun K "even" "even" s_even f fd) (hm : mg "even" = some (.ref f)) (hb : Binds K fd ["number"] []) : Fn P w0 K mg base CX0 1 "even" ["number"] (sp_even K cc) := by
  refine ⟨f, fd, FU.ok sc_even (fun vs H Q E h => ?_) (fun cdv A outer s H0 vs Q E hr h => ?_), hm, FU.kp, hb⟩
  · obtain ⟨_, _, _, rfl, _⟩ := h; rfl
  · obtain ⟨F0, number1, R, rfl, wf, hW, hQ⟩ := h
    have nd := sc_even.nd
    refine ⟨(tSeq (tAsg (tC (.int 0)) (gName 1)) (tSeq (tWhile (tTest (tOp kGt (tVar 0) (tC (.int 0)))) (tSeq (tAug 1 (tOp kAnd (tVar 0) (tC (.int 1))) kXor) (tAug 0 (tC (.int 1)) kShr))) (tRet (tOp L2.rEq (tVar 1) (tC (.int 0)))))), (pss_cons (ps_set (i := 1) nd rfl (Or.inl rfl) pe_int) (pss_cons (ps_while PassesOwn.never (pt_cmpR op_gt (pv 0) pe_int (nomark _)) (pss_cons (ps_aug (i := 1) nd rfl (Or.inl rfl) (pe_op op_and (pv 0) pe_int) iop_xor) (pss_one (ps_aug (i := 0) nd rfl (Or.inl rfl) pe_int iop_shr)))) (pss_one (ps_ret (pe_cmpR op_eq (pv 1) pe_int (nomark _)))))), ?_⟩
    have w := Wf.id wf
    refine q_sq fun N1 hN1 => ?_
    refine a_asg (v := (.int ((0 : Nat) : Int))) val_c ?_
    refine hN1 _ _ ?_
    refine q_sq fun N2 hN2 => ?_
    refine w_while (S := Nat × Nat) (fun s σ' F' H' => match s with | (many1, number2) => Wf F0 H0 F' H' ∧ Ex F0 F' ∧ σ' = [some (.int ((number2 : Nat) : Int)), some (.int ((many1 : Nat) : Int))]) hW ⟨w, Ex.rfl', rfl⟩ ?_ ?_ ?_
    · intro s1 σ' F1 H1 T1 Qc1 hI1 hW hT1
      obtain ⟨many1, number2⟩ := s1
      obtain ⟨w, gx1, rfl⟩ := hI1
      refine e_ans (b := decide (0 < number2)) (t_of (vb_dec (c_gt (val_var rfl) val_c) n_lt)) ?_
      exact hT1 _ _ _ ⟨w, gx1, rfl⟩ hW
    · intro N3 Bk1 s2 σ' F2 H2 nx1 bk1 hI2 hW hN3 hB1
      obtain ⟨many1, number2⟩ := s2
      obtain ⟨w, gx2, rfl⟩ := hI2
      refine q_sq fun N4 hN4 => ?_
      obtain ⟨many2, emany1⟩ : ∃ many2 : Nat, many2 = many1 ^^^ (number2 &&& 1) := ⟨_, rfl⟩
      replace hW := hW many2 emany1
      refine a_augV (x := (.int ((many1 : Nat) : Int))) (y := (.int ((number2 &&& 1 : Nat) : Int))) (z := (.int ((many2 : Nat) : Int))) rfl (vn_and (val_var rfl) val_c) (v_eq (vn_xor val_c val_c) (by rw [emany1])) ?_
      refine hN4 _ _ ?_
      obtain ⟨number3, enumber1⟩ : ∃ number3 : Nat, number3 = number2 >>> 1 := ⟨_, rfl⟩
      replace hW := hW number3 enumber1
      refine a_augV (x := (.int ((number2 : Nat) : Int))) (y := (.int ((1 : Nat) : Int))) (z := (.int ((number3 : Nat) : Int))) rfl val_c (v_eq (vn_shr val_c val_c) (by rw [enumber1])) ?_
      exact hN3 (many2, number3) _ _ _ ⟨w, gx2, rfl⟩ hW
    · intro s3 σ' F3 H3 hI3 hW
      obtain ⟨many1, number2⟩ := s3
      obtain ⟨w, gx3, rfl⟩ := hI3
      refine hN2 _ _ ?_
      refine a_ret (v := (.bl (decide (many1 = 0)))) (vb_dec (c_eqI (val_var rfl) val_c) n_eq) ?_
      exact hQ _ hW _ _ w
abbrev s_bits_of : Stmt := topS 10
/-! bits_of -/
def W_bits_of (mask1 : Nat) (R : (List Nat) → Prop) : Prop := whileW (fun (found1, mask2, place1) T => T (decide (0 < mask2))) (fun (found1, mask2, place1) nx1 bk1 => jn (fun kk => if (mask2 &&& 1) = 1 then ((found1.length < 1000000) ∧ kk (found1 ++ [place1])) else (kk found1)) fun found2 => ∀ mask3 : Nat, mask3 = mask2 >>> 1 → ∀ place2 : Nat, place2 = place1 + 1 → nx1 (found2, mask3, place2)) (([] : List Nat), mask1, 0) fun (found1, mask2, place1) => R found1
def sp_bits_of (K : PySem.W.Frag) (cc : Cz) : Sp := fun vs H Q _ => ∃ (F : Hp) (mask1 : Nat) (R : (List Nat) → Prop), vs = [(.int ((mask1 : Nat) : Int))] ∧ Ex F H ∧ W_bits_of mask1 R ∧ ∀ z, R z → ∀ p F' H', Wf F H F' H' → XL pN H F' H' p z → Q (.ref p) H'
abbrev N_bits_of : List Str := ["mask", "found", "place"]
theorem sc_bits_of : FnScope N_bits_of ["mask"] (defScope s_bits_of) := ⟨rfl, rfl, rfl, by decide +kernel, rfl, by decide +kernel, by decide +kernel⟩
theorem ok_bits_of {P : Program} {w0 : World} {K : PySem.W.Frag} {mg : Str → Option Value} {base : Heap} {f : Addr} {fd : FuncData} {cc : Cz} (T : Tz K mg cc) (FU : Fun K "bits_of" "bits_of" s_bits_of f fd) (hm : mg "bits_of" = some (.ref f)) (hb : Binds K fd ["mask"] []) : Fn P w0 K mg base CX0 1 "bits_of" ["mask"] (sp_bits_of K cc) := by
  refine ⟨f, fd, FU.ok sc_bits_of (fun vs H Q E h => ?_) (fun cdv A outer s H0 vs Q E hr h => ?_), hm, FU.kp, hb⟩
  · obtain ⟨_, _, _, rfl, _⟩ := h; rfl
  · obtain ⟨F0, mask1, R, rfl, wf, hW, hQ⟩ := h
    have nd := sc_bits_of.nd
    refine ⟨(tSeq (tAsg (tLst tNil) (gName 1)) (tSeq (tAsg (tC (.int 0)) (gName 2)) (tSeq (tWhile (tTest (tOp kGt (tVar 0) (tC (.int 0)))) (tSeq (tIfS (tTest (tOp L2.rEq (tOp kAnd (tVar 0) (tC (.int 1))) (tC (.int 1)))) (tDrop (tBM K "list" rAppend (tVar 1) (tCons (tVar 2) tNil))) tNext) (tSeq (tAug 0 (tC (.int 1)) kShr) (tAug 2 (tC (.int 1)) kAdd)))) (tRet (tVar 1))))), (pss_cons (ps_set (i := 1) nd rfl (Or.inl rfl) (pe_lst pa_nil)) (pss_cons (ps_set (i := 2) nd rfl (Or.inl rfl) pe_int) (pss_cons (ps_while PassesOwn.never (pt_cmpR op_gt (pv 0) pe_int (nomark _)) (pss_cons (ps_if (pt_cmpR op_eq (pe_op op_and (pv 0) pe_int) pe_int (nomark _)) (pss_one (ps_expr (pe_bm PySem.F.plainAttrs_list PySem.F.slot_list_append PySem.F.type_list_append mt_append (pv 1) (pa_cons (pv 2) pa_nil)))) pss_nil) (pss_cons (ps_aug (i := 0) nd rfl (Or.inl rfl) pe_int iop_shr) (pss_one (ps_aug (i := 2) nd rfl (Or.inl rfl) pe_int iop_add))))) (pss_one (ps_ret (pv 1)))))), ?_⟩
    have w := Wf.id wf
    refine q_sq fun N1 hN1 => ?_
    refine a_asgE ?_
    refine e_lst ?_
    refine a_nil ?_
    refine n_lstX (e := pN) (xs := []) (vs := []) (show All pN _ [] [] from trivial) (show 0 < 1000000 from by decide) w ?_
    intro p1 H1 hp1 s1 x1
    replace w := w.tr s1
    refine hN1 _ _ ?_
    refine q_sq fun N2 hN2 => ?_
    refine a_asg (v := (.int ((0 : Nat) : Int))) val_c ?_
    refine hN2 _ _ ?_
    refine q_sq fun N3 hN3 => ?_
    refine w_while (S := List Nat × Nat × Nat) (fun s σ' F' H' => match s with | (found1, mask2, place1) => Wf F0 H0 F' H' ∧ Ex F0 F' ∧ σ' = [some (.int ((mask2 : Nat) : Int)), some ((.ref p1)), some (.int ((place1 : Nat) : Int))] ∧ XL pN H0 F' H' p1 found1) hW ⟨w, Ex.rfl', rfl, x1⟩ ?_ ?_ ?_
    · intro s2 σ' F1 H2 T1 Qc1 hI1 hW hT1
      obtain ⟨found1, mask2, place1⟩ := s2
      obtain ⟨w, gx1, rfl, x2⟩ := hI1
      refine e_ans (b := decide (0 < mask2)) (t_of (vb_dec (c_gt (val_var rfl) val_c) n_lt)) ?_
      exact hT1 _ _ _ ⟨w, gx1, rfl, x2⟩ hW
    · intro N4 Bk1 s3 σ' F2 H3 nx1 bk1 hI2 hW hN4 hB1
      obtain ⟨found1, mask2, place1⟩ := s3
      obtain ⟨w, gx2, rfl, x2⟩ := hI2
      refine q_jn (S := List Nat) hW (fun found2 σ' F' H' => Wf F0 H0 F' H' ∧ Ex F2 F' ∧ σ' = [some (.int ((mask2 : Nat) : Int)), some ((.ref p1)), some (.int ((place1 : Nat) : Int))] ∧ XL pN H0 F' H' p1 found2) ?_ ?_
      · intro N5 hN5 hW
        have gx3 : Ex F2 F2 := Ex.rfl'
        refine a_ifE ?_
        refine e_ans (b := decide ((mask2 &&& 1) = 1)) (t_of (vb_dec (c_eqI (vn_and (val_var rfl) val_c) val_c) n_eq)) ?_
        refine b_if (fun hc1 => ?_) (fun hc1 => ?_)
        · have hW := ifP hW hc1
          refine a_dropE ?_
          refine m_list x2 (val_var rfl) ?_
          refine a_val (v := (.int ((place1 : Nat) : Int))) (val_var rfl) ?_
          refine a_nil ?_
          obtain ⟨c1, hW⟩ := hW
          refine a_app x2 w c1 rfl (fun H4 w1 x4 kp1 => ?_)
          replace w := w1
          exact hN5 (found1 ++ [place1]) _ _ _ ⟨w, gx3, rfl, x4⟩ hW
        · have hW := ifN hW hc1
          exact hN5 found1 _ _ _ ⟨w, gx3, rfl, x2⟩ hW
      · intro found2 σ' F3 H5 hI3 hW
        obtain ⟨w, gx4, rfl, x3⟩ := hI3
        have gx2 := Ex.tr gx2 gx4
        refine q_sq fun N6 hN6 => ?_
        obtain ⟨mask3, emask1⟩ : ∃ mask3 : Nat, mask3 = mask2 >>> 1 := ⟨_, rfl⟩
        replace hW := hW mask3 emask1
        refine a_augV (x := (.int ((mask2 : Nat) : Int))) (y := (.int ((1 : Nat) : Int))) (z := (.int ((mask3 : Nat) : Int))) rfl val_c (v_eq (vn_shr val_c val_c) (by rw [emask1])) ?_
        refine hN6 _ _ ?_
        obtain ⟨place2, eplace1⟩ : ∃ place2 : Nat, place2 = place1 + 1 := ⟨_, rfl⟩
        replace hW := hW place2 eplace1
        refine a_augV (x := (.int ((place1 : Nat) : Int))) (y := (.int ((1 : Nat) : Int))) (z := (.int ((place2 : Nat) : Int))) rfl val_c (v_eq (vn_add val_c val_c) (by rw [eplace1])) ?_
        exact hN4 (found2, mask3, place2) _ _ _ ⟨w, gx2, rfl, x3⟩ hW
    · intro s5 σ' F4 H6 hI4 hW
      obtain ⟨found1, mask2, place1⟩ := s5
      obtain ⟨w, gx5, rfl, x2⟩ := hI4
      refine hN3 _ _ ?_
      refine a_ret (v := (.ref p1)) (val_var rfl) ?_
      exact hQ _ hW _ _ _ w x2
abbrev s_mask_of : Stmt := topS 11
/-! mask_of -/
def W_mask_of (places1 : List Nat) (R : Nat → Prop) : Prop := forW places1 0 (fun place1 mask1 nx1 bk1 => (place1 < 100000000) ∧ ∀ mask2 : Nat, mask2 = mask1 ^^^ (2 ^ place1) → nx1 mask2) fun mask1 => R mask1
def sp_mask_of (K : PySem.W.Frag) (cc : Cz) : Sp := fun vs H Q _ => ∃ (F : Hp) (v1 : V) (places1 : List Nat) (R : Nat → Prop), vs = [v1] ∧ Ex F H ∧ (pL pN).r F v1 places1 ∧ W_mask_of places1 R ∧ ∀ z, R z → ∀ F' H', Wf F H F' H' → Q (.int ((z : Nat) : Int)) H'
abbrev N_mask_of : List Str := ["places", "mask", "place"]
theorem sc_mask_of : FnScope N_mask_of ["places"] (defScope s_mask_of) := ⟨rfl, rfl, rfl, by decide +kernel, rfl, by decide +kernel, by decide +kernel⟩
theorem ok_mask_of {P : Program} {w0 : World} {K : PySem.W.Frag} {mg : Str → Option Value} {base : Heap} {f : Addr} {fd : FuncData} {cc : Cz} (T : Tz K mg cc) (FU : Fun K "mask_of" "mask_of" s_mask_of f fd) (hm : mg "mask_of" = some (.ref f)) (hb : Binds K fd ["places"] []) : Fn P w0 K mg base CX0 1 "mask_of" ["places"] (sp_mask_of K cc) := by
  refine ⟨f, fd, FU.ok sc_mask_of (fun vs H Q E h => ?_) (fun cdv A outer s H0 vs Q E hr h => ?_), hm, FU.kp, hb⟩
  · obtain ⟨_, _, _, _, rfl, _⟩ := h; rfl
  · obtain ⟨F0, v1, places1, R, rfl, wf, r1, hW, hQ⟩ := h
    have nd := sc_mask_of.nd
    refine ⟨(tSeq (tAsg (tC (.int 0)) (gName 1)) (tSeq (tFor (iList K (tVar 0)) (gName 2) (tAug 1 (tOp kShl (tC (.int 1)) (tVar 2)) kXor)) (tRet (tVar 1)))), (pss_cons (ps_set (i := 1) nd rfl (Or.inl rfl) pe_int) (pss_cons (ps_for PassesOwn.never rfl (pi_list (pv 0)) (pg_name (i := 2) nd rfl (Or.inl rfl)) (pss_one (ps_aug (i := 1) nd rfl (Or.inl rfl) (pe_op op_shlW pe_int (pv 2)) iop_xor))) (pss_one (ps_ret (pv 1))))), ?_⟩
    have w := Wf.id wf
    refine q_sq fun N1 hN1 => ?_
    refine a_asg (v := (.int ((0 : Nat) : Int))) val_c ?_
    refine hN1 _ _ ?_
    refine q_sq fun N2 hN2 => ?_
    refine f_LE ?_
    refine e_val (v := v1) (val_var rfl) ?_
    refine w_forL (S := Nat) (fun mask1 σ' F' H' => ∃ (o1 : Option V), Wf F0 H0 F' H' ∧ Ex F0 F' ∧ σ' = [some v1, some (.int ((mask1 : Nat) : Int)), o1]) r1 hW ⟨_, w, Ex.rfl', rfl⟩ (fun s σ' F' H' hI => by obtain ⟨_, w', gx', _⟩ := hI; exact ⟨gx', w'.f⟩) w.f ?_ ?_
    · intro N3 Bk1 place1 u1 mask1 σ' F1 H1 nx1 bk1 hI1 hx1 ru1 hW hN3 hB1
      obtain ⟨o1, w, gx1, rfl⟩ := hI1
      have r1 := Rep.mono _ gx1 r1
      obtain rfl : u1 = (.int ((place1 : Nat) : Int)) := ru1
      refine g_name ?_
      obtain ⟨c1, hW⟩ := hW
      obtain ⟨mask2, emask1⟩ : ∃ mask2 : Nat, mask2 = mask1 ^^^ (2 ^ place1) := ⟨_, rfl⟩
      replace hW := hW mask2 emask1
      refine a_augV (x := (.int ((mask1 : Nat) : Int))) (y := (.int ((2 ^ place1 : Nat) : Int))) (z := (.int ((mask2 : Nat) : Int))) rfl (vn_one val_c (val_var rfl) c1) (v_eq (vn_xor val_c val_c) (by rw [emask1])) ?_
      exact hN3 mask2 _ _ _ ⟨_, w, gx1, rfl⟩ hW
    · intro mask1 σ' F2 H2 hI2 hW
      obtain ⟨o1, w, gx2, rfl⟩ := hI2
      have r1 := Rep.mono _ gx2 r1
      refine hN2 _ _ ?_
      refine a_ret (v := (.int ((mask1 : Nat) : Int))) (val_var rfl) ?_
      exact hQ _ hW _ _ w
abbrev s_is_pairs : Stmt := topS 16
/-! is_pairs -/
def W_is_pairs (thing1 : List (Nat × Nat)) (most1 : Nat) (stores1 : Nat) (inputs1 : Nat) (R : Bool → Prop) : Prop := if most1 < thing1.length then (R false) else (forW thing1 () (fun pair1 _ nx1 bk1 => if 2 ≠ 2 then (R false) else (jn (fun kk => W_is_mask (An.i ((pair1.1 : Nat) : Int)) stores1 fun z1 => if z1 = true then (W_is_mask (An.i ((pair1.2 : Nat) : Int)) inputs1 fun z2 => kk (!z2)) else (kk true)) fun b1 => if b1 = true then (R false) else (nx1 ()))) fun _ => R true)
def sp_is_pairs (K : PySem.W.Frag) (cc : Cz) : Sp := fun vs H Q _ => ∃ (F : Hp) (v1 : V) (thing1 : List (Nat × Nat)) (most1 : Nat) (stores1 : Nat) (inputs1 : Nat) (R : Bool → Prop), vs = [v1, (.int ((most1 : Nat) : Int)), (.int ((stores1 : Nat) : Int)), (.int ((inputs1 : Nat) : Int))] ∧ Ex F H ∧ (pL (pT2 pN pN)).r F v1 thing1 ∧ W_is_pairs thing1 most1 stores1 inputs1 R ∧ ∀ z, R z → ∀ F' H', Wf F H F' H' → Q (.bl (z)) H'
abbrev N_is_pairs : List Str := ["thing", "most", "stores", "inputs", "pair"]
theorem sc_is_pairs : FnScope N_is_pairs ["thing", "most", "stores", "inputs"] (defScope s_is_pairs) := ⟨rfl, rfl, rfl, by decide +kernel, rfl, by decide +kernel, by decide +kernel⟩
theorem ok_is_pairs {P : Program} {w0 : World} {K : PySem.W.Frag} {mg : Str → Option Value} {base : Heap} {f : Addr} {fd : FuncData} {cc : Cz} (T : Tz K mg cc) (FU : Fun K "is_pairs" "is_pairs" s_is_pairs f fd) (hm : mg "is_pairs" = some (.ref f)) (hb : Binds K fd ["thing", "most", "stores", "inputs"] []) (c_is_mask : Fn P w0 K mg base CX0 2 "is_mask" ["thing", "width"] (sp_is_mask K cc)) (n_isinstance : mg "isinstance" = none) (n_len : mg "len" = none) (n_list : mg "list" = none) (n_tuple : mg "tuple" = none) : Fn P w0 K mg base CX0 3 "is_pairs" ["thing", "most", "stores", "inputs"] (sp_is_pairs K cc) := by
  refine ⟨f, fd, FU.ok sc_is_pairs (fun vs H Q E h => ?_) (fun cdv A outer s H0 vs Q E hr h => ?_), hm, FU.kp, hb⟩
  · obtain ⟨_, _, _, _, _, _, _, rfl, _⟩ := h; rfl
  · obtain ⟨F0, v1, thing1, most1, stores1, inputs1, R, rfl, wf, r1, hW, hQ⟩ := h
    have nd := sc_is_pairs.nd
    refine ⟨(tSeq (tIfS (tOr (tNot (tB (tCB (rIsi K) (tCons (tVar 0) (tCons (tC (.ty "list")) tNil))))) (tTest (tOp kGt (tCB (Wk.rLen K) (tCons (tVar 0) tNil)) (tVar 1)))) (tRet (tC (.bl false))) tNext) (tSeq (tFor (iList K (tVar 0)) (gName 4) (tSeq (tIfS (tOr (tNot (tB (tCB (rIsi K) (tCons (tVar 4) (tCons (tC (.ty "tuple")) tNil))))) (tTest (tOp L2.rNe (tCB (Wk.rLen K) (tCons (tVar 4) tNil)) (tC (.int 2))))) (tRet (tC (.bl false))) tNext) (tIfS (tOr (tNot (tB (tCall (sp_is_mask K cc) [] E0 (tCons (tOp (L2.rIxT K) (tVar 4) (tC (.int 0))) (tCons (tVar 2) tNil))))) (tNot (tB (tCall (sp_is_mask K cc) [] E0 (tCons (tOp (L2.rIxT K) (tVar 4) (tC (.int 1))) (tCons (tVar 3) tNil)))))) (tRet (tC (.bl false))) tNext))) (tRet (tC (.bl true))))), (pss_cons (ps_if (PW.pt (pw_or (pt_not (pt_val (pe_callB call_isi (by rfl) n_isinstance PyProof.Rows.boot_isinstance (pa_cons (pv 0) (pa_cons (pe_bltn (v := .ty "list") (by rfl) n_list PyProof.Rows.boot_list rfl) pa_nil))))) (pw_or1 (pt_cmpR op_gt (pe_callB call_len_seq (by rfl) n_len PySem.boot_len (pa_cons (pv 0) pa_nil)) (pv 1) (nomark _))))) (pss_one (ps_ret pe_bl)) pss_nil) (pss_cons (ps_for PassesOwn.never rfl (pi_list (pv 0)) (pg_name (i := 4) nd rfl (Or.inl rfl)) (pss_cons (ps_if (PW.pt (pw_or (pt_not (pt_val (pe_callB call_isi (by rfl) n_isinstance PyProof.Rows.boot_isinstance (pa_cons (pv 4) (pa_cons (pe_bltn (v := .ty "tuple") (by rfl) n_tuple PyProof.Rows.boot_tuple rfl) pa_nil))))) (pw_or1 (pt_cmpR op_ne (pe_callB call_len_seq (by rfl) n_len PySem.boot_len (pa_cons (pv 4) pa_nil)) pe_int (nomark _))))) (pss_one (ps_ret pe_bl)) pss_nil) (pss_one (ps_if (PW.pt (pw_or (pt_not (pt_val (pe_fn c_is_mask (hr.mono (by decide)) rfl (pa_cons (pe_ix ix_tup (pv 4) pe_int (fun _ _ => rfl)) (pa_cons (pv 2) pa_nil))))) (pw_or1 (pt_not (pt_val (pe_fn c_is_mask (hr.mono (by decide)) rfl (pa_cons (pe_ix ix_tup (pv 4) pe_int (fun _ _ => rfl)) (pa_cons (pv 3) pa_nil)))))))) (pss_one (ps_ret pe_bl)) pss_nil)))) (pss_one (ps_ret pe_bl)))), ?_⟩
    have w := Wf.id wf
    refine q_sq fun N1 hN1 => ?_
    refine a_ifE ?_
    refine e_ans (b := decide (most1 < thing1.length)) (t_iff (p := (¬ (True)) ∨ (most1 < thing1.length)) (q := most1 < thing1.length) (t_or (t_not (t_ofB (vb_of (v_isi (b := true) (val_var rfl) (ty_L r1 w.f) (by decide +kernel)) dec_T))) (fun _ => (t_of (vb_dec (c_gt (len_L r1 w.f (val_var rfl)) (val_var rfl)) n_lt)))) (by simp)) ?_
    refine b_if (fun hc1 => ?_) (fun hc1 => ?_)
    · have hW := ifP hW hc1
      refine a_ret (v := (.bl (false))) val_c ?_
      exact hQ _ hW _ _ w
    · have hW := ifN hW hc1
      refine hN1 _ _ ?_
      refine q_sq fun N2 hN2 => ?_
      refine f_LE ?_
      refine e_val (v := v1) (val_var rfl) ?_
      refine w_forL (S := Unit) (fun _ σ' F' H' => ∃ (o1 : Option V), Wf F0 H0 F' H' ∧ Ex F0 F' ∧ σ' = [some v1, some (.int ((most1 : Nat) : Int)), some (.int ((stores1 : Nat) : Int)), some (.int ((inputs1 : Nat) : Int)), o1]) r1 hW ⟨_, w, Ex.rfl', rfl⟩ (fun s σ' F' H' hI => by obtain ⟨_, w', gx', _⟩ := hI; exact ⟨gx', w'.f⟩) w.f ?_ ?_
      · intro N3 Bk1 pair1 u1 s1 σ' F1 H1 nx1 bk1 hI1 hx1 ru1 hW hN3 hB1
        obtain ⟨o1, w, gx1, rfl⟩ := hI1
        have r1 := Rep.mono _ gx1 r1
        refine g_name ?_
        refine q_sq fun N4 hN4 => ?_
        refine a_ifE ?_
        refine e_ans (b := decide (2 ≠ 2)) (t_iff (p := (¬ (True)) ∨ (2 ≠ 2)) (q := 2 ≠ 2) (t_or (t_not (t_ofB (vb_of (v_isi (b := true) (val_var rfl) (ty_T2 ru1 w.f) (by decide +kernel)) dec_T))) (fun _ => (t_of (vb_dec (c_neI (len_T2 ru1 w.f (val_var rfl)) val_c) n_ne)))) (by simp)) ?_
        refine b_if (fun hc2 => ?_) (fun hc2 => ?_)
        · have hW := ifP hW hc2
          refine a_ret (v := (.bl (false))) val_c ?_
          exact hQ _ hW _ _ w
        · have hW := ifN hW hc2
          refine hN4 _ _ ?_
          refine a_ifE ?_
          refine e_jnT hW (fun b F' H' => b = b ∧ Wf F0 H0 F' H' ∧ Ex F1 F') ?_ ?_
          · intro N5 hN5 hW
            have gx2 : Ex F1 F1 := Ex.rfl'
            refine e_tOr ?_
            refine e_tNot ?_
            refine e_tB ?_
            refine e_call ?_
            obtain ⟨_, rfl, ix1⟩ := ix_2a (K := K) ru1 w.f
            refine a_val (v := (.int ((pair1.1 : Nat) : Int))) (ix1 (val_var rfl) val_c) ?_
            refine a_val (v := (.int ((stores1 : Nat) : Int))) (val_var rfl) ?_
            refine a_nil ?_
            refine ⟨F1, ((.int ((pair1.1 : Nat) : Int))), ((An.i ((pair1.1 : Nat) : Int))), (stores1), _, rfl, w.f, (show pA.r _ (.int ((pair1.1 : Nat) : Int)) (An.i ((pair1.1 : Nat) : Int)) from rfl), hW, ?_⟩
            intro z1 hW F2 H2 s2
            replace r1 := Rep.mono _ s2.g r1
            replace ru1 := Rep.mono _ s2.g ru1
            replace w := w.tr s2
            replace gx2 := Ex.tr gx2 s2.g
            replace gx1 := Ex.tr gx1 s2.g
            refine bl_v ?_
            refine bb_ifn (fun hc3 => ?_) (fun hc3 => ?_)
            · have hW := ifP hW hc3
              refine e_tNot ?_
              refine e_tB ?_
              refine e_call ?_
              obtain ⟨_, rfl, ix2⟩ := ix_2b (K := K) ru1 w.f
              refine a_val (v := (.int ((pair1.2 : Nat) : Int))) (ix2 (val_var rfl) val_c) ?_
              refine a_val (v := (.int ((inputs1 : Nat) : Int))) (val_var rfl) ?_
              refine a_nil ?_
              refine ⟨F2, ((.int ((pair1.2 : Nat) : Int))), ((An.i ((pair1.2 : Nat) : Int))), (inputs1), _, rfl, w.f, (show pA.r _ (.int ((pair1.2 : Nat) : Int)) (An.i ((pair1.2 : Nat) : Int)) from rfl), hW, ?_⟩
              intro z2 hW F3 H3 s3
              replace r1 := Rep.mono _ s3.g r1
              replace ru1 := Rep.mono _ s3.g ru1
              replace w := w.tr s3
              replace gx2 := Ex.tr gx2 s3.g
              replace gx1 := Ex.tr gx1 s3.g
              refine bl_v ?_
              exact hN5 (!z2) _ _ ⟨rfl, w, gx2⟩ hW
            · have hW := ifN hW hc3
              exact hN5 true _ _ ⟨rfl, w, gx2⟩ hW
          intro b1 F4 H4 hI2 hW
          obtain ⟨_, w, gx3⟩ := hI2
          have r1 := Rep.mono _ gx3 r1
          have ru1 := Rep.mono _ gx3 ru1
          have gx1 := Ex.tr gx1 gx3
          refine bb_if (fun hc4 => ?_) (fun hc4 => ?_)
          · have hW := ifP hW hc4
            refine a_ret (v := (.bl (false))) val_c ?_
            exact hQ _ hW _ _ w
          · have hW := ifN hW hc4
            exact hN3 () _ _ _ ⟨_, w, gx1, rfl⟩ hW
      · intro s4 σ' F5 H5 hI3 hW
        obtain ⟨o1, w, gx4, rfl⟩ := hI3
        have r1 := Rep.mono _ gx4 r1
        refine hN2 _ _ ?_
        refine a_ret (v := (.bl (true))) val_c ?_
        exact hQ _ hW _ _ w
abbrev s_bit_of : Stmt := topS 17
/-! bit_of -/
def W_bit_of (pair1 : Nat × Nat) (state1 : Nat) (row1 : Nat) (R : Nat → Prop) : Prop := W_even (pair1.1 &&& state1) fun z1 => W_even (pair1.2 &&& row1) fun z2 => R (Bool.toNat (decide (z1 ≠ z2)))
def sp_bit_of (K : PySem.W.Frag) (cc : Cz) : Sp := fun vs H Q _ => ∃ (F : Hp) (v1 : V) (pair1 : Nat × Nat) (state1 : Nat) (row1 : Nat) (R : Nat → Prop), vs = [v1, (.int ((state1 : Nat) : Int)), (.int ((row1 : Nat) : Int))] ∧ Ex F H ∧ (pT2 pN pN).r F v1 pair1 ∧ W_bit_of pair1 state1 row1 R ∧ ∀ z, R z → ∀ F' H', Wf F H F' H' → Q (.int ((z : Nat) : Int)) H'
abbrev N_bit_of : List Str := ["pair", "state", "row"]
theorem sc_bit_of : FnScope N_bit_of ["pair", "state", "row"] (defScope s_bit_of) := ⟨rfl, rfl, rfl, by decide +kernel, rfl, by decide +kernel, by decide +kernel⟩
theorem ok_bit_of {P : Program} {w0 : World} {K : PySem.W.Frag} {mg : Str → Option Value} {base : Heap} {f : Addr} {fd : FuncData} {cc : Cz} (T : Tz K mg cc) (FU : Fun K "bit_of" "bit_of" s_bit_of f fd) (hm : mg "bit_of" = some (.ref f)) (hb : Binds K fd ["pair", "state", "row"] []) (c_even : Fn P w0 K mg base CX0 1 "even" ["number"] (sp_even K cc)) (n_int : mg "int" = none) : Fn P w0 K mg base CX0 2 "bit_of" ["pair", "state", "row"] (sp_bit_of K cc) := by
  refine ⟨f, fd, FU.ok sc_bit_of (fun vs H Q E h => ?_) (fun cdv A outer s H0 vs Q E hr h => ?_), hm, FU.kp, hb⟩
  · obtain ⟨_, _, _, _, _, _, rfl, _⟩ := h; rfl
  · obtain ⟨F0, v1, pair1, state1, row1, R, rfl, wf, r1, hW, hQ⟩ := h
    have nd := sc_bit_of.nd
    refine ⟨(tRet (tCB rInt1 (tCons (tOp L2.rNe (tCall (sp_even K cc) [] E0 (tCons (tOp kAnd (tOp (L2.rIxT K) (tVar 0) (tC (.int 0))) (tVar 1)) tNil)) (tCall (sp_even K cc) [] E0 (tCons (tOp kAnd (tOp (L2.rIxT K) (tVar 0) (tC (.int 1))) (tVar 2)) tNil))) tNil))), (pss_one (ps_ret (pe_callTy call_int1 (by rfl) n_int PyProof.Rows.boot_int (pa_cons (pe_cmpR op_ne (pe_fn c_even (hr.mono (by decide)) rfl (pa_cons (pe_op op_and (pe_ix ix_tup (pv 0) pe_int (fun _ _ => rfl)) (pv 1)) pa_nil)) (pe_fn c_even (hr.mono (by decide)) rfl (pa_cons (pe_op op_and (pe_ix ix_tup (pv 0) pe_int (fun _ _ => rfl)) (pv 2)) pa_nil)) (nomark _)) pa_nil)))), ?_⟩
    have w := Wf.id wf
    refine a_retE ?_
    refine e_cb ?_
    refine a_cons ?_
    refine e_op ?_
    refine e_call ?_
    obtain ⟨_, rfl, ix1⟩ := ix_2a (K := K) r1 w.f
    refine a_val (v := (.int ((pair1.1 &&& state1 : Nat) : Int))) (vn_and (ix1 (val_var rfl) val_c) (val_var rfl)) ?_
    refine a_nil ?_
    refine ⟨F0, (pair1.1 &&& state1), _, rfl, w.f, hW, ?_⟩
    intro z1 hW F1 H1 s1
    replace r1 := Rep.mono _ s1.g r1
    replace w := w.tr s1
    refine e_call ?_
    obtain ⟨_, rfl, ix2⟩ := ix_2b (K := K) r1 w.f
    refine a_val (v := (.int ((pair1.2 &&& row1 : Nat) : Int))) (vn_and (ix2 (val_var rfl) val_c) (val_var rfl)) ?_
    refine a_nil ?_
    refine ⟨F1, (pair1.2 &&& row1), _, rfl, w.f, hW, ?_⟩
    intro z2 hW F2 H2 s2
    replace r1 := Rep.mono _ s2.g r1
    replace w := w.tr s2
    refine rv2 (z := .bl (decide (z1 ≠ z2))) (c_neB val_c val_c) ?_
    refine a_nil ?_
    refine rcb1 (z := (.int ((Bool.toNat (decide (z1 ≠ z2)) : Nat) : Int))) (v_intB val_c) ?_
    exact hQ _ hW _ _ w
abbrev s_bits_by : Stmt := topS 18
/-! bits_by -/
def W_bits_by (pairs1 : List (Nat × Nat)) (state1 : Nat) (row1 : Nat) (R : Nat → Prop) : Prop := forW (enumT pairs1) 0 (fun it1 found1 nx1 bk1 => W_bit_of it1.2 state1 row1 fun z1 => (NShl z1 it1.1) ∧ ∀ found2 : Nat, found2 = found1 + (z1 <<< it1.1) → nx1 found2) fun found1 => R found1
def sp_bits_by (K : PySem.W.Frag) (cc : Cz) : Sp := fun vs H Q _ => ∃ (F : Hp) (v1 : V) (pairs1 : List (Nat × Nat)) (state1 : Nat) (row1 : Nat) (R : Nat → Prop), vs = [v1, (.int ((state1 : Nat) : Int)), (.int ((row1 : Nat) : Int))] ∧ Ex F H ∧ (pTL (pT2 pN pN)).r F v1 pairs1 ∧ W_bits_by pairs1 state1 row1 R ∧ ∀ z, R z → ∀ F' H', Wf F H F' H' → Q (.int ((z : Nat) : Int)) H'
abbrev N_bits_by : List Str := ["pairs", "state", "row", "found", "place", "pair"]
theorem sc_bits_by : FnScope N_bits_by ["pairs", "state", "row"] (defScope s_bits_by) := ⟨rfl, rfl, rfl, by decide +kernel, rfl, by decide +kernel, by decide +kernel⟩
theorem ok_bits_by {P : Program} {w0 : World} {K : PySem.W.Frag} {mg : Str → Option Value} {base : Heap} {f : Addr} {fd : FuncData} {cc : Cz} (T : Tz K mg cc) (FU : Fun K "bits_by" "bits_by" s_bits_by f fd) (hm : mg "bits_by" = some (.ref f)) (hb : Binds K fd ["pairs", "state", "row"] []) (c_bit_of : Fn P w0 K mg base CX0 2 "bit_of" ["pair", "state", "row"] (sp_bit_of K cc)) (n_enumerate : mg "enumerate" = none) : Fn P w0 K mg base CX0 3 "bits_by" ["pairs", "state", "row"] (sp_bits_by K cc) := by
  refine ⟨f, fd, FU.ok sc_bits_by (fun vs H Q E h => ?_) (fun cdv A outer s H0 vs Q E hr h => ?_), hm, FU.kp, hb⟩
  · obtain ⟨_, _, _, _, _, _, rfl, _⟩ := h; rfl
  · obtain ⟨F0, v1, pairs1, state1, row1, R, rfl, wf, r1, hW, hQ⟩ := h
    have nd := sc_bits_by.nd
    refine ⟨(tSeq (tAsg (tC (.int 0)) (gName 3)) (tSeq (tFor (iEnumT K (tCons (tVar 0) tNil)) (gTup K 2 (gCons (gName 4) (gCons (gName 5) gNil))) (tAug 3 (tOp kShl (tCall (sp_bit_of K cc) [] E0 (tCons (tVar 5) (tCons (tVar 1) (tCons (tVar 2) tNil)))) (tVar 4)) kAdd)) (tRet (tVar 3)))), (pss_cons (ps_set (i := 3) nd rfl (Or.inl rfl) pe_int) (pss_cons (ps_for PassesOwn.never rfl (pi_enumT (by rfl) n_enumerate (pa_cons (pv 0) pa_nil)) (pg_tup rfl (pgs_cons (pg_name (i := 4) nd rfl (Or.inl rfl)) (pgs_cons (pg_name (i := 5) nd rfl (Or.inl rfl)) pgs_nil)) (by rfl)) (pss_one (ps_aug (i := 3) nd rfl (Or.inl rfl) (pe_op op_shlW (pe_fn c_bit_of (hr.mono (by decide)) rfl (pa_cons (pv 5) (pa_cons (pv 1) (pa_cons (pv 2) pa_nil)))) (pv 4)) iop_add))) (pss_one (ps_ret (pv 3))))), ?_⟩
    have w := Wf.id wf
    refine q_sq fun N1 hN1 => ?_
    refine a_asg (v := (.int ((0 : Nat) : Int))) val_c ?_
    refine hN1 _ _ ?_
    refine q_sq fun N2 hN2 => ?_
    refine f_J ?_
    refine a_val (v := v1) (val_var rfl) ?_
    refine a_nil ?_
    refine src_enumT r1 w.f (fun a1 T1 => ?_)
    refine w_forG (S := Nat) T1 (fun found1 σ' F' H' => ∃ (o1 : Option V) (o2 : Option V), Wf F0 H0 F' H' ∧ Ex F0 F' ∧ σ' = [some v1, some (.int ((state1 : Nat) : Int)), some (.int ((row1 : Nat) : Int)), some (.int ((found1 : Nat) : Int)), o1, o2]) hW ⟨_, _, w, Ex.rfl', rfl⟩ (fun s σ' F' H' hI => by obtain ⟨_, _, w', gx', _⟩ := hI; exact ⟨gx', w'.f⟩) w.f ?_ ?_
    · intro N3 Bk1 it1 u1 found1 σ' F1 H1 F2 H2 nx1 bk1 hI1 hx1 s2 ru1 hW hN3 hB1
      obtain ⟨o1, o2, w, gx1, rfl⟩ := hI1
      have r1 := Rep.mono _ gx1 r1
      replace r1 := Rep.mono _ s2.g r1
      replace w := w.tr s2
      replace gx1 := Ex.tr gx1 s2.g
      obtain ⟨p1, u2, u3, rfl, h1, rfl, r2⟩ := ru1
      refine ⟨p1, _, rfl, SqT.of (w.f _ _ h1), rfl, _, _, rfl, _, _, rfl, rfl, ?_⟩
      refine a_augE (x := (.int ((found1 : Nat) : Int))) rfl ?_
      refine e_op ?_
      refine e_call ?_
      refine a_val (v := u3) (val_var rfl) ?_
      refine a_val (v := (.int ((state1 : Nat) : Int))) (val_var rfl) ?_
      refine a_val (v := (.int ((row1 : Nat) : Int))) (val_var rfl) ?_
      refine a_nil ?_
      refine ⟨F2, (u3), (it1.2), (state1), (row1), _, rfl, w.f, r2, hW, ?_⟩
      intro z1 hW F3 H3 s3
      replace r1 := Rep.mono _ s3.g r1
      replace r2 := Rep.mono _ s3.g r2
      replace w := w.tr s3
      replace gx1 := Ex.tr gx1 s3.g
      refine e_val (v := (.int ((it1.1 : Nat) : Int))) (val_var rfl) ?_
      obtain ⟨c1, hW⟩ := hW
      refine rv2 (z := (.int ((z1 <<< it1.1 : Nat) : Int))) (vn_shl val_c val_c c1) ?_
      obtain ⟨found2, efound1⟩ : ∃ found2 : Nat, found2 = found1 + (z1 <<< it1.1) := ⟨_, rfl⟩
      replace hW := hW found2 efound1
      refine rv2 (z := (.int ((found2 : Nat) : Int))) (v_eq (vn_add val_c val_c) (by rw [efound1])) ?_
      exact hN3 found2 _ _ _ ⟨_, _, w, gx1, rfl⟩ hW
    · intro found1 σ' F4 H4 hI2 hW
      obtain ⟨o1, o2, w, gx2, rfl⟩ := hI2
      have r1 := Rep.mono _ gx2 r1
      refine hN2 _ _ ?_
      refine a_ret (v := (.int ((found1 : Nat) : Int))) (val_var rfl) ?_
      exact hQ _ hW _ _ w
abbrev s_Machine___init__ : Stmt := inClass (topS 19) 0
/-! Machine.__init__ -/
def W_Machine___init__ (inputs1 : Nat) (nexts1 : List (Nat × Nat)) (outs1 : List (Nat × Nat)) (R : (Nat × List (Nat × Nat) × List (Nat × Nat)) → Prop) : Prop := jn (fun kk => W_is_whole (An.i ((inputs1 : Nat) : Int)) fun z1 => if z1 = true then (kk (decide (¬ (0 ≤ inputs1 ∧ inputs1 ≤ 6)))) else (kk true)) fun b1 => if b1 = true then (False) else (jn (fun kk => W_is_pairs nexts1 120 nexts1.length inputs1 fun z2 => if z2 = true then (W_is_pairs outs1 6 nexts1.length inputs1 fun z3 => kk (!z3)) else (kk true)) fun b2 => if b2 = true then (False) else (R (inputs1, nexts1, outs1)))
def sp_Machine___init__ (K : PySem.W.Frag) (cc : Cz) : Sp := fun vs H Q _ => ∃ (F : Hp) (ob dx : Addr) (inputs1 : Nat) (v1 : V) (nexts1 : List (Nat × Nat)) (v2 : V) (outs1 : List (Nat × Nat)) (R : (Nat × List (Nat × Nat) × List (Nat × Nat)) → Prop), vs = [(.ref ob), (.int ((inputs1 : Nat) : Int)), v1, v2] ∧ H ob = some (.ins cc.Machine dx []) ∧ F ob = none ∧ Ex F H ∧ (pL (pT2 pN pN)).r F v1 nexts1 ∧ (pL (pT2 pN pN)).r F v2 outs1 ∧ W_Machine___init__ inputs1 nexts1 outs1 R ∧ ∀ z, R z → ∀ F' H', Wf F (wo H ob) F' H' → (pO3 cc.Machine "inputs" "nexts" "outs" pN (pTL (pT2 pN pN)) (pTL (pT2 pN pN))).r F' (.ref ob) z → Q .non H'
abbrev N_Machine___init__ : List Str := ["self", "inputs", "nexts", "outs"]
theorem sc_Machine___init__ : FnScope N_Machine___init__ ["self", "inputs", "nexts", "outs"] (defScope s_Machine___init__) := ⟨rfl, rfl, rfl, by decide +kernel, rfl, by decide +kernel, by decide +kernel⟩
theorem ok_Machine___init__ {P : Program} {w0 : World} {K : PySem.W.Frag} {mg : Str → Option Value} {base : Heap} {f : Addr} {fd : FuncData} {cc : Cz} (T : Tz K mg cc) (FU : Fun K "__init__" "Machine.__init__" s_Machine___init__ f fd) (hm : Mk K cc.Machine f) (hg : mg "Machine" = some (.ref cc.Machine)) (hb : Binds K fd ["self", "inputs", "nexts", "outs"] []) (c_is_whole : Fn P w0 K mg base CX0 1 "is_whole" ["thing"] (sp_is_whole K cc)) (c_is_pairs : Fn P w0 K mg base CX0 3 "is_pairs" ["thing", "most", "stores", "inputs"] (sp_is_pairs K cc)) (n_isinstance : mg "isinstance" = none) (n_len : mg "len" = none) (n_list : mg "list" = none) (n_tuple : mg "tuple" = none) : Nw P w0 K mg base CX0 4 cc.Machine "Machine" ["self", "inputs", "nexts", "outs"] (sp_Machine___init__ K cc) := by
  refine ⟨f, fd, FU.ok sc_Machine___init__ (fun vs H Q E h => ?_) (fun cdv A outer s H0 vs Q E hr h => ?_), hm, hg, hb⟩
  · obtain ⟨_, _, _, _, _, _, _, _, _, rfl, _⟩ := h; rfl
  · obtain ⟨F0, ob, dx, inputs1, v1, nexts1, v2, outs1, R, rfl, hob, nob, wf, r1, r2, hW, hQ⟩ := h
    have nd := sc_Machine___init__.nd
    refine ⟨(tSeq (tIfS (tOr (tNot (tB (tCall (sp_is_whole K cc) [] E0 (tCons (tVar 1) tNil)))) (tOr (tNot (tTest (tChain kLe kLe (tC (.int 0)) (tVar 1) (tC (.int 6))))) (tNot (tB (tCB (rIsi K) (tCons (tVar 2) (tCons (tC (.ty "list")) tNil))))))) tNever tNext) (tSeq (tIfS (tOr (tNot (tB (tCall (sp_is_pairs K cc) [] E0 (tCons (tVar 2) (tCons (tC (.int 120)) (tCons (tCB (Wk.rLen K) (tCons (tVar 2) tNil)) (tCons (tVar 1) tNil))))))) (tNot (tB (tCall (sp_is_pairs K cc) [] E0 (tCons (tVar 3) (tCons (tC (.int 6)) (tCons (tCB (Wk.rLen K) (tCons (tVar 2) tNil)) (tCons (tVar 1) tNil)))))))) tNever tNext) (tSeq (sFld K (tVar 0) (tVar 1) "inputs") (tSeq (sFld K (tVar 0) (tCB (rTupOf K) (tCons (tVar 2) tNil)) "nexts") (sFld K (tVar 0) (tCB (rTupOf K) (tCons (tVar 3) tNil)) "outs"))))), (pss_cons (ps_if (PW.pt (pw_or (pt_not (pt_val (pe_fn c_is_whole (hr.mono (by decide)) rfl (pa_cons (pv 1) pa_nil)))) (pw_or (pt_not (pt_chain op_le op_le pe_int (pv 1) (pe_globE T.gl_MOST_INPUTS rfl))) (pw_or1 (pt_not (pt_val (pe_callB call_isi (by rfl) n_isinstance PyProof.Rows.boot_isinstance (pa_cons (pv 2) (pa_cons (pe_bltn (v := .ty "list") (by rfl) n_list PyProof.Rows.boot_list rfl) pa_nil))))))))) (pss_one ps_never) pss_nil) (pss_cons (ps_if (PW.pt (pw_or (pt_not (pt_val (pe_fn c_is_pairs (hr.mono (by decide)) rfl (pa_cons (pv 2) (pa_cons (pe_globE T.gl_MOST_STORES rfl) (pa_cons (pe_callB call_len_seq (by rfl) n_len PySem.boot_len (pa_cons (pv 2) pa_nil)) (pa_cons (pv 1) pa_nil))))))) (pw_or1 (pt_not (pt_val (pe_fn c_is_pairs (hr.mono (by decide)) rfl (pa_cons (pv 3) (pa_cons (pe_globE T.gl_MOST_OUTS rfl) (pa_cons (pe_callB call_len_seq (by rfl) n_len PySem.boot_len (pa_cons (pv 2) pa_nil)) (pa_cons (pv 1) pa_nil)))))))))) (pss_one ps_never) pss_nil) (pss_cons (ps_fld (pv 0) (pv 1) rfl) (pss_cons (ps_fld (pv 0) (pe_callTy call_tuple_of (by rfl) n_tuple PyProof.Rows.boot_tuple (pa_cons (pv 2) pa_nil)) rfl) (pss_one (ps_fld (pv 0) (pe_callTy call_tuple_of (by rfl) n_tuple PyProof.Rows.boot_tuple (pa_cons (pv 3) pa_nil)) rfl)))))), ?_⟩
    have xs := Xc.start nob hob
    have w := Wf.start wf nob
    generalize hH0 : wo H0 ob = Hb at xs w hQ
    refine q_sq fun N1 hN1 => ?_
    refine a_ifE ?_
    refine e_jnT hW (fun b F' H' => b = b ∧ Wf F0 Hb F' H' ∧ Ex F0 F' ∧ Xc Hb F' H' ob (.ins cc.Machine dx [])) ?_ ?_
    · intro N2 hN2 hW
      have gx1 : Ex F0 F0 := Ex.rfl'
      refine e_tOr ?_
      refine e_tNot ?_
      refine e_tB ?_
      refine e_call ?_
      refine a_val (v := (.int ((inputs1 : Nat) : Int))) (val_var rfl) ?_
      refine a_nil ?_
      refine ⟨F0, ((.int ((inputs1 : Nat) : Int))), ((An.i ((inputs1 : Nat) : Int))), _, rfl, w.f, (show pA.r _ (.int ((inputs1 : Nat) : Int)) (An.i ((inputs1 : Nat) : Int)) from rfl), hW, ?_⟩
      intro z1 hW F1 H1 s1
      replace r1 := Rep.mono _ s1.g r1
      replace r2 := Rep.mono _ s1.g r2
      replace xs := xs.step s1
      replace w := w.tr s1
      replace gx1 := Ex.tr gx1 s1.g
      refine bl_v ?_
      refine bb_ifn (fun hc1 => ?_) (fun hc1 => ?_)
      · have hW := ifP hW hc1
        refine e_ans (b := decide (¬ (0 ≤ inputs1 ∧ inputs1 ≤ 6))) (t_iff (p := (¬ (0 ≤ inputs1 ∧ inputs1 ≤ 6)) ∨ (¬ (True))) (q := ¬ (0 ≤ inputs1 ∧ inputs1 ≤ 6)) (t_or (t_not (t_of (vb_of (v_chain (b1 := decide (0 ≤ inputs1)) (b2 := decide (inputs1 ≤ 6)) (x := (.int ((0 : Nat) : Int))) (y := (.int ((inputs1 : Nat) : Int))) (z := (.int ((6 : Nat) : Int))) val_c (val_var rfl) val_c (fun Q k => rv2 (vb_dec (c_le val_c val_c) n_le) k) (fun Q k => rv2 (vb_dec (c_le val_c val_c) n_le) k)) dec_and))) (fun _ => (t_not (t_ofB (vb_of (v_isi (b := true) (val_var rfl) (ty_L r1 w.f) (by decide +kernel)) dec_T))))) (by simp)) ?_
        exact hN2 (decide (¬ (0 ≤ inputs1 ∧ inputs1 ≤ 6))) _ _ ⟨rfl, w, gx1, xs⟩ hW
      · have hW := ifN hW hc1
        exact hN2 true _ _ ⟨rfl, w, gx1, xs⟩ hW
    intro b1 F2 H2 hI1 hW
    obtain ⟨_, w, gx2, x1⟩ := hI1
    have r1 := Rep.mono _ gx2 r1
    have r2 := Rep.mono _ gx2 r2
    refine bb_if (fun hc2 => ?_) (fun hc2 => ?_)
    · have hW := ifP hW hc2
      exact hW
    · have hW := ifN hW hc2
      refine hN1 _ _ ?_
      refine q_sq fun N3 hN3 => ?_
      refine a_ifE ?_
      refine e_jnT hW (fun b F' H' => b = b ∧ Wf F0 Hb F' H' ∧ Ex F2 F' ∧ Xc Hb F' H' ob (.ins cc.Machine dx [])) ?_ ?_
      · intro N4 hN4 hW
        have gx3 : Ex F2 F2 := Ex.rfl'
        refine e_tOr ?_
        refine e_tNot ?_
        refine e_tB ?_
        refine e_call ?_
        refine a_val (v := v1) (val_var rfl) ?_
        refine a_val (v := (.int ((120 : Nat) : Int))) val_c ?_
        refine a_val (v := (.int ((nexts1.length : Nat) : Int))) (len_L r1 w.f (val_var rfl)) ?_
        refine a_val (v := (.int ((inputs1 : Nat) : Int))) (val_var rfl) ?_
        refine a_nil ?_
        refine ⟨F2, (v1), (nexts1), (120), (nexts1.length), (inputs1), _, rfl, w.f, r1, hW, ?_⟩
        intro z2 hW F3 H3 s2
        replace r1 := Rep.mono _ s2.g r1
        replace r2 := Rep.mono _ s2.g r2
        replace x1 := x1.step s2
        replace w := w.tr s2
        replace gx3 := Ex.tr gx3 s2.g
        refine bl_v ?_
        refine bb_ifn (fun hc3 => ?_) (fun hc3 => ?_)
        · have hW := ifP hW hc3
          refine e_tNot ?_
          refine e_tB ?_
          refine e_call ?_
          refine a_val (v := v2) (val_var rfl) ?_
          refine a_val (v := (.int ((6 : Nat) : Int))) val_c ?_
          refine a_val (v := (.int ((nexts1.length : Nat) : Int))) (len_L r1 w.f (val_var rfl)) ?_
          refine a_val (v := (.int ((inputs1 : Nat) : Int))) (val_var rfl) ?_
          refine a_nil ?_
          refine ⟨F3, (v2), (outs1), (6), (nexts1.length), (inputs1), _, rfl, w.f, r2, hW, ?_⟩
          intro z3 hW F4 H4 s3
          replace r1 := Rep.mono _ s3.g r1
          replace r2 := Rep.mono _ s3.g r2
          replace x1 := x1.step s3
          replace w := w.tr s3
          replace gx3 := Ex.tr gx3 s3.g
          refine bl_v ?_
          exact hN4 (!z3) _ _ ⟨rfl, w, gx3, x1⟩ hW
        · have hW := ifN hW hc3
          exact hN4 true _ _ ⟨rfl, w, gx3, x1⟩ hW
      intro b2 F5 H5 hI2 hW
      obtain ⟨_, w, gx4, x2⟩ := hI2
      have r1 := Rep.mono _ gx4 r1
      have r2 := Rep.mono _ gx4 r2
      refine bb_if (fun hc4 => ?_) (fun hc4 => ?_)
      · have hW := ifP hW hc4
        exact hW
      · have hW := ifN hW hc4
        refine hN3 _ _ ?_
        refine q_sq fun N5 hN5 => ?_
        refine e_fld ?_
        refine e_val (v := (.int ((inputs1 : Nat) : Int))) (val_var rfl) ?_
        refine a_fld T.cl_Machine T.na_Machine_inputs x2 w (show 0 < 1000 from by decide) (val_var rfl) (fun H6 w1 x3 kp1 => ?_)
        replace w := w1
        replace x3 : Xc Hb F5 H6 ob (.ins cc.Machine dx [("inputs", (.int ((inputs1 : Nat) : Int)))]) := Xc.cast x3 rfl
        refine hN5 _ _ ?_
        refine q_sq fun N6 hN6 => ?_
        refine e_fld ?_
        refine e_cb ?_
        refine a_val (v := v1) (val_var rfl) ?_
        refine a_nil ?_
        refine n_tupOf r1 w ?_
        intro p1 F6 H7 s4 r3
        replace r1 := Rep.mono _ s4.g r1
        replace r2 := Rep.mono _ s4.g r2
        replace x3 := x3.step s4
        replace w := w.tr s4
        refine a_fld T.cl_Machine T.na_Machine_nexts x3 w (show 1 < 1000 from by decide) (val_var rfl) (fun H8 w2 x4 kp2 => ?_)
        replace w := w2
        replace x4 : Xc Hb F6 H8 ob (.ins cc.Machine dx [("inputs", (.int ((inputs1 : Nat) : Int))), ("nexts", (.ref p1))]) := Xc.cast x4 ((put_ne (by decide +kernel)).trans (congrArg _ rfl))
        refine hN6 _ _ ?_
        refine e_fld ?_
        refine e_cb ?_
        refine a_val (v := v2) (val_var rfl) ?_
        refine a_nil ?_
        refine n_tupOf r2 w ?_
        intro p2 F7 H9 s5 r4
        replace r1 := Rep.mono _ s5.g r1
        replace r2 := Rep.mono _ s5.g r2
        replace x4 := x4.step s5
        replace r3 := Rep.mono _ s5.g r3
        replace w := w.tr s5
        refine a_fld T.cl_Machine T.na_Machine_outs x4 w (show 2 < 1000 from by decide) (val_var rfl) (fun H10 w3 x5 kp3 => ?_)
        replace w := w3
        replace x5 : Xc Hb F7 H10 ob (.ins cc.Machine dx [("inputs", (.int ((inputs1 : Nat) : Int))), ("nexts", (.ref p1)), ("outs", (.ref p2))]) := Xc.cast x5 ((put_ne (by decide +kernel)).trans (congrArg _ ((put_ne (by decide +kernel)).trans (congrArg _ rfl))))
        obtain ⟨F8, w4, g1, h1⟩ := x5.frzE w
        exact hQ _ hW _ _ w4 ⟨ob, dx, _, rfl, h1, _, _, _, rfl, rfl, (Rep.mono _ g1 r3), (Rep.mono _ g1 r4)⟩
abbrev s_Machine_stores : Stmt := inClass (topS 19) 1
/-! Machine.stores -/
def W_Machine_stores (self1 : Nat × List (Nat × Nat) × List (Nat × Nat)) (R : Nat → Prop) : Prop := R self1.2.1.length
def sp_Machine_stores (K : PySem.W.Frag) (cc : Cz) : Sp := fun vs H Q _ => ∃ (F : Hp) (v1 : V) (self1 : Nat × List (Nat × Nat) × List (Nat × Nat)) (R : Nat → Prop), vs = [v1] ∧ Ex F H ∧ (pO3 cc.Machine "inputs" "nexts" "outs" pN (pTL (pT2 pN pN)) (pTL (pT2 pN pN))).r F v1 self1 ∧ W_Machine_stores self1 R ∧ ∀ z, R z → ∀ F' H', Wf F H F' H' → Q (.int ((z : Nat) : Int)) H'
abbrev N_Machine_stores : List Str := ["self"]
theorem sc_Machine_stores : FnScope N_Machine_stores ["self"] (defScope s_Machine_stores) := ⟨rfl, rfl, rfl, by decide +kernel, rfl, by decide +kernel, by decide +kernel⟩
theorem ok_Machine_stores {P : Program} {w0 : World} {K : PySem.W.Frag} {mg : Str → Option Value} {base : Heap} {f : Addr} {fd : FuncData} {cc : Cz} (T : Tz K mg cc) (FU : Fun K "stores" "Machine.stores" s_Machine_stores f fd) (hm : Meth K cc.Machine "stores" f) (hb : Binds K fd ["self"] []) (n_len : mg "len" = none) : Md P w0 K mg base CX0 1 cc.Machine "stores" ["self"] (sp_Machine_stores K cc) := by
  refine ⟨f, fd, FU.ok sc_Machine_stores (fun vs H Q E h => ?_) (fun cdv A outer s H0 vs Q E hr h => ?_), hm, hb⟩
  · obtain ⟨_, _, _, _, rfl, _⟩ := h; rfl
  · obtain ⟨F0, v1, self1, R, rfl, wf, r1, hW, hQ⟩ := h
    have nd := sc_Machine_stores.nd
    refine ⟨(tRet (tCB (Wk.rLen K) (tCons (tFld K (tVar 0) "nexts") tNil))), (pss_one (ps_ret (pe_callB call_len_seq (by rfl) n_len PySem.boot_len (pa_cons (pe_fld (pv 0) rfl) pa_nil)))), ?_⟩
    have w := Wf.id wf
    obtain ⟨v2, r2, fl1⟩ := fl_32 (K := K) T.cl_Machine T.na_Machine_nexts r1 w.f
    refine a_ret (v := (.int ((self1.2.1.length : Nat) : Int))) (len_TL r2 w.f (fl1 (val_var rfl))) ?_
    exact hQ _ hW _ _ w
abbrev s_Machine_outputs : Stmt := inClass (topS 19) 2
/-! Machine.outputs -/
def W_Machine_outputs (self1 : Nat × List (Nat × Nat) × List (Nat × Nat)) (R : Nat → Prop) : Prop := R self1.2.2.length
def sp_Machine_outputs (K : PySem.W.Frag) (cc : Cz) : Sp := fun vs H Q _ => ∃ (F : Hp) (v1 : V) (self1 : Nat × List (Nat × Nat) × List (Nat × Nat)) (R : Nat → Prop), vs = [v1] ∧ Ex F H ∧ (pO3 cc.Machine "inputs" "nexts" "outs" pN (pTL (pT2 pN pN)) (pTL (pT2 pN pN))).r F v1 self1 ∧ W_Machine_outputs self1 R ∧ ∀ z, R z → ∀ F' H', Wf F H F' H' → Q (.int ((z : Nat) : Int)) H'
abbrev N_Machine_outputs : List Str := ["self"]
theorem sc_Machine_outputs : FnScope N_Machine_outputs ["self"] (defScope s_Machine_outputs) := ⟨rfl, rfl, rfl, by decide +kernel, rfl, by decide +kernel, by decide +kernel⟩
theorem ok_Machine_outputs {P : Program} {w0 : World} {K : PySem.W.Frag} {mg : Str → Option Value} {base : Heap} {f : Addr} {fd : FuncData} {cc : Cz} (T : Tz K mg cc) (FU : Fun K "outputs" "Machine.outputs" s_Machine_outputs f fd) (hm : Meth K cc.Machine "outputs" f) (hb : Binds K fd ["self"] []) (n_len : mg "len" = none) : Md P w0 K mg base CX0 1 cc.Machine "outputs" ["self"] (sp_Machine_outputs K cc) := by
  refine ⟨f, fd, FU.ok sc_Machine_outputs (fun vs H Q E h => ?_) (fun cdv A outer s H0 vs Q E hr h => ?_), hm, hb⟩
  · obtain ⟨_, _, _, _, rfl, _⟩ := h; rfl
  · obtain ⟨F0, v1, self1, R, rfl, wf, r1, hW, hQ⟩ := h
    have nd := sc_Machine_outputs.nd
    refine ⟨(tRet (tCB (Wk.rLen K) (tCons (tFld K (tVar 0) "outs") tNil))), (pss_one (ps_ret (pe_callB call_len_seq (by rfl) n_len PySem.boot_len (pa_cons (pe_fld (pv 0) rfl) pa_nil)))), ?_⟩
    have w := Wf.id wf
    obtain ⟨v2, r2, fl1⟩ := fl_33 (K := K) T.cl_Machine T.na_Machine_outs r1 w.f
    refine a_ret (v := (.int ((self1.2.2.length : Nat) : Int))) (len_TL r2 w.f (fl1 (val_var rfl))) ?_
    exact hQ _ hW _ _ w
abbrev s_Machine_told : Stmt := inClass (topS 19) 3
/-! Machine.told -/
def W_Machine_told (self1 : Nat × List (Nat × Nat) × List (Nat × Nat)) (R : (Nat × List (Nat × Nat) × List (Nat × Nat)) → Prop) : Prop := R (self1.1, self1.2.1, self1.2.2)
def sp_Machine_told (K : PySem.W.Frag) (cc : Cz) : Sp := fun vs H Q _ => ∃ (F : Hp) (v1 : V) (self1 : Nat × List (Nat × Nat) × List (Nat × Nat)) (R : (Nat × List (Nat × Nat) × List (Nat × Nat)) → Prop), vs = [v1] ∧ Ex F H ∧ (pO3 cc.Machine "inputs" "nexts" "outs" pN (pTL (pT2 pN pN)) (pTL (pT2 pN pN))).r F v1 self1 ∧ W_Machine_told self1 R ∧ ∀ z, R z → ∀ v F' H', Wf F H F' H' → (pT3 pN (pL (pT2 pN pN)) (pL (pT2 pN pN))).r F' v z → Q v H'
abbrev N_Machine_told : List Str := ["self"]
theorem sc_Machine_told : FnScope N_Machine_told ["self"] (defScope s_Machine_told) := ⟨rfl, rfl, rfl, by decide +kernel, rfl, by decide +kernel, by decide +kernel⟩
theorem ok_Machine_told {P : Program} {w0 : World} {K : PySem.W.Frag} {mg : Str → Option Value} {base : Heap} {f : Addr} {fd : FuncData} {cc : Cz} (T : Tz K mg cc) (FU : Fun K "told" "Machine.told" s_Machine_told f fd) (hm : Meth K cc.Machine "told" f) (hb : Binds K fd ["self"] []) (n_list : mg "list" = none) : Md P w0 K mg base CX0 1 cc.Machine "told" ["self"] (sp_Machine_told K cc) := by
  refine ⟨f, fd, FU.ok sc_Machine_told (fun vs H Q E h => ?_) (fun cdv A outer s H0 vs Q E hr h => ?_), hm, hb⟩
  · obtain ⟨_, _, _, _, rfl, _⟩ := h; rfl
  · obtain ⟨F0, v1, self1, R, rfl, wf, r1, hW, hQ⟩ := h
    have nd := sc_Machine_told.nd
    refine ⟨(tRet (tTup (tCons (tFld K (tVar 0) "inputs") (tCons (tCB (rListOf K) (tCons (tFld K (tVar 0) "nexts") tNil)) (tCons (tCB (rListOf K) (tCons (tFld K (tVar 0) "outs") tNil)) tNil))))), (pss_one (ps_ret (pe_tup (pa_cons (pe_fld (pv 0) rfl) (pa_cons (pe_callTy call_list_of (by rfl) n_list PyProof.Rows.boot_list (pa_cons (pe_fld (pv 0) rfl) pa_nil)) (pa_cons (pe_callTy call_list_of (by rfl) n_list PyProof.Rows.boot_list (pa_cons (pe_fld (pv 0) rfl) pa_nil)) pa_nil)))))), ?_⟩
    have w := Wf.id wf
    refine a_retE ?_
    refine e_tup ?_
    obtain ⟨_, rfl, fl1⟩ := fl_31 (K := K) T.cl_Machine T.na_Machine_inputs r1 w.f
    refine a_val (v := (.int ((self1.1 : Nat) : Int))) (fl1 (val_var rfl)) ?_
    refine a_cons ?_
    refine e_cb ?_
    obtain ⟨v3, r3, fl2⟩ := fl_32 (K := K) T.cl_Machine T.na_Machine_nexts r1 w.f
    refine a_val (v := v3) (fl2 (val_var rfl)) ?_
    refine a_nil ?_
    refine n_listXT r3 w ?_
    intro p1 H1 hp1 s1 x1
    replace r1 := Rep.mono _ s1.g r1
    replace r3 := Rep.mono _ s1.g r3
    replace w := w.tr s1
    refine a_cons ?_
    refine e_cb ?_
    obtain ⟨v4, r4, fl3⟩ := fl_33 (K := K) T.cl_Machine T.na_Machine_outs r1 w.f
    refine a_val (v := v4) (fl3 (val_var rfl)) ?_
    refine a_nil ?_
    refine n_listXT r4 w ?_
    intro p2 H2 hp2 s2 x2
    have ne1 := x1.ne hp2
    replace r1 := Rep.mono _ s2.g r1
    replace r3 := Rep.mono _ s2.g r3
    replace x1 := x1.step s2
    replace r4 := Rep.mono _ s2.g r4
    replace w := w.tr s2
    refine a_nil ?_
    obtain ⟨F1, w1, g1, r5, fz1⟩ := x1.frzE w
    replace r1 := Rep.mono _ g1 r1
    replace r3 := Rep.mono _ g1 r3
    replace r4 := Rep.mono _ g1 r4
    replace x2 := x2.frzO fz1 (Ne.symm ne1) g1
    replace w := w1
    obtain ⟨F2, w2, g2, r6, fz2⟩ := x2.frzE w
    replace r1 := Rep.mono _ g2 r1
    replace r3 := Rep.mono _ g2 r3
    replace r5 := Rep.mono _ g2 r5
    replace r4 := Rep.mono _ g2 r4
    replace w := w2
    refine n_tup3 (e := pN) (f := (pL (pT2 pN pN))) (g := (pL (pT2 pN pN))) (x := self1.1) (y := self1.2.1) (z := self1.2.2) rfl r5 r6 w ?_
    intro p3 F3 H3 s3 r7
    replace r1 := Rep.mono _ s3.g r1
    replace r3 := Rep.mono _ s3.g r3
    replace r5 := Rep.mono _ s3.g r5
    replace r4 := Rep.mono _ s3.g r4
    replace r6 := Rep.mono _ s3.g r6
    replace w := w.tr s3
    exact hQ _ hW _ _ _ w r7
abbrev s_Machine_need : Stmt := inClass (topS 19) 4
/-! Machine.need -/
def W_Machine_need (self1 : Nat × List (Nat × Nat) × List (Nat × Nat)) (thing1 : An) (width1 : Nat) (E_BadMask : Prop) (R : Unit → Prop) : Prop := W_is_mask thing1 width1 fun z1 => if z1 = true then (R ()) else (E_BadMask)
def sp_Machine_need (K : PySem.W.Frag) (cc : Cz) : Sp := fun vs H Q E => ∃ (F : Hp) (v1 : V) (self1 : Nat × List (Nat × Nat) × List (Nat × Nat)) (v2 : V) (thing1 : An) (width1 : Nat) (E_BadMask : Prop) (R : Unit → Prop), vs = [v1, v2, (.int ((width1 : Nat) : Int))] ∧ Ex F H ∧ (pO3 cc.Machine "inputs" "nexts" "outs" pN (pTL (pT2 pN pN)) (pTL (pT2 pN pN))).r F v1 self1 ∧ pA.r F v2 thing1 ∧ W_Machine_need self1 thing1 width1 E_BadMask R ∧ (E_BadMask → ∀ F' H', Wf F H F' H' → E (.ref cc.BadMask) none H') ∧ ∀ z, R z → ∀ F' H', Wf F H F' H' → Q .non H'
abbrev N_Machine_need : List Str := ["self", "thing", "width"]
theorem sc_Machine_need : FnScope N_Machine_need ["self", "thing", "width"] (defScope s_Machine_need) := ⟨rfl, rfl, rfl, by decide +kernel, rfl, by decide +kernel, by decide +kernel⟩
theorem ok_Machine_need {P : Program} {w0 : World} {K : PySem.W.Frag} {mg : Str → Option Value} {base : Heap} {f : Addr} {fd : FuncData} {cc : Cz} (T : Tz K mg cc) (FU : Fun K "need" "Machine.need" s_Machine_need f fd) (hm : Meth K cc.Machine "need" f) (hb : Binds K fd ["self", "thing", "width"] []) (c_is_mask : Fn P w0 K mg base CX0 2 "is_mask" ["thing", "width"] (sp_is_mask K cc)) : Md P w0 K mg base (L2.CX P w0) 3 cc.Machine "need" ["self", "thing", "width"] (sp_Machine_need K cc) := by
  refine ⟨f, fd, FU.okX sc_Machine_need (fun vs H Q E h => ?_) (fun cdv A outer s H0 vs Q E hr h => ?_), hm, hb⟩
  · obtain ⟨_, _, _, _, _, _, _, _, rfl, _⟩ := h; rfl
  · obtain ⟨F0, v1, self1, v2, thing1, width1, E_BadMask, R, rfl, wf, r1, r2, hW, hE_BadMask, hQ⟩ := h
    have nd := sc_Machine_need.nd
    refine ⟨(tIfS (tNot (tB (tCall (sp_is_mask K cc) [] E0 (tCons (tVar 1) (tCons (tVar 2) tNil))))) (tRaise (fun cls d _ H => E cls d H) cc.BadMask) tNext), (pss_one (ps_if (pt_not (pt_val (pe_fn c_is_mask (hr.mono (by decide)) rfl (pa_cons (pv 1) (pa_cons (pv 2) pa_nil))))) (pss_one (ps_raise (W := (fun cls d _ H => E cls d H)) rfl (takes_of rfl rfl rfl rfl) (pmk_own PySem.F.excBase_ValueError T.xc_BadMask.x T.xc_BadMask.g T.xc_BadMask.k (raises_own T.xc_BadMask.b T.xc_BadMask.t) (by exact rfl)))) pss_nil)), ?_⟩
    have w := Wf.id wf
    refine a_ifE ?_
    refine e_tNot ?_
    refine e_tB ?_
    refine e_call ?_
    refine a_val (v := v2) (val_var rfl) ?_
    refine a_val (v := (.int ((width1 : Nat) : Int))) (val_var rfl) ?_
    refine a_nil ?_
    refine ⟨F0, (v2), (thing1), (width1), _, rfl, w.f, r2, hW, ?_⟩
    intro z1 hW F1 H1 s1
    replace r1 := Rep.mono _ s1.g r1
    replace r2 := Rep.mono _ s1.g r2
    replace w := w.tr s1
    refine bl_v ?_
    refine bb_ifn (fun hc1 => ?_) (fun hc1 => ?_)
    · have hW := ifP hW hc1
      exact hQ _ hW _ _ w
    · have hW := ifN hW hc1
      refine a_raise ?_
      exact hE_BadMask hW _ _ w
abbrev s_Machine_step : Stmt := inClass (topS 19) 5
/-! Machine.step -/
def W_Machine_step (self1 : Nat × List (Nat × Nat) × List (Nat × Nat)) (state1 : An) (row1 : An) (E_BadMask : Prop) (R : (Nat × Nat) → Prop) : Prop := W_Machine_stores self1 fun z1 => W_Machine_need self1 state1 z1 (E_BadMask) fun z2 => W_Machine_need self1 row1 self1.1 (E_BadMask) fun z3 => ∃ y1 : Nat, state1 = An.i ((y1 : Nat) : Int) ∧ ∃ y2 : Nat, row1 = An.i ((y2 : Nat) : Int) ∧ W_bits_by self1.2.2 y1 y2 fun z4 => ∃ y3 : Nat, state1 = An.i ((y3 : Nat) : Int) ∧ ∃ y4 : Nat, row1 = An.i ((y4 : Nat) : Int) ∧ W_bits_by self1.2.1 y3 y4 fun z5 => R (z4, z5)
def sp_Machine_step (K : PySem.W.Frag) (cc : Cz) : Sp := fun vs H Q E => ∃ (F : Hp) (v1 : V) (self1 : Nat × List (Nat × Nat) × List (Nat × Nat)) (v2 : V) (state1 : An) (v3 : V) (row1 : An) (E_BadMask : Prop) (R : (Nat × Nat) → Prop), vs = [v1, v2, v3] ∧ Ex F H ∧ (pO3 cc.Machine "inputs" "nexts" "outs" pN (pTL (pT2 pN pN)) (pTL (pT2 pN pN))).r F v1 self1 ∧ pA.r F v2 state1 ∧ pA.r F v3 row1 ∧ W_Machine_step self1 state1 row1 E_BadMask R ∧ (E_BadMask → ∀ F' H', Wf F H F' H' → E (.ref cc.BadMask) none H') ∧ ∀ z, R z → ∀ v F' H', Wf F H F' H' → (pT2 pN pN).r F' v z → Q v H'
abbrev N_Machine_step : List Str := ["self", "state", "row"]
theorem sc_Machine_step : FnScope N_Machine_step ["self", "state", "row"] (defScope s_Machine_step) := ⟨rfl, rfl, rfl, by decide +kernel, rfl, by decide +kernel, by decide +kernel⟩
theorem ok_Machine_step {P : Program} {w0 : World} {K : PySem.W.Frag} {mg : Str → Option Value} {base : Heap} {f : Addr} {fd : FuncData} {cc : Cz} (T : Tz K mg cc) (FU : Fun K "step" "Machine.step" s_Machine_step f fd) (hm : Meth K cc.Machine "step" f) (hb : Binds K fd ["self", "state", "row"] []) (c_Machine_stores : Md P w0 K mg base CX0 1 cc.Machine "stores" ["self"] (sp_Machine_stores K cc)) (c_Machine_need : Md P w0 K mg base (L2.CX P w0) 3 cc.Machine "need" ["self", "thing", "width"] (sp_Machine_need K cc)) (c_bits_by : Fn P w0 K mg base CX0 3 "bits_by" ["pairs", "state", "row"] (sp_bits_by K cc)) : Md P w0 K mg base (L2.CX P w0) 4 cc.Machine "step" ["self", "state", "row"] (sp_Machine_step K cc) := by
  refine ⟨f, fd, FU.okX sc_Machine_step (fun vs H Q E h => ?_) (fun cdv A outer s H0 vs Q E hr h => ?_), hm, hb⟩
  · obtain ⟨_, _, _, _, _, _, _, _, _, rfl, _⟩ := h; rfl
  · obtain ⟨F0, v1, self1, v2, state1, v3, row1, E_BadMask, R, rfl, wf, r1, r2, r3, hW, hE_BadMask, hQ⟩ := h
    have nd := sc_Machine_step.nd
    refine ⟨(tSeq (tDrop (tMdS cc.Machine "need" (sp_Machine_need K cc) (WE (fun cls d _ H => E cls d H)) (tVar 0) (tCons (tVar 1) (tCons (tMeth cc.Machine "stores" (sp_Machine_stores K cc) [] E0 (tVar 0) tNil) tNil)))) (tSeq (tDrop (tMdS cc.Machine "need" (sp_Machine_need K cc) (WE (fun cls d _ H => E cls d H)) (tVar 0) (tCons (tVar 2) (tCons (tFld K (tVar 0) "inputs") tNil)))) (tRet (tTup (tCons (tCall (sp_bits_by K cc) [] E0 (tCons (tFld K (tVar 0) "outs") (tCons (tVar 1) (tCons (tVar 2) tNil)))) (tCons (tCall (sp_bits_by K cc) [] E0 (tCons (tFld K (tVar 0) "nexts") (tCons (tVar 1) (tCons (tVar 2) tNil)))) tNil)))))), (pss_cons (ps_expr (pe_mdS (W := (fun cls d _ H => E cls d H)) c_Machine_need (takes_of rfl rfl rfl rfl) T.cl_Machine (hr.mono (by decide)) (pv 0) (pa_cons (pv 1) (pa_cons (pe_md0 c_Machine_stores T.cl_Machine (hr.mono (by decide)) (pv 0)) pa_nil)))) (pss_cons (ps_expr (pe_mdS (W := (fun cls d _ H => E cls d H)) c_Machine_need (takes_of rfl rfl rfl rfl) T.cl_Machine (hr.mono (by decide)) (pv 0) (pa_cons (pv 2) (pa_cons (pe_fld (pv 0) rfl) pa_nil)))) (pss_one (ps_ret (pe_tup (pa_cons (pe_fn c_bits_by (hr.mono (by decide)) rfl (pa_cons (pe_fld (pv 0) rfl) (pa_cons (pv 1) (pa_cons (pv 2) pa_nil)))) (pa_cons (pe_fn c_bits_by (hr.mono (by decide)) rfl (pa_cons (pe_fld (pv 0) rfl) (pa_cons (pv 1) (pa_cons (pv 2) pa_nil)))) pa_nil))))))), ?_⟩
    have w := Wf.id wf
    refine q_sq fun N1 hN1 => ?_
    refine a_dropE ?_
    refine e_mdS ?_
    refine e_val (v := v1) (val_var rfl) ?_
    obtain ⟨p1, dx1, fs1, ev1, ho1, lm1⟩ := me_3 (m := "need") r1 w.f
    refine ⟨_, _, _, ev1, ho1, lm1, ?_⟩
    refine a_val (v := v2) (val_var rfl) ?_
    refine a_cons ?_
    refine e_md ?_
    refine e_val (v := v1) (val_var rfl) ?_
    obtain ⟨p2, dx2, fs2, ev2, ho2, lm2⟩ := me_3 (m := "stores") r1 w.f
    refine ⟨_, _, _, ev2, ho2, lm2, ?_⟩
    refine a_nil ?_
    refine ⟨F0, (v1), (self1), _, rfl, w.f, r1, hW, ?_⟩
    intro z1 hW F1 H1 s1
    replace r1 := Rep.mono _ s1.g r1
    replace r2 := Rep.mono _ s1.g r2
    replace r3 := Rep.mono _ s1.g r3
    replace w := w.tr s1
    refine a_nil ?_
    refine ⟨F1, (v1), (self1), (v2), (state1), (z1), _, _, rfl, w.f, r1, r2, hW, ?_, ?_⟩
    · intro hW F2 H2 s2
      replace r1 := Rep.mono _ s2.g r1
      replace r2 := Rep.mono _ s2.g r2
      replace r3 := Rep.mono _ s2.g r3
      replace w := w.tr s2
      exact hE_BadMask hW _ _ w
    intro z2 hW F3 H3 s3
    replace r1 := Rep.mono _ s3.g r1
    replace r2 := Rep.mono _ s3.g r2
    replace r3 := Rep.mono _ s3.g r3
    replace w := w.tr s3
    refine hN1 _ _ ?_
    refine q_sq fun N2 hN2 => ?_
    refine a_dropE ?_
    refine e_mdS ?_
    refine e_val (v := v1) (val_var rfl) ?_
    obtain ⟨p3, dx3, fs3, ev3, ho3, lm3⟩ := me_3 (m := "need") r1 w.f
    refine ⟨_, _, _, ev3, ho3, lm3, ?_⟩
    refine a_val (v := v3) (val_var rfl) ?_
    obtain ⟨_, rfl, fl1⟩ := fl_31 (K := K) T.cl_Machine T.na_Machine_inputs r1 w.f
    refine a_val (v := (.int ((self1.1 : Nat) : Int))) (fl1 (val_var rfl)) ?_
    refine a_nil ?_
    refine ⟨F3, (v1), (self1), (v3), (row1), (self1.1), _, _, rfl, w.f, r1, r3, hW, ?_, ?_⟩
    · intro hW F4 H4 s4
      replace r1 := Rep.mono _ s4.g r1
      replace r2 := Rep.mono _ s4.g r2
      replace r3 := Rep.mono _ s4.g r3
      replace w := w.tr s4
      exact hE_BadMask hW _ _ w
    intro z3 hW F5 H5 s5
    replace r1 := Rep.mono _ s5.g r1
    replace r2 := Rep.mono _ s5.g r2
    replace r3 := Rep.mono _ s5.g r3
    replace w := w.tr s5
    refine hN2 _ _ ?_
    refine a_retE ?_
    refine e_tup ?_
    refine a_cons ?_
    refine e_call ?_
    obtain ⟨v5, r5, fl2⟩ := fl_33 (K := K) T.cl_Machine T.na_Machine_outs r1 w.f
    refine a_val (v := v5) (fl2 (val_var rfl)) ?_
    obtain ⟨y1, hy1, hW⟩ := hW
    have hv1 := an_i r2 hy1
    refine a_val (v := (.int ((y1 : Nat) : Int))) (v_eq (val_var rfl) hv1) ?_
    obtain ⟨y2, hy2, hW⟩ := hW
    have hv2 := an_i r3 hy2
    refine a_val (v := (.int ((y2 : Nat) : Int))) (v_eq (val_var rfl) hv2) ?_
    refine a_nil ?_
    refine ⟨F5, (v5), (self1.2.2), (y1), (y2), _, rfl, w.f, r5, hW, ?_⟩
    intro z4 hW F6 H6 s6
    replace r1 := Rep.mono _ s6.g r1
    replace r2 := Rep.mono _ s6.g r2
    replace r3 := Rep.mono _ s6.g r3
    replace r5 := Rep.mono _ s6.g r5
    replace w := w.tr s6
    refine a_cons ?_
    refine e_call ?_
    obtain ⟨v6, r6, fl3⟩ := fl_32 (K := K) T.cl_Machine T.na_Machine_nexts r1 w.f
    refine a_val (v := v6) (fl3 (val_var rfl)) ?_
    obtain ⟨y3, hy3, hW⟩ := hW
    have hv3 := an_i r2 hy3
    refine a_val (v := (.int ((y3 : Nat) : Int))) (v_eq (val_var rfl) hv3) ?_
    obtain ⟨y4, hy4, hW⟩ := hW
    have hv4 := an_i r3 hy4
    refine a_val (v := (.int ((y4 : Nat) : Int))) (v_eq (val_var rfl) hv4) ?_
    refine a_nil ?_
    refine ⟨F6, (v6), (self1.2.1), (y3), (y4), _, rfl, w.f, r6, hW, ?_⟩
    intro z5 hW F7 H7 s7
    replace r1 := Rep.mono _ s7.g r1
    replace r2 := Rep.mono _ s7.g r2
    replace r3 := Rep.mono _ s7.g r3
    replace r5 := Rep.mono _ s7.g r5
    replace r6 := Rep.mono _ s7.g r6
    replace w := w.tr s7
    refine a_nil ?_
    refine n_tup2 (e := pN) (f := pN) (x := z4) (y := z5) rfl rfl w ?_
    intro p4 F8 H8 s8 r7
    replace r1 := Rep.mono _ s8.g r1
    replace r2 := Rep.mono _ s8.g r2
    replace r3 := Rep.mono _ s8.g r3
    replace r5 := Rep.mono _ s8.g r5
    replace r6 := Rep.mono _ s8.g r6
    replace w := w.tr s8
    exact hQ _ hW _ _ _ w r7
abbrev s_Machine_walk : Stmt := inClass (topS 19) 6
/-! Machine.walk -/
def W_Machine_walk (self1 : Nat × List (Nat × Nat) × List (Nat × Nat)) (rows1 : List An) (state1 : An) (E_BadMask : Prop) (R : (List Nat × Nat) → Prop) : Prop := W_Machine_stores self1 fun z1 => W_Machine_need self1 state1 z1 (E_BadMask) fun z2 => forW rows1 () (fun row1 _ nx1 bk1 => W_Machine_need self1 row1 self1.1 (E_BadMask) fun z3 => nx1 ()) fun _ => ∃ y1 : Nat, state1 = An.i ((y1 : Nat) : Int) ∧ forW rows1 (y1, ([] : List Nat)) (fun row2 (state2, answers1) nx2 bk2 => W_Machine_step self1 (An.i ((state2 : Nat) : Int)) row2 (E_BadMask) fun z4 => (answers1.length < 1000000) ∧ nx2 (z4.2, answers1 ++ [z4.1])) fun (state2, answers1) => R (answers1, state2)
def sp_Machine_walk (K : PySem.W.Frag) (cc : Cz) : Sp := fun vs H Q E => ∃ (F : Hp) (v1 : V) (self1 : Nat × List (Nat × Nat) × List (Nat × Nat)) (v2 : V) (rows1 : List An) (v3 : V) (state1 : An) (E_BadMask : Prop) (R : (List Nat × Nat) → Prop), vs = [v1, v2, v3] ∧ Ex F H ∧ (pO3 cc.Machine "inputs" "nexts" "outs" pN (pTL (pT2 pN pN)) (pTL (pT2 pN pN))).r F v1 self1 ∧ (pL pA).r F v2 rows1 ∧ pA.r F v3 state1 ∧ W_Machine_walk self1 rows1 state1 E_BadMask R ∧ (E_BadMask → ∀ F' H', Wf F H F' H' → E (.ref cc.BadMask) none H') ∧ ∀ z, R z → ∀ (l0 : Addr) v F' H', Wf F H F' H' → (pT2 pV pN).r F' v (V.ref l0, z.2) → XL pN H F' H' l0 z.1 → Q v H'
abbrev N_Machine_walk : List Str := ["self", "rows", "state", "row", "answers", "answer"]
theorem sc_Machine_walk : FnScope N_Machine_walk ["self", "rows", "state"] (defScope s_Machine_walk) := ⟨rfl, rfl, rfl, by decide +kernel, rfl, by decide +kernel, by decide +kernel⟩
theorem ok_Machine_walk {P : Program} {w0 : World} {K : PySem.W.Frag} {mg : Str → Option Value} {base : Heap} {f : Addr} {fd : FuncData} {cc : Cz} (T : Tz K mg cc) (FU : Fun K "walk" "Machine.walk" s_Machine_walk f fd) (hm : Meth K cc.Machine "walk" f) (hb : Binds K fd ["self", "rows", "state"] []) (c_Machine_stores : Md P w0 K mg base CX0 1 cc.Machine "stores" ["self"] (sp_Machine_stores K cc)) (c_Machine_need : Md P w0 K mg base (L2.CX P w0) 3 cc.Machine "need" ["self", "thing", "width"] (sp_Machine_need K cc)) (c_Machine_step : Md P w0 K mg base (L2.CX P w0) 4 cc.Machine "step" ["self", "state", "row"] (sp_Machine_step K cc)) : Md P w0 K mg base (L2.CX P w0) 5 cc.Machine "walk" ["self", "rows", "state"] (sp_Machine_walk K cc) := by
  refine ⟨f, fd, FU.okX sc_Machine_walk (fun vs H Q E h => ?_) (fun cdv A outer s H0 vs Q E hr h => ?_), hm, hb⟩
  · obtain ⟨_, _, _, _, _, _, _, _, _, rfl, _⟩ := h; rfl
  · obtain ⟨F0, v1, self1, v2, rows1, v3, state1, E_BadMask, R, rfl, wf, r1, r2, r3, hW, hE_BadMask, hQ⟩ := h
    have nd := sc_Machine_walk.nd
    refine ⟨(tSeq (tDrop (tMdS cc.Machine "need" (sp_Machine_need K cc) (WE (fun cls d _ H => E cls d H)) (tVar 0) (tCons (tVar 2) (tCons (tMeth cc.Machine "stores" (sp_Machine_stores K cc) [] E0 (tVar 0) tNil) tNil)))) (tSeq (tFor (iList K (tVar 1)) (gName 3) (tDrop (tMdS cc.Machine "need" (sp_Machine_need K cc) (WE (fun cls d _ H => E cls d H)) (tVar 0) (tCons (tVar 3) (tCons (tFld K (tVar 0) "inputs") tNil))))) (tSeq (tAsg (tLst tNil) (gName 4)) (tSeq (tFor (iList K (tVar 1)) (gName 3) (tSeq (tAsg (tMdS cc.Machine "step" (sp_Machine_step K cc) (WE (fun cls d _ H => E cls d H)) (tVar 0) (tCons (tVar 2) (tCons (tVar 3) tNil))) (gTup K 2 (gCons (gName 5) (gCons (gName 2) gNil)))) (tDrop (tBM K "list" rAppend (tVar 4) (tCons (tVar 5) tNil))))) (tRet (tTup (tCons (tVar 4) (tCons (tVar 2) tNil)))))))), (pss_cons (ps_expr (pe_mdS (W := (fun cls d _ H => E cls d H)) c_Machine_need (takes_of rfl rfl rfl rfl) T.cl_Machine (hr.mono (by decide)) (pv 0) (pa_cons (pv 2) (pa_cons (pe_md0 c_Machine_stores T.cl_Machine (hr.mono (by decide)) (pv 0)) pa_nil)))) (pss_cons (ps_for (passes_of rfl) rfl (pi_list (pv 1)) (pg_name (i := 3) nd rfl (Or.inl rfl)) (pss_one (ps_expr (pe_mdS (W := (fun cls d _ H => E cls d H)) c_Machine_need (takes_of rfl rfl rfl rfl) T.cl_Machine (hr.mono (by decide)) (pv 0) (pa_cons (pv 3) (pa_cons (pe_fld (pv 0) rfl) pa_nil)))))) (pss_cons (ps_set (i := 4) nd rfl (Or.inl rfl) (pe_lst pa_nil)) (pss_cons (ps_for (passes_of rfl) rfl (pi_list (pv 1)) (pg_name (i := 3) nd rfl (Or.inl rfl)) (pss_cons (ps_asg (pe_mdS (W := (fun cls d _ H => E cls d H)) c_Machine_step (takes_of rfl rfl rfl rfl) T.cl_Machine (hr.mono (by decide)) (pv 0) (pa_cons (pv 2) (pa_cons (pv 3) pa_nil))) (pg_tup rfl (pgs_cons (pg_name (i := 5) nd rfl (Or.inl rfl)) (pgs_cons (pg_name (i := 2) nd rfl (Or.inl rfl)) pgs_nil)) (by rfl))) (pss_one (ps_expr (pe_bm PySem.F.plainAttrs_list PySem.F.slot_list_append PySem.F.type_list_append mt_append (pv 4) (pa_cons (pv 5) pa_nil)))))) (pss_one (ps_ret (pe_tup (pa_cons (pv 4) (pa_cons (pv 2) pa_nil))))))))), ?_⟩
    have w := Wf.id wf
    refine q_sq fun N1 hN1 => ?_
    refine a_dropE ?_
    refine e_mdS ?_
    refine e_val (v := v1) (val_var rfl) ?_
    obtain ⟨p1, dx1, fs1, ev1, ho1, lm1⟩ := me_3 (m := "need") r1 w.f
    refine ⟨_, _, _, ev1, ho1, lm1, ?_⟩
    refine a_val (v := v3) (val_var rfl) ?_
    refine a_cons ?_
    refine e_md ?_
    refine e_val (v := v1) (val_var rfl) ?_
    obtain ⟨p2, dx2, fs2, ev2, ho2, lm2⟩ := me_3 (m := "stores") r1 w.f
    refine ⟨_, _, _, ev2, ho2, lm2, ?_⟩
    refine a_nil ?_
    refine ⟨F0, (v1), (self1), _, rfl, w.f, r1, hW, ?_⟩
    intro z1 hW F1 H1 s1
    replace r1 := Rep.mono _ s1.g r1
    replace r2 := Rep.mono _ s1.g r2
    replace r3 := Rep.mono _ s1.g r3
    replace w := w.tr s1
    refine a_nil ?_
    refine ⟨F1, (v1), (self1), (v3), (state1), (z1), _, _, rfl, w.f, r1, r3, hW, ?_, ?_⟩
    · intro hW F2 H2 s2
      replace r1 := Rep.mono _ s2.g r1
      replace r2 := Rep.mono _ s2.g r2
      replace r3 := Rep.mono _ s2.g r3
      replace w := w.tr s2
      exact hE_BadMask hW _ _ w
    intro z2 hW F3 H3 s3
    replace r1 := Rep.mono _ s3.g r1
    replace r2 := Rep.mono _ s3.g r2
    replace r3 := Rep.mono _ s3.g r3
    replace w := w.tr s3
    refine hN1 _ _ ?_
    refine q_sq fun N2 hN2 => ?_
    refine f_LE ?_
    refine e_val (v := v2) (val_var rfl) ?_
    refine w_forL (S := Unit) (fun _ σ' F' H' => ∃ (o1 : Option V), Wf F0 H0 F' H' ∧ Ex F3 F' ∧ σ' = [some v1, some v2, some v3, o1, none, none]) r2 hW ⟨_, w, Ex.rfl', rfl⟩ (fun s σ' F' H' hI => by obtain ⟨_, w', gx', _⟩ := hI; exact ⟨gx', w'.f⟩) w.f ?_ ?_
    · intro N3 Bk1 row1 u1 s4 σ' F4 H4 nx1 bk1 hI1 hx1 ru1 hW hN3 hB1
      obtain ⟨o1, w, gx1, rfl⟩ := hI1
      have r1 := Rep.mono _ gx1 r1
      have r2 := Rep.mono _ gx1 r2
      have r3 := Rep.mono _ gx1 r3
      refine g_name ?_
      refine a_dropE ?_
      refine e_mdS ?_
      refine e_val (v := v1) (val_var rfl) ?_
      obtain ⟨p3, dx3, fs3, ev3, ho3, lm3⟩ := me_3 (m := "need") r1 w.f
      refine ⟨_, _, _, ev3, ho3, lm3, ?_⟩
      refine a_val (v := u1) (val_var rfl) ?_
      obtain ⟨_, rfl, fl1⟩ := fl_31 (K := K) T.cl_Machine T.na_Machine_inputs r1 w.f
      refine a_val (v := (.int ((self1.1 : Nat) : Int))) (fl1 (val_var rfl)) ?_
      refine a_nil ?_
      refine ⟨F4, (v1), (self1), (u1), (row1), (self1.1), _, _, rfl, w.f, r1, ru1, hW, ?_, ?_⟩
      · intro hW F5 H5 s5
        replace r1 := Rep.mono _ s5.g r1
        replace r2 := Rep.mono _ s5.g r2
        replace r3 := Rep.mono _ s5.g r3
        replace ru1 := Rep.mono _ s5.g ru1
        replace w := w.tr s5
        replace gx1 := Ex.tr gx1 s5.g
        exact hE_BadMask hW _ _ w
      intro z3 hW F6 H6 s6
      replace r1 := Rep.mono _ s6.g r1
      replace r2 := Rep.mono _ s6.g r2
      replace r3 := Rep.mono _ s6.g r3
      replace ru1 := Rep.mono _ s6.g ru1
      replace w := w.tr s6
      replace gx1 := Ex.tr gx1 s6.g
      exact hN3 () _ _ _ ⟨_, w, gx1, rfl⟩ hW
    · intro s7 σ' F7 H7 hI2 hW
      obtain ⟨o1, w, gx2, rfl⟩ := hI2
      have r1 := Rep.mono _ gx2 r1
      have r2 := Rep.mono _ gx2 r2
      have r3 := Rep.mono _ gx2 r3
      refine hN2 _ _ ?_
      refine q_sq fun N4 hN4 => ?_
      refine a_asgE ?_
      refine e_lst ?_
      refine a_nil ?_
      refine n_lstX (e := pN) (xs := []) (vs := []) (show All pN _ [] [] from trivial) (show 0 < 1000000 from by decide) w ?_
      intro p4 H8 hp1 s8 x1
      replace r1 := Rep.mono _ s8.g r1
      replace r2 := Rep.mono _ s8.g r2
      replace r3 := Rep.mono _ s8.g r3
      replace w := w.tr s8
      replace gx2 := Ex.tr gx2 s8.g
      refine hN4 _ _ ?_
      refine q_sq fun N5 hN5 => ?_
      obtain ⟨y1, hy1, hW⟩ := hW
      obtain rfl : v3 = .int ((y1 : Nat) : Int) := an_i r3 hy1
      refine f_LE ?_
      refine e_val (v := v2) (val_var rfl) ?_
      refine w_forL (S := Nat × List Nat) (fun s σ' F' H' => match s with | (state2, answers1) => ∃ (o2 : Option V) (o3 : Option V), Wf F0 H0 F' H' ∧ Ex F7 F' ∧ σ' = [some v1, some v2, some (.int ((state2 : Nat) : Int)), o2, some ((.ref p4)), o3] ∧ XL pN H0 F' H' p4 answers1) r2 hW ⟨_, _, w, Ex.rfl', rfl, x1⟩ (fun s σ' F' H' hI => by obtain ⟨state2, answers1⟩ := s; obtain ⟨_, _, w', gx', _⟩ := hI; exact ⟨gx', w'.f⟩) w.f ?_ ?_
      · intro N6 Bk2 row2 u2 s9 σ' F8 H9 nx2 bk2 hI3 hx2 ru2 hW hN6 hB2
        obtain ⟨state2, answers1⟩ := s9
        obtain ⟨o2, o3, w, gx3, rfl, x2⟩ := hI3
        have r1 := Rep.mono _ gx3 r1
        have r2 := Rep.mono _ gx3 r2
        have gx2 := Ex.tr gx2 gx3
        refine g_name ?_
        refine q_sq fun N7 hN7 => ?_
        refine a_asgG ?_
        refine e_mdS ?_
        refine e_val (v := v1) (val_var rfl) ?_
        obtain ⟨p5, dx4, fs4, ev4, ho4, lm4⟩ := me_3 (m := "step") r1 w.f
        refine ⟨_, _, _, ev4, ho4, lm4, ?_⟩
        refine a_val (v := (.int ((state2 : Nat) : Int))) (val_var rfl) ?_
        refine a_val (v := u2) (val_var rfl) ?_
        refine a_nil ?_
        refine ⟨F8, (v1), (self1), ((.int ((state2 : Nat) : Int))), ((An.i ((state2 : Nat) : Int))), (u2), (row2), _, _, rfl, w.f, r1, (show pA.r _ (.int ((state2 : Nat) : Int)) (An.i ((state2 : Nat) : Int)) from rfl), ru2, hW, ?_, ?_⟩
        · intro hW F9 H10 s10
          replace r1 := Rep.mono _ s10.g r1
          replace r2 := Rep.mono _ s10.g r2
          replace x2 := x2.step s10
          replace ru2 := Rep.mono _ s10.g ru2
          replace w := w.tr s10
          replace gx3 := Ex.tr gx3 s10.g
          replace gx2 := Ex.tr gx2 s10.g
          exact hE_BadMask hW _ _ w
        intro z4 hW v5 F10 H11 s11 r5
        replace r1 := Rep.mono _ s11.g r1
        replace r2 := Rep.mono _ s11.g r2
        replace x2 := x2.step s11
        replace ru2 := Rep.mono _ s11.g ru2
        replace w := w.tr s11
        replace gx3 := Ex.tr gx3 s11.g
        replace gx2 := Ex.tr gx2 s11.g
        obtain ⟨p6, u3, u4, rfl, h1, rfl, rfl⟩ := r5
        refine ⟨p6, _, rfl, SqT.of (w.f _ _ h1), rfl, _, _, rfl, _, _, rfl, rfl, ?_⟩
        refine hN7 _ _ ?_
        refine a_dropE ?_
        refine m_list x2 (val_var rfl) ?_
        refine a_val (v := (.int ((z4.1 : Nat) : Int))) (val_var rfl) ?_
        refine a_nil ?_
        obtain ⟨c1, hW⟩ := hW
        refine a_app x2 w c1 rfl (fun H12 w1 x3 kp1 => ?_)
        replace w := w1
        exact hN6 (z4.2, answers1 ++ [z4.1]) _ _ _ ⟨_, _, w, gx3, rfl, x3⟩ hW
      · intro s12 σ' F11 H13 hI4 hW
        obtain ⟨state2, answers1⟩ := s12
        obtain ⟨o2, o3, w, gx4, rfl, x2⟩ := hI4
        have r1 := Rep.mono _ gx4 r1
        have r2 := Rep.mono _ gx4 r2
        have gx2 := Ex.tr gx2 gx4
        refine hN5 _ _ ?_
        refine a_retE ?_
        refine e_tup ?_
        refine a_val (v := (.ref p4)) (val_var rfl) ?_
        refine a_val (v := (.int ((state2 : Nat) : Int))) (val_var rfl) ?_
        refine a_nil ?_
        refine n_tup2 (e := pV) (f := pN) (x := V.ref p4) (y := state2) rfl rfl w ?_
        intro p7 F12 H14 s13 r6
        replace r1 := Rep.mono _ s13.g r1
        replace r2 := Rep.mono _ s13.g r2
        replace x2 := x2.step s13
        replace w := w.tr s13
        replace gx4 := Ex.tr gx4 s13.g
        replace gx2 := Ex.tr gx2 s13.g
        exact hQ (answers1, state2) hW _ _ _ _ w r6 x2
abbrev s_Machine_run : Stmt := inClass (topS 19) 7
/-! Machine.run -/
def W_Machine_run (self1 : Nat × List (Nat × Nat) × List (Nat × Nat)) (rows1 : List An) (state1 : An) (E_BadMask : Prop) (R : (List Nat) → Prop) : Prop := W_Machine_walk self1 rows1 state1 (E_BadMask) fun z1 => R z1.1
def sp_Machine_run (K : PySem.W.Frag) (cc : Cz) : Sp := fun vs H Q E => ∃ (F : Hp) (v1 : V) (self1 : Nat × List (Nat × Nat) × List (Nat × Nat)) (v2 : V) (rows1 : List An) (v3 : V) (state1 : An) (E_BadMask : Prop) (R : (List Nat) → Prop), vs = [v1, v2, v3] ∧ Ex F H ∧ (pO3 cc.Machine "inputs" "nexts" "outs" pN (pTL (pT2 pN pN)) (pTL (pT2 pN pN))).r F v1 self1 ∧ (pL pA).r F v2 rows1 ∧ pA.r F v3 state1 ∧ W_Machine_run self1 rows1 state1 E_BadMask R ∧ (E_BadMask → ∀ F' H', Wf F H F' H' → E (.ref cc.BadMask) none H') ∧ ∀ z, R z → ∀ p F' H', Wf F H F' H' → XL pN H F' H' p z → Q (.ref p) H'
abbrev N_Machine_run : List Str := ["self", "rows", "state"]
theorem sc_Machine_run : FnScope N_Machine_run ["self", "rows", "state"] (defScope s_Machine_run) := ⟨rfl, rfl, rfl, by decide +kernel, rfl, by decide +kernel, by decide +kernel⟩
theorem ok_Machine_run {P : Program} {w0 : World} {K : PySem.W.Frag} {mg : Str → Option Value} {base : Heap} {f : Addr} {fd : FuncData} {cc : Cz} (T : Tz K mg cc) (FU : FunD K "run" "Machine.run" (defArgs s_Machine_run) (defBody s_Machine_run) (defScope s_Machine_run) [.int 0] [] f fd) (hm : Meth K cc.Machine "run" f) (hb : Binds K fd ["self", "rows", "state"] []) (hb2 : ∃ ds, Vals [.int 0] ds ∧ Binds K fd ["self", "rows", "state"] ds) (c_Machine_walk : Md P w0 K mg base (L2.CX P w0) 5 cc.Machine "walk" ["self", "rows", "state"] (sp_Machine_walk K cc)) : MdD P w0 K mg base (L2.CX P w0) 6 cc.Machine "run" ["self", "rows", "state"] (sp_Machine_run K cc) [.int 0] := by
  refine ⟨f, fd, FU.ok sc_Machine_run (fun vs H Q E h => ?_) (fun cdv A outer s H0 vs Q E hr h => ?_), hm, hb, hb2⟩
  · obtain ⟨_, _, _, _, _, _, _, _, _, rfl, _⟩ := h; rfl
  · obtain ⟨F0, v1, self1, v2, rows1, v3, state1, E_BadMask, R, rfl, wf, r1, r2, r3, hW, hE_BadMask, hQ⟩ := h
    have nd := sc_Machine_run.nd
    refine ⟨(tRet (tOp (L2.rIxT K) (tMdS cc.Machine "walk" (sp_Machine_walk K cc) (WE (fun cls d _ H => E cls d H)) (tVar 0) (tCons (tVar 1) (tCons (tVar 2) tNil))) (tC (.int 0)))), (pss_one (ps_ret (pe_ix ix_tup (pe_mdS (W := (fun cls d _ H => E cls d H)) c_Machine_walk (takes_of rfl rfl rfl rfl) T.cl_Machine (hr.mono (by decide)) (pv 0) (pa_cons (pv 1) (pa_cons (pv 2) pa_nil))) pe_int (fun _ _ => rfl)))), ?_⟩
    have w := Wf.id wf
    refine a_retE ?_
    refine e_op ?_
    refine e_mdS ?_
    refine e_val (v := v1) (val_var rfl) ?_
    obtain ⟨p1, dx1, fs1, ev1, ho1, lm1⟩ := me_3 (m := "walk") r1 w.f
    refine ⟨_, _, _, ev1, ho1, lm1, ?_⟩
    refine a_val (v := v2) (val_var rfl) ?_
    refine a_val (v := v3) (val_var rfl) ?_
    refine a_nil ?_
    refine ⟨F0, (v1), (self1), (v2), (rows1), (v3), (state1), _, _, rfl, w.f, r1, r2, r3, hW, ?_, ?_⟩
    · intro hW F1 H1 s1
      replace r1 := Rep.mono _ s1.g r1
      replace r2 := Rep.mono _ s1.g r2
      replace r3 := Rep.mono _ s1.g r3
      replace w := w.tr s1
      exact hE_BadMask hW _ _ w
    intro z1 hW l1 v4 F2 H2 s2 r4 x1
    replace x1 := x1.base w
    replace r1 := Rep.mono _ s2.g r1
    replace r2 := Rep.mono _ s2.g r2
    replace r3 := Rep.mono _ s2.g r3
    replace w := w.tr s2
    refine e_val (v := (.int ((0 : Nat) : Int))) val_c ?_
    obtain ⟨_, rfl, ix1⟩ := ix_2a (K := K) r4 w.f
    refine rv2 (z := .ref l1) (ix1 val_c val_c) ?_
    exact hQ _ hW _ _ _ w x1
abbrev s_Steps_lowered : Stmt := inClass (topS 21) 1
/-! Steps.lowered -/
def W_Steps_lowered (kept1 : List (Nat × (Nat × Nat))) (row1 : Nat) (places1 : Nat) (R : (Nat × Nat) → Prop) : Prop := whileW (fun (row2, places2) T => T (decide (hasT kept1 (bits row2) = true))) (fun (row2, places2) nx1 bk1 => ∃ x3, valT kept1 (bits row2) = some x3 ∧ ∀ row3 : Nat, row3 = row2 ^^^ x3.1 → ∀ places3 : Nat, places3 = places2 ^^^ x3.2 → nx1 (row3, places3)) (row1, places1) fun (row2, places2) => R (row2, places2)
def sp_Steps_lowered (K : PySem.W.Frag) (cc : Cz) : Sp := fun vs H Q _ => ∃ (F : Hp) (ob dx d : Addr) (fs : List (Str × V)) (kept1 : List (Nat × (Nat × Nat))) (row1 : Nat) (places1 : Nat) (R : (Nat × Nat) → Prop), vs = [(.ref ob), (.int ((row1 : Nat) : Int)), (.int ((places1 : Nat) : Int))] ∧ Ex F H ∧ H ob = some (.ins cc.Steps dx fs) ∧ fs.lookup ("kept" : Str) = some (V.ref d) ∧ BD (pT2 pN pN) F H d kept1 ∧ W_Steps_lowered kept1 row1 places1 R ∧ ∀ z, R z → ∀ v F' H', Wf F H F' H' → (pT2 pN pN).r F' v z → Q v H'
abbrev N_Steps_lowered : List Str := ["self", "row", "places", "other", "more"]
theorem sc_Steps_lowered : FnScope N_Steps_lowered ["self", "row", "places"] (defScope s_Steps_lowered) := ⟨rfl, rfl, rfl, by decide +kernel, rfl, by decide +kernel, by decide +kernel⟩
theorem ok_Steps_lowered {P : Program} {w0 : World} {K : PySem.W.Frag} {mg : Str → Option Value} {base : Heap} {f : Addr} {fd : FuncData} {cc : Cz} (T : Tz K mg cc) (FU : Fun K "lowered" "Steps.lowered" s_Steps_lowered f fd) (hm : Meth K cc.Steps "lowered" f) (hb : Binds K fd ["self", "row", "places"] []) : Md P w0 K mg base CX0 1 cc.Steps "lowered" ["self", "row", "places"] (sp_Steps_lowered K cc) := by
  refine ⟨f, fd, FU.ok sc_Steps_lowered (fun vs H Q E h => ?_) (fun cdv A outer s H0 vs Q E hr h => ?_), hm, hb⟩
  · obtain ⟨_, _, _, _, _, _, _, _, _, rfl, _⟩ := h; rfl
  · obtain ⟨F0, ob, dx, d, fs, kept1, row1, places1, R, rfl, wf, hob, lk_kept, bd, hW, hQ⟩ := h
    have nd := sc_Steps_lowered.nd
    refine ⟨(tSeq (tWhile (tB (tDIn (tBits (tVar 1)) (tFld K (tVar 0) "kept"))) (tSeq (tAsg (tDGet (tFld K (tVar 0) "kept") (tBits (tVar 1))) (gTup K 2 (gCons (gName 3) (gCons (gName 4) gNil)))) (tSeq (tAug 1 (tVar 3) kXor) (tAug 2 (tVar 4) kXor)))) (tRet (tTup (tCons (tVar 1) (tCons (tVar 2) tNil))))), (pss_cons (ps_while PassesOwn.never (pt_cmp (pc_din (hu_of hr) (pe_bits (pv 1)) (pe_fld (pv 0) rfl))) (pss_cons (ps_asg (pe_dget (hu_of hr) (pe_fld (pv 0) rfl) (pe_bits (pv 1)) (fun _ _ => rfl)) (pg_tup rfl (pgs_cons (pg_name (i := 3) nd rfl (Or.inl rfl)) (pgs_cons (pg_name (i := 4) nd rfl (Or.inl rfl)) pgs_nil)) (by rfl))) (pss_cons (ps_aug (i := 1) nd rfl (Or.inl rfl) (pv 3) iop_xor) (pss_one (ps_aug (i := 2) nd rfl (Or.inl rfl) (pv 4) iop_xor))))) (pss_one (ps_ret (pe_tup (pa_cons (pv 1) (pa_cons (pv 2) pa_nil)))))), ?_⟩
    have bo : BO cc.Steps F0 H0 ob dx fs := ⟨hob⟩
    have w := Wf.id wf
    refine q_sq fun N1 hN1 => ?_
    refine w_while (S := Nat × Nat) (fun s σ' F' H' => match s with | (row2, places2) => ∃ (o1 : Option V) (o2 : Option V), Wf F0 H0 F' H' ∧ Ex F0 F' ∧ σ' = [some (.ref ob), some (.int ((row2 : Nat) : Int)), some (.int ((places2 : Nat) : Int)), o1, o2] ∧ BO cc.Steps F' H' ob dx fs ∧ BD (pT2 pN pN) F' H' d kept1) hW ⟨_, _, w, Ex.rfl', rfl, bo, bd⟩ ?_ ?_ ?_
    · intro s1 σ' F1 H1 T1 Qc1 hI1 hW hT1
      obtain ⟨row2, places2⟩ := s1
      obtain ⟨o1, o2, w, gx1, rfl, x1, x2⟩ := hI1
      refine e_ans (b := decide (hasT kept1 (bits row2) = true)) (t_ofB (vb_of (in_BD (j := bits row2) x2 (vn_bitl (val_var rfl)) (fl_B (na := T.na_Steps_kept) T.cl_Steps x1 lk_kept (val_var rfl))) dec_tt)) ?_
      exact hT1 _ _ _ ⟨_, _, w, gx1, rfl, x1, x2⟩ hW
    · intro N2 Bk1 s2 σ' F2 H2 nx1 bk1 hI2 hW hN2 hB1
      obtain ⟨row2, places2⟩ := s2
      obtain ⟨o1, o2, w, gx2, rfl, x1, x2⟩ := hI2
      refine q_sq fun N3 hN3 => ?_
      refine a_asgG ?_
      obtain ⟨x3, hx1, hW⟩ := hW
      obtain ⟨v1, r1, ix1⟩ := ix_BD x2 hx1
      refine e_val (v := v1) (ix1 (fl_B (na := T.na_Steps_kept) T.cl_Steps x1 lk_kept (val_var rfl)) (vn_bitl (val_var rfl))) ?_
      obtain ⟨p1, u1, u2, rfl, h1, rfl, rfl⟩ := r1
      refine ⟨p1, _, rfl, SqT.of (w.f _ _ h1), rfl, _, _, rfl, _, _, rfl, rfl, ?_⟩
      refine hN3 _ _ ?_
      refine q_sq fun N4 hN4 => ?_
      obtain ⟨row3, erow1⟩ : ∃ row3 : Nat, row3 = row2 ^^^ x3.1 := ⟨_, rfl⟩
      replace hW := hW row3 erow1
      refine a_augV (x := (.int ((row2 : Nat) : Int))) (y := (.int ((x3.1 : Nat) : Int))) (z := (.int ((row3 : Nat) : Int))) rfl (val_var rfl) (v_eq (vn_xor val_c val_c) (by rw [erow1])) ?_
      refine hN4 _ _ ?_
      obtain ⟨places3, eplaces1⟩ : ∃ places3 : Nat, places3 = places2 ^^^ x3.2 := ⟨_, rfl⟩
      replace hW := hW places3 eplaces1
      refine a_augV (x := (.int ((places2 : Nat) : Int))) (y := (.int ((x3.2 : Nat) : Int))) (z := (.int ((places3 : Nat) : Int))) rfl (val_var rfl) (v_eq (vn_xor val_c val_c) (by rw [eplaces1])) ?_
      exact hN2 (row3, places3) _ _ _ ⟨_, _, w, gx2, rfl, x1, x2⟩ hW
    · intro s3 σ' F3 H3 hI3 hW
      obtain ⟨row2, places2⟩ := s3
      obtain ⟨o1, o2, w, gx3, rfl, x1, x2⟩ := hI3
      refine hN1 _ _ ?_
      refine a_retE ?_
      refine e_tup ?_
      refine a_val (v := (.int ((row2 : Nat) : Int))) (val_var rfl) ?_
      refine a_val (v := (.int ((places2 : Nat) : Int))) (val_var rfl) ?_
      refine a_nil ?_
      refine n_tup2 (e := pN) (f := pN) (x := row2) (y := places2) rfl rfl w ?_
      intro p2 F4 H4 s4 r2
      replace x1 := x1.step s4
      replace x2 := x2.step s4
      replace w := w.tr s4
      replace gx3 := Ex.tr gx3 s4.g
      exact hQ _ hW _ _ _ w r2
abbrev s_Steps_crossing : Stmt := inClass (topS 21) 2
/-! Steps.crossing -/
def W_Steps_crossing (self1 : List (Nat × (Nat × Nat)) × List Nat × List Nat) (bit1 : Nat) (R : Nat → Prop) : Prop := (bit1 < 100000000) ∧ ∀ mask1 : Nat, mask1 = 2 ^ bit1 → (self1.1.length < 1000000) ∧ ∀ ys1 : List Nat, ys1.Perm (self1.1.map (·.1)) → ys1.Pairwise (· ≤ ·) → forW ys1 mask1 (fun top1 mask2 nx1 bk1 => ∃ x2, valT self1.1 top1 = some x2 ∧ ∃ x3, valT self1.1 top1 = some x3 ∧ ∀ row1 : Nat, row1 = x3.1 → W_even (row1 &&& mask2) fun z1 => if z1 = true then (nx1 mask2) else ((1 ≤ top1) ∧ (top1 - 1 < 100000000) ∧ ∀ mask3 : Nat, mask3 = mask2 ^^^ (2 ^ (top1 - 1)) → nx1 mask3)) fun mask2 => R mask2
def sp_Steps_crossing (K : PySem.W.Frag) (cc : Cz) : Sp := fun vs H Q _ => ∃ (F : Hp) (v1 : V) (self1 : List (Nat × (Nat × Nat)) × List Nat × List Nat) (bit1 : Nat) (R : Nat → Prop), vs = [v1, (.int ((bit1 : Nat) : Int))] ∧ Ex F H ∧ (pO3 cc.Steps "kept" "found" "gone" (pD (κ := Nat) (pT2 pN pN)) (pL pN) (pL pN)).r F v1 self1 ∧ W_Steps_crossing self1 bit1 R ∧ ∀ z, R z → ∀ F' H', Wf F H F' H' → Q (.int ((z : Nat) : Int)) H'
abbrev N_Steps_crossing : List Str := ["self", "bit", "mask", "top", "row"]
theorem sc_Steps_crossing : FnScope N_Steps_crossing ["self", "bit"] (defScope s_Steps_crossing) := ⟨rfl, rfl, rfl, by decide +kernel, rfl, by decide +kernel, by decide +kernel⟩
theorem ok_Steps_crossing {P : Program} {w0 : World} {K : PySem.W.Frag} {mg : Str → Option Value} {base : Heap} {f : Addr} {fd : FuncData} {cc : Cz} (T : Tz K mg cc) (FU : Fun K "crossing" "Steps.crossing" s_Steps_crossing f fd) (hm : Meth K cc.Steps "crossing" f) (hb : Binds K fd ["self", "bit"] []) (c_even : Fn P w0 K mg base CX0 1 "even" ["number"] (sp_even K cc)) (n_sorted : mg "sorted" = none) : Md P w0 K mg base CX0 2 cc.Steps "crossing" ["self", "bit"] (sp_Steps_crossing K cc) := by
  refine ⟨f, fd, FU.ok sc_Steps_crossing (fun vs H Q E h => ?_) (fun cdv A outer s H0 vs Q E hr h => ?_), hm, hb⟩
  · obtain ⟨_, _, _, _, _, rfl, _⟩ := h; rfl
  · obtain ⟨F0, v1, self1, bit1, R, rfl, wf, r1, hW, hQ⟩ := h
    have nd := sc_Steps_crossing.nd
    refine ⟨(tSeq (tAsg (tOp kShl (tC (.int 1)) (tVar 1)) (gName 2)) (tSeq (tFor (iList K (tCB rSortedDX (tCons (tFld K (tVar 0) "kept") tNil))) (gName 3) (tSeq (tAsg (tOp (L2.rIxT K) (tDGet (tFld K (tVar 0) "kept") (tVar 3)) (tC (.int 0))) (gName 4)) (tIfS (tNot (tB (tCall (sp_even K cc) [] E0 (tCons (tOp kAnd (tVar 4) (tVar 2)) tNil)))) (tAug 2 (tOp kShl (tC (.int 1)) (tOp kSub (tVar 3) (tC (.int 1)))) kXor) tNext))) (tRet (tVar 2)))), (pss_cons (ps_set (i := 2) nd rfl (Or.inl rfl) (pe_op op_shlW pe_int (pv 1))) (pss_cons (ps_for PassesOwn.never rfl (pi_list (pe_callB (call_sortedDX rfl) (by rfl) n_sorted PyProof.Rows.boot_sorted (pa_cons (pe_fld (pv 0) rfl) pa_nil))) (pg_name (i := 3) nd rfl (Or.inl rfl)) (pss_cons (ps_set (i := 4) nd rfl (Or.inl rfl) (pe_ix ix_tup (pe_dget (hu_of hr) (pe_fld (pv 0) rfl) (pv 3) (fun _ _ => rfl)) pe_int (fun _ _ => rfl))) (pss_one (ps_if (pt_not (pt_val (pe_fn c_even (hr.mono (by decide)) rfl (pa_cons (pe_op op_and (pv 4) (pv 2)) pa_nil)))) (pss_one (ps_aug (i := 2) nd rfl (Or.inl rfl) (pe_op op_shlW pe_int (pe_op op_sub (pv 3) pe_int)) iop_xor)) pss_nil)))) (pss_one (ps_ret (pv 2))))), ?_⟩
    have w := Wf.id wf
    refine q_sq fun N1 hN1 => ?_
    obtain ⟨c1, hW⟩ := hW
    obtain ⟨mask1, emask1⟩ : ∃ mask1 : Nat, mask1 = 2 ^ bit1 := ⟨_, rfl⟩
    replace hW := hW mask1 emask1
    refine a_asg (v := (.int ((mask1 : Nat) : Int))) (v_eq (vn_one val_c (val_var rfl) c1) (by rw [emask1])) ?_
    refine hN1 _ _ ?_
    refine q_sq fun N2 hN2 => ?_
    refine f_LE ?_
    refine e_cb ?_
    obtain ⟨v2, r2, fl1⟩ := fl_31 (K := K) T.cl_Steps T.na_Steps_kept r1 w.f
    refine a_val (v := v2) (fl1 (val_var rfl)) ?_
    refine a_nil ?_
    obtain ⟨c2, hW⟩ := hW
    refine n_sortDX r2 w c2 ?_
    intro ys1 p1 H1 h1 h2 hp1 s1 x1
    replace hW := hW ys1 h1 h2
    replace r1 := Rep.mono _ s1.g r1
    replace r2 := Rep.mono _ s1.g r2
    replace w := w.tr s1
    obtain ⟨F1, w1, g1, r3, fz1⟩ := x1.frzE w
    replace r1 := Rep.mono _ g1 r1
    replace r2 := Rep.mono _ g1 r2
    replace w := w1
    refine w_forL (S := Nat) (fun mask2 σ' F' H' => ∃ (o1 : Option V) (o2 : Option V), Wf F0 H0 F' H' ∧ Ex F1 F' ∧ σ' = [some v1, some (.int ((bit1 : Nat) : Int)), some (.int ((mask2 : Nat) : Int)), o1, o2]) r3 hW ⟨_, _, w, Ex.rfl', rfl⟩ (fun s σ' F' H' hI => by obtain ⟨_, _, w', gx', _⟩ := hI; exact ⟨gx', w'.f⟩) w.f ?_ ?_
    · intro N3 Bk1 top1 u1 mask2 σ' F2 H2 nx1 bk1 hI1 hx1 ru1 hW hN3 hB1
      obtain ⟨o1, o2, w, gx1, rfl⟩ := hI1
      have r1 := Rep.mono _ gx1 r1
      have r2 := Rep.mono _ gx1 r2
      have r3 := Rep.mono _ gx1 r3
      obtain rfl : u1 = (.int ((top1 : Nat) : Int)) := ru1
      refine g_name ?_
      refine q_sq fun N4 hN4 => ?_
      obtain ⟨v3, r4, fl2⟩ := fl_31 (K := K) T.cl_Steps T.na_Steps_kept r1 w.f
      obtain ⟨x2, hx2, hW⟩ := hW
      obtain ⟨v4, r5, ix1⟩ := ix_D r4 w.f hx2
      obtain ⟨v5, r6, fl3⟩ := fl_31 (K := K) T.cl_Steps T.na_Steps_kept r1 w.f
      obtain ⟨x3, hx3, hW⟩ := hW
      obtain ⟨v6, r7, ix2⟩ := ix_D r6 w.f hx3
      obtain ⟨_, rfl, ix3⟩ := ix_2a (K := K) r7 w.f
      obtain ⟨row1, erow1⟩ : ∃ row1 : Nat, row1 = x3.1 := ⟨_, rfl⟩
      replace hW := hW row1 erow1
      refine a_asg (v := (.int ((row1 : Nat) : Int))) (v_eq (ix3 (ix2 (fl3 (val_var rfl)) (val_var rfl)) val_c) (by rw [erow1])) ?_
      refine hN4 _ _ ?_
      refine a_ifE ?_
      refine e_tNot ?_
      refine e_tB ?_
      refine e_call ?_
      refine a_val (v := (.int ((row1 &&& mask2 : Nat) : Int))) (vn_and (val_var rfl) (val_var rfl)) ?_
      refine a_nil ?_
      refine ⟨F2, (row1 &&& mask2), _, rfl, w.f, hW, ?_⟩
      intro z1 hW F3 H3 s3
      replace r1 := Rep.mono _ s3.g r1
      replace w := w.tr s3
      replace gx1 := Ex.tr gx1 s3.g
      refine bl_v ?_
      refine bb_ifn (fun hc1 => ?_) (fun hc1 => ?_)
      · have hW := ifP hW hc1
        exact hN3 mask2 _ _ _ ⟨_, _, w, gx1, rfl⟩ hW
      · have hW := ifN hW hc1
        obtain ⟨c3, hW⟩ := hW
        obtain ⟨c4, hW⟩ := hW
        obtain ⟨mask3, emask2⟩ : ∃ mask3 : Nat, mask3 = mask2 ^^^ (2 ^ (top1 - 1)) := ⟨_, rfl⟩
        replace hW := hW mask3 emask2
        refine a_augV (x := (.int ((mask2 : Nat) : Int))) (y := (.int ((2 ^ (top1 - 1) : Nat) : Int))) (z := (.int ((mask3 : Nat) : Int))) rfl (vn_one val_c (vn_sub (val_var rfl) val_c c3) c4) (v_eq (vn_xor val_c val_c) (by rw [emask2])) ?_
        exact hN3 mask3 _ _ _ ⟨_, _, w, gx1, rfl⟩ hW
    · intro mask2 σ' F4 H4 hI2 hW
      obtain ⟨o1, o2, w, gx2, rfl⟩ := hI2
      have r1 := Rep.mono _ gx2 r1
      have r2 := Rep.mono _ gx2 r2
      have r3 := Rep.mono _ gx2 r3
      refine hN2 _ _ ?_
      refine a_ret (v := (.int ((mask2 : Nat) : Int))) (val_var rfl) ?_
      exact hQ _ hW _ _ w
abbrev s_Steps___init__ : Stmt := inClass (topS 21) 0
/-! Steps.__init__ -/
def W_Steps___init__ (rows1 : List Nat) (R : (List (Nat × (Nat × Nat)) × List Nat × List Nat) → Prop) : Prop := forW (enumT rows1) (([] : List Nat), ([] : List (Nat × (Nat × Nat))), ([] : List Nat)) (fun it1 (self_gone1, self_kept1, self_found1) nx1 bk1 => (it1.1 < 100000000) ∧ W_Steps_lowered self_kept1 it1.2 (2 ^ it1.1) fun z1 => if z1.1 = 0 then ((self_gone1.length < 1000000) ∧ nx1 (self_gone1 ++ [z1.2], self_kept1, self_found1)) else ((self_kept1.length < 1000000) ∧ (self_found1.length < 1000000) ∧ nx1 (self_gone1, putT self_kept1 (bits z1.1) (z1.1, z1.2), self_found1 ++ [it1.1]))) fun (self_gone1, self_kept1, self_found1) => R (self_kept1, self_found1, self_gone1)
def sp_Steps___init__ (K : PySem.W.Frag) (cc : Cz) : Sp := fun vs H Q _ => ∃ (F : Hp) (ob dx : Addr) (v1 : V) (rows1 : List Nat) (R : (List (Nat × (Nat × Nat)) × List Nat × List Nat) → Prop), vs = [(.ref ob), v1] ∧ H ob = some (.ins cc.Steps dx []) ∧ F ob = none ∧ Ex F H ∧ (pL pN).r F v1 rows1 ∧ W_Steps___init__ rows1 R ∧ ∀ z, R z → ∀ F' H', Wf F (wo H ob) F' H' → (pO3 cc.Steps "kept" "found" "gone" (pD (κ := Nat) (pT2 pN pN)) (pL pN) (pL pN)).r F' (.ref ob) z → Q .non H'
abbrev N_Steps___init__ : List Str := ["self", "rows", "place", "row", "left", "places"]
theorem sc_Steps___init__ : FnScope N_Steps___init__ ["self", "rows"] (defScope s_Steps___init__) := ⟨rfl, rfl, rfl, by decide +kernel, rfl, by decide +kernel, by decide +kernel⟩
theorem ok_Steps___init__ {P : Program} {w0 : World} {K : PySem.W.Frag} {mg : Str → Option Value} {base : Heap} {f : Addr} {fd : FuncData} {cc : Cz} (T : Tz K mg cc) (FU : Fun K "__init__" "Steps.__init__" s_Steps___init__ f fd) (hm : Mk K cc.Steps f) (hg : mg "Steps" = some (.ref cc.Steps)) (hb : Binds K fd ["self", "rows"] []) (c_Steps_lowered : Md P w0 K mg base CX0 1 cc.Steps "lowered" ["self", "row", "places"] (sp_Steps_lowered K cc)) (n_enumerate : mg "enumerate" = none) : Nw P w0 K mg base CX0 2 cc.Steps "Steps" ["self", "rows"] (sp_Steps___init__ K cc) := by
  refine ⟨f, fd, FU.ok sc_Steps___init__ (fun vs H Q E h => ?_) (fun cdv A outer s H0 vs Q E hr h => ?_), hm, hg, hb⟩
  · obtain ⟨_, _, _, _, _, _, rfl, _⟩ := h; rfl
  · obtain ⟨F0, ob, dx, v1, rows1, R, rfl, hob, nob, wf, r1, hW, hQ⟩ := h
    have nd := sc_Steps___init__.nd
    refine ⟨(tSeq (sFld K (tVar 0) tDNewK "kept") (tSeq (sFld K (tVar 0) (tLst tNil) "found") (tSeq (sFld K (tVar 0) (tLst tNil) "gone") (tFor (iEnum K (tCons (tVar 1) tNil)) (gTup K 2 (gCons (gName 2) (gCons (gName 3) gNil))) (tSeq (tAsg (tMeth cc.Steps "lowered" (sp_Steps_lowered K cc) [] E0 (tVar 0) (tCons (tVar 3) (tCons (tOp kShl (tC (.int 1)) (tVar 2)) tNil))) (gTup K 2 (gCons (gName 4) (gCons (gName 5) gNil)))) (tIfS (tTest (tOp L2.rEq (tVar 4) (tC (.int 0)))) (tDrop (tBM K "list" rAppend (tFld K (tVar 0) "gone") (tCons (tVar 5) tNil))) (tSeq (sDPut (tFld K (tVar 0) "kept") (tBits (tVar 4)) (tTup (tCons (tVar 4) (tCons (tVar 5) tNil)))) (tDrop (tBM K "list" rAppend (tFld K (tVar 0) "found") (tCons (tVar 2) tNil)))))))))), (pss_cons (ps_fld (pv 0) pe_dnewK rfl) (pss_cons (ps_fld (pv 0) (pe_lst pa_nil) rfl) (pss_cons (ps_fld (pv 0) (pe_lst pa_nil) rfl) (pss_one (ps_for PassesOwn.never rfl (pi_enum (by rfl) n_enumerate (pa_cons (pv 1) pa_nil)) (pg_tup rfl (pgs_cons (pg_name (i := 2) nd rfl (Or.inl rfl)) (pgs_cons (pg_name (i := 3) nd rfl (Or.inl rfl)) pgs_nil)) (by rfl)) (pss_cons (ps_asg (pe_md c_Steps_lowered T.cl_Steps (hr.mono (by decide)) (pv 0) (pa_cons (pv 3) (pa_cons (pe_op op_shlW pe_int (pv 2)) pa_nil))) (pg_tup rfl (pgs_cons (pg_name (i := 4) nd rfl (Or.inl rfl)) (pgs_cons (pg_name (i := 5) nd rfl (Or.inl rfl)) pgs_nil)) (by rfl))) (pss_one (ps_if (pt_cmpR op_eq (pv 4) pe_int (nomark _)) (pss_one (ps_expr (pe_bm PySem.F.plainAttrs_list PySem.F.slot_list_append PySem.F.type_list_append mt_append (pe_fld (pv 0) rfl) (pa_cons (pv 5) pa_nil)))) (pss_cons (ps_dput (hu_of hr) (pe_fld (pv 0) rfl) (pe_bits (pv 4)) (pe_tup (pa_cons (pv 4) (pa_cons (pv 5) pa_nil))) rfl) (pss_one (ps_expr (pe_bm PySem.F.plainAttrs_list PySem.F.slot_list_append PySem.F.type_list_append mt_append (pe_fld (pv 0) rfl) (pa_cons (pv 2) pa_nil))))))))))))), ?_⟩
    have xs := Xc.start nob hob
    have w := Wf.start wf nob
    generalize hH0 : wo H0 ob = Hb at xs w hQ
    refine q_sq fun N1 hN1 => ?_
    refine e_fld ?_
    refine n_dict (κ := Nat) (e := (pT2 pN pN)) w ?_
    intro p1 H1 hp1 s1 x1
    have ne1 := xs.ne hp1
    replace r1 := Rep.mono _ s1.g r1
    replace xs := xs.step s1
    replace w := w.tr s1
    refine a_fld T.cl_Steps T.na_Steps_kept xs w (show 0 < 1000 from by decide) (val_var rfl) (fun H2 w1 x2 kp1 => ?_)
    replace x1 := x1.kept kp1 (Ne.symm ne1)
    replace w := w1
    replace x2 : Xc Hb F0 H2 ob (.ins cc.Steps dx [("kept", (.ref p1))]) := Xc.cast x2 rfl
    refine hN1 _ _ ?_
    refine q_sq fun N2 hN2 => ?_
    refine e_fld ?_
    refine e_lst ?_
    refine a_nil ?_
    refine n_lstX (e := pN) (xs := []) (vs := []) (show All pN _ [] [] from trivial) (show 0 < 1000000 from by decide) w ?_
    intro p2 H3 hp2 s2 x3
    have ne2 := x2.ne hp2
    have ne3 := x1.ne hp2
    replace r1 := Rep.mono _ s2.g r1
    replace x2 := x2.step s2
    replace x1 := x1.step s2
    replace w := w.tr s2
    refine a_fld T.cl_Steps T.na_Steps_found x2 w (show 1 < 1000 from by decide) (val_var rfl) (fun H4 w2 x4 kp2 => ?_)
    replace x1 := x1.kept kp2 (Ne.symm ne1)
    replace x3 := x3.kept kp2 (Ne.symm ne2)
    replace w := w2
    replace x4 : Xc Hb F0 H4 ob (.ins cc.Steps dx [("kept", (.ref p1)), ("found", (.ref p2))]) := Xc.cast x4 ((put_ne (by decide +kernel)).trans (congrArg _ rfl))
    refine hN2 _ _ ?_
    refine q_sq fun N3 hN3 => ?_
    refine e_fld ?_
    refine e_lst ?_
    refine a_nil ?_
    refine n_lstX (e := pN) (xs := []) (vs := []) (show All pN _ [] [] from trivial) (show 0 < 1000000 from by decide) w ?_
    intro p3 H5 hp3 s3 x5
    have ne4 := x4.ne hp3
    have ne5 := x1.ne hp3
    have ne6 := x3.ne hp3
    replace r1 := Rep.mono _ s3.g r1
    replace x4 := x4.step s3
    replace x1 := x1.step s3
    replace x3 := x3.step s3
    replace w := w.tr s3
    refine a_fld T.cl_Steps T.na_Steps_gone x4 w (show 2 < 1000 from by decide) (val_var rfl) (fun H6 w3 x6 kp3 => ?_)
    replace x1 := x1.kept kp3 (Ne.symm ne1)
    replace x3 := x3.kept kp3 (Ne.symm ne2)
    replace x5 := x5.kept kp3 (Ne.symm ne4)
    replace w := w3
    replace x6 : Xc Hb F0 H6 ob (.ins cc.Steps dx [("kept", (.ref p1)), ("found", (.ref p2)), ("gone", (.ref p3))]) := Xc.cast x6 ((put_ne (by decide +kernel)).trans (congrArg _ ((put_ne (by decide +kernel)).trans (congrArg _ rfl))))
    refine hN3 _ _ ?_
    refine f_J ?_
    refine a_val (v := v1) (val_var rfl) ?_
    refine a_nil ?_
    refine src_enum r1 w.f (fun a1 T1 => ?_)
    refine w_forG (S := List Nat × (List (Nat × (Nat × Nat))) × List Nat) T1 (fun s σ' F' H' => match s with | (self_gone1, self_kept1, self_found1) => ∃ (o1 : Option V) (o2 : Option V) (o3 : Option V) (o4 : Option V), Wf F0 Hb F' H' ∧ Ex F0 F' ∧ σ' = [some (.ref ob), some v1, o1, o2, o3, o4] ∧ XL pN Hb F' H' p3 self_gone1 ∧ XD (pT2 pN pN) Hb F' H' p1 self_kept1 ∧ XL pN Hb F' H' p2 self_found1 ∧ Xc Hb F' H' ob (.ins cc.Steps dx [("kept", (.ref p1)), ("found", (.ref p2)), ("gone", (.ref p3))])) hW ⟨_, _, _, _, w, Ex.rfl', rfl, x5, x1, x3, x6⟩ (fun s σ' F' H' hI => by obtain ⟨self_gone1, self_kept1, self_found1⟩ := s; obtain ⟨_, _, _, _, w', gx', _⟩ := hI; exact ⟨gx', w'.f⟩) w.f ?_ ?_
    · intro N4 Bk1 it1 u1 s4 σ' F1 H7 F2 H8 nx1 bk1 hI1 hx1 s5 ru1 hW hN4 hB1
      obtain ⟨self_gone1, self_kept1, self_found1⟩ := s4
      obtain ⟨o1, o2, o3, o4, w, gx1, rfl, x7, x8, x9, x10⟩ := hI1
      have r1 := Rep.mono _ gx1 r1
      replace r1 := Rep.mono _ s5.g r1
      replace x10 := x10.step s5
      replace x8 := x8.step s5
      replace x9 := x9.step s5
      replace x7 := x7.step s5
      replace w := w.tr s5
      replace gx1 := Ex.tr gx1 s5.g
      obtain ⟨p4, u2, u3, rfl, h1, rfl, rfl⟩ := ru1
      refine ⟨p4, _, rfl, SqT.of (w.f _ _ h1), rfl, _, _, rfl, _, _, rfl, rfl, ?_⟩
      refine q_sq fun N5 hN5 => ?_
      refine a_asgG ?_
      refine e_md ?_
      refine e_val (v := (.ref ob)) (val_var rfl) ?_
      refine ⟨_, _, _, rfl, x10.h, ((lk_ne (by decide +kernel)).trans ((lk_ne (by decide +kernel)).trans ((lk_ne (by decide +kernel)).trans rfl))), ?_⟩
      refine a_val (v := (.int ((it1.2 : Nat) : Int))) (val_var rfl) ?_
      obtain ⟨c1, hW⟩ := hW
      refine a_val (v := (.int ((2 ^ it1.1 : Nat) : Int))) (vn_one val_c (val_var rfl) c1) ?_
      refine a_nil ?_
      refine ⟨F2, ob, dx, p1, _, (self_kept1), (it1.2), (2 ^ it1.1), _, rfl, w.f, x10.h, lk_eq, x8.bw, hW, ?_⟩
      intro z1 hW v2 F3 H9 s6 r2
      replace r1 := Rep.mono _ s6.g r1
      replace x10 := x10.step s6
      replace x8 := x8.step s6
      replace x9 := x9.step s6
      replace x7 := x7.step s6
      replace w := w.tr s6
      replace gx1 := Ex.tr gx1 s6.g
      obtain ⟨p5, u4, u5, rfl, h2, rfl, rfl⟩ := r2
      refine ⟨p5, _, rfl, SqT.of (w.f _ _ h2), rfl, _, _, rfl, _, _, rfl, rfl, ?_⟩
      refine hN5 _ _ ?_
      refine a_ifE ?_
      refine e_ans (b := decide (z1.1 = 0)) (t_of (vb_dec (c_eqI (val_var rfl) val_c) n_eq)) ?_
      refine b_if (fun hc1 => ?_) (fun hc1 => ?_)
      · have hW := ifP hW hc1
        refine a_dropE ?_
        refine m_list x7 (fl_X T.cl_Steps T.na_Steps_gone x10 ((lk_ne (by decide +kernel)).trans ((lk_ne (by decide +kernel)).trans lk_eq)) (val_var rfl)) ?_
        refine a_val (v := (.int ((z1.2 : Nat) : Int))) (val_var rfl) ?_
        refine a_nil ?_
        obtain ⟨c2, hW⟩ := hW
        refine a_app x7 w c2 rfl (fun H10 w4 x11 kp4 => ?_)
        replace x10 := x10.kept kp4 ne4
        replace x8 := x8.kept kp4 ne5
        replace x9 := x9.kept kp4 ne6
        replace w := w4
        exact hN4 (self_gone1 ++ [z1.2], self_kept1, self_found1) _ _ _ ⟨_, _, _, _, w, gx1, rfl, x11, x8, x9, x10⟩ hW
      · have hW := ifN hW hc1
        refine q_sq fun N6 hN6 => ?_
        refine e_dput ?_
        refine e_tup ?_
        refine a_val (v := (.int ((z1.1 : Nat) : Int))) (val_var rfl) ?_
        refine a_val (v := (.int ((z1.2 : Nat) : Int))) (val_var rfl) ?_
        refine a_nil ?_
        refine n_tup2 (e := pN) (f := pN) (x := z1.1) (y := z1.2) rfl rfl w ?_
        intro p6 F4 H11 s7 r3
        replace r1 := Rep.mono _ s7.g r1
        replace x10 := x10.step s7
        replace x8 := x8.step s7
        replace x9 := x9.step s7
        replace x7 := x7.step s7
        replace w := w.tr s7
        replace gx1 := Ex.tr gx1 s7.g
        obtain ⟨c3, hW⟩ := hW
        refine d_put (j := bits z1.1) x8 w c3 r3 (fl_X T.cl_Steps T.na_Steps_kept x10 lk_eq (val_var rfl)) (vn_bitl (val_var rfl)) (fun H12 w5 x12 kp5 => ?_)
        replace x10 := x10.kept kp5 ne1
        replace x9 := x9.kept kp5 (Ne.symm ne3)
        replace x7 := x7.kept kp5 (Ne.symm ne5)
        replace w := w5
        refine hN6 _ _ ?_
        refine a_dropE ?_
        refine m_list x9 (fl_X T.cl_Steps T.na_Steps_found x10 ((lk_ne (by decide +kernel)).trans lk_eq) (val_var rfl)) ?_
        refine a_val (v := (.int ((it1.1 : Nat) : Int))) (val_var rfl) ?_
        refine a_nil ?_
        obtain ⟨c4, hW⟩ := hW
        refine a_app x9 w c4 rfl (fun H13 w6 x13 kp6 => ?_)
        replace x10 := x10.kept kp6 ne2
        replace x12 := x12.kept kp6 ne3
        replace x7 := x7.kept kp6 (Ne.symm ne6)
        replace w := w6
        exact hN4 (self_gone1, putT self_kept1 (bits z1.1) (z1.1, z1.2), self_found1 ++ [it1.1]) _ _ _ ⟨_, _, _, _, w, gx1, rfl, x7, x12, x13, x10⟩ hW
    · intro s8 σ' F5 H14 hI2 hW
      obtain ⟨self_gone1, self_kept1, self_found1⟩ := s8
      obtain ⟨o1, o2, o3, o4, w, gx2, rfl, x7, x8, x9, x10⟩ := hI2
      have r1 := Rep.mono _ gx2 r1
      obtain ⟨F6, w7, g1, r4, fz1⟩ := x8.frzE w
      replace r1 := Rep.mono _ g1 r1
      replace x10 := x10.frzO fz1 ne1 g1
      replace x9 := x9.frzO fz1 (Ne.symm ne3) g1
      replace x7 := x7.frzO fz1 (Ne.symm ne5) g1
      replace w := w7
      replace gx2 := Ex.tr gx2 g1
      obtain ⟨F7, w8, g2, r5, fz2⟩ := x9.frzE w
      replace r1 := Rep.mono _ g2 r1
      replace x10 := x10.frzO fz2 ne2 g2
      replace r4 := Rep.mono _ g2 r4
      replace x7 := x7.frzO fz2 (Ne.symm ne6) g2
      replace w := w8
      replace gx2 := Ex.tr gx2 g2
      obtain ⟨F8, w9, g3, r6, fz3⟩ := x7.frzE w
      replace r1 := Rep.mono _ g3 r1
      replace x10 := x10.frzO fz3 ne4 g3
      replace r4 := Rep.mono _ g3 r4
      replace r5 := Rep.mono _ g3 r5
      replace w := w9
      replace gx2 := Ex.tr gx2 g3
      obtain ⟨F9, w10, g4, h3⟩ := x10.frzE w
      exact hQ _ hW _ _ w10 ⟨ob, dx, _, rfl, h3, _, _, _, rfl, (Rep.mono _ g4 r4), (Rep.mono _ g4 r5), (Rep.mono _ g4 r6)⟩
abbrev s_sum_for : Stmt := topS 22
/-! sum_for -/
def W_sum_for (rows1 : List Nat) (wish1 : Nat) (R : (Str × (Sum (List Nat) (Nat))) → Prop) : Prop := W_Steps___init__ rows1 fun z1 => W_Steps_lowered z1.1 wish1 0 fun z2 => if z2.1 = 0 then (W_bits_of z2.2 fun z3 => R ((PySem.Str.ofString "sum"), (Sum.inl z3))) else ((1 ≤ bits z2.1) ∧ W_Steps_crossing z1 ((bits z2.1) - 1) fun z4 => R ((PySem.Str.ofString "no"), (Sum.inr z4)))
def sp_sum_for (K : PySem.W.Frag) (cc : Cz) : Sp := fun vs H Q _ => ∃ (F : Hp) (v1 : V) (rows1 : List Nat) (wish1 : Nat) (R : (Str × (Sum (List Nat) (Nat))) → Prop), vs = [v1, (.int ((wish1 : Nat) : Int))] ∧ Ex F H ∧ (pL pN).r F v1 rows1 ∧ W_sum_for rows1 wish1 R ∧ ∀ z, R z → ∀ v F' H', Wf F H F' H' → (pT2 pS (pAlt (pL pN) pN)).r F' v z → Q v H'
abbrev N_sum_for : List Str := ["rows", "wish", "steps", "left", "places"]
theorem sc_sum_for : FnScope N_sum_for ["rows", "wish"] (defScope s_sum_for) := ⟨rfl, rfl, rfl, by decide +kernel, rfl, by decide +kernel, by decide +kernel⟩
theorem ok_sum_for {P : Program} {w0 : World} {K : PySem.W.Frag} {mg : Str → Option Value} {base : Heap} {f : Addr} {fd : FuncData} {cc : Cz} (T : Tz K mg cc) (FU : Fun K "sum_for" "sum_for" s_sum_for f fd) (hm : mg "sum_for" = some (.ref f)) (hb : Binds K fd ["rows", "wish"] []) (c_Steps___init__ : Nw P w0 K mg base CX0 2 cc.Steps "Steps" ["self", "rows"] (sp_Steps___init__ K cc)) (c_Steps_lowered : Md P w0 K mg base CX0 1 cc.Steps "lowered" ["self", "row", "places"] (sp_Steps_lowered K cc)) (c_bits_of : Fn P w0 K mg base CX0 1 "bits_of" ["mask"] (sp_bits_of K cc)) (c_Steps_crossing : Md P w0 K mg base CX0 2 cc.Steps "crossing" ["self", "bit"] (sp_Steps_crossing K cc)) : Fn P w0 K mg base CX0 4 "sum_for" ["rows", "wish"] (sp_sum_for K cc) := by
  refine ⟨f, fd, FU.ok sc_sum_for (fun vs H Q E h => ?_) (fun cdv A outer s H0 vs Q E hr h => ?_), hm, FU.kp, hb⟩
  · obtain ⟨_, _, _, _, _, rfl, _⟩ := h; rfl
  · obtain ⟨F0, v1, rows1, wish1, R, rfl, wf, r1, hW, hQ⟩ := h
    have nd := sc_sum_for.nd
    refine ⟨(tSeq (tAsg (tMake cc.Steps (sp_Steps___init__ K cc) [] E0 (tCons (tVar 0) tNil)) (gName 2)) (tSeq (tAsg (tMeth cc.Steps "lowered" (sp_Steps_lowered K cc) [] E0 (tVar 2) (tCons (tVar 1) (tCons (tC (.int 0)) tNil))) (gTup K 2 (gCons (gName 3) (gCons (gName 4) gNil)))) (tSeq (tIfS (tTest (tOp L2.rEq (tVar 3) (tC (.int 0)))) (tRet (tTup (tCons (tC (.str (PySem.Str.ofString "sum"))) (tCons (tCall (sp_bits_of K cc) [] E0 (tCons (tVar 4) tNil)) tNil)))) tNext) (tRet (tTup (tCons (tC (.str (PySem.Str.ofString "no"))) (tCons (tMeth cc.Steps "crossing" (sp_Steps_crossing K cc) [] E0 (tVar 2) (tCons (tOp kSub (tBits (tVar 3)) (tC (.int 1))) tNil)) tNil))))))), (pss_cons (ps_set (i := 2) nd rfl (Or.inl rfl) (pe_nw c_Steps___init__ (hr.mono (by decide)) rfl (pa_cons (pv 0) pa_nil))) (pss_cons (ps_asg (pe_md c_Steps_lowered T.cl_Steps (hr.mono (by decide)) (pv 2) (pa_cons (pv 1) (pa_cons pe_int pa_nil))) (pg_tup rfl (pgs_cons (pg_name (i := 3) nd rfl (Or.inl rfl)) (pgs_cons (pg_name (i := 4) nd rfl (Or.inl rfl)) pgs_nil)) (by rfl))) (pss_cons (ps_if (pt_cmpR op_eq (pv 3) pe_int (nomark _)) (pss_one (ps_ret (pe_tup (pa_cons pe_str (pa_cons (pe_fn c_bits_of (hr.mono (by decide)) rfl (pa_cons (pv 4) pa_nil)) pa_nil))))) pss_nil) (pss_one (ps_ret (pe_tup (pa_cons pe_str (pa_cons (pe_md c_Steps_crossing T.cl_Steps (hr.mono (by decide)) (pv 2) (pa_cons (pe_op op_sub (pe_bits (pv 3)) pe_int) pa_nil)) pa_nil)))))))), ?_⟩
    have w := Wf.id wf
    refine q_sq fun N1 hN1 => ?_
    refine a_asgE ?_
    refine e_nw ?_
    refine a_val (v := v1) (val_var rfl) ?_
    refine a_nil ?_
    intro ob1 dx1 nx1 nd1 ne1
    refine ⟨F0, ob1, dx1, (v1), (rows1), _, rfl, upd_same, (w.f.non nx1), (Ex.made w.f nx1 nd1), r1, hW, ?_⟩
    intro z1 hW F1 H1 s1 r2
    refine ⟨rfl, ?_⟩
    replace s1 := Wf.made nx1 nd1 s1
    replace r1 := Rep.mono _ s1.g r1
    replace w := w.tr s1
    refine hN1 _ _ ?_
    refine q_sq fun N2 hN2 => ?_
    refine a_asgG ?_
    refine e_md ?_
    refine e_val (v := (.ref ob1)) (val_var rfl) ?_
    obtain ⟨p1, dx2, fs1, d1, ev1, ho1, lk1, bd1, lm1⟩ := st_bw (m := "lowered") r2 w.f
    refine ⟨_, _, _, ev1, ho1, lm1, ?_⟩
    refine a_val (v := (.int ((wish1 : Nat) : Int))) (val_var rfl) ?_
    refine a_val (v := (.int ((0 : Nat) : Int))) val_c ?_
    refine a_nil ?_
    refine ⟨F1, p1, dx2, d1, fs1, z1.1, (wish1), (0), _, (by rw [ev1]), w.f, ho1, lk1, bd1, hW, ?_⟩
    intro z2 hW v2 F2 H2 s2 r3
    replace r1 := Rep.mono _ s2.g r1
    replace r2 := Rep.mono _ s2.g r2
    replace w := w.tr s2
    obtain ⟨p2, u1, u2, rfl, h1, rfl, rfl⟩ := r3
    refine ⟨p2, _, rfl, SqT.of (w.f _ _ h1), rfl, _, _, rfl, _, _, rfl, rfl, ?_⟩
    refine hN2 _ _ ?_
    refine q_sq fun N3 hN3 => ?_
    refine a_ifE ?_
    refine e_ans (b := decide (z2.1 = 0)) (t_of (vb_dec (c_eqI (val_var rfl) val_c) n_eq)) ?_
    refine b_if (fun hc1 => ?_) (fun hc1 => ?_)
    · have hW := ifP hW hc1
      refine a_retE ?_
      refine e_tup ?_
      refine a_val (v := (.str ((PySem.Str.ofString "sum")))) val_c ?_
      refine a_cons ?_
      refine e_call ?_
      refine a_val (v := (.int ((z2.2 : Nat) : Int))) (val_var rfl) ?_
      refine a_nil ?_
      refine ⟨F2, (z2.2), _, rfl, w.f, hW, ?_⟩
      intro z3 hW p3 F3 H3 s3 x1
      replace x1 := x1.base w
      replace r1 := Rep.mono _ s3.g r1
      replace r2 := Rep.mono _ s3.g r2
      replace w := w.tr s3
      refine a_nil ?_
      obtain ⟨F4, w1, g1, r4, fz1⟩ := x1.frzE w
      replace r1 := Rep.mono _ g1 r1
      replace r2 := Rep.mono _ g1 r2
      replace w := w1
      refine n_tup2 (e := pS) (f := (pAlt (pL pN) pN)) (x := (PySem.Str.ofString "sum")) (y := (Sum.inl z3)) rfl r4 w ?_
      intro p4 F5 H4 s4 r5
      replace r1 := Rep.mono _ s4.g r1
      replace r2 := Rep.mono _ s4.g r2
      replace r4 := Rep.mono _ s4.g r4
      replace w := w.tr s4
      exact hQ _ hW _ _ _ w r5
    · have hW := ifN hW hc1
      refine hN3 _ _ ?_
      refine a_retE ?_
      refine e_tup ?_
      refine a_val (v := (.str ((PySem.Str.ofString "no")))) val_c ?_
      refine a_cons ?_
      refine e_md ?_
      refine e_val (v := (.ref ob1)) (val_var rfl) ?_
      obtain ⟨p5, dx3, fs2, ev2, ho2, lm2⟩ := me_3 (m := "crossing") r2 w.f
      refine ⟨_, _, _, ev2, ho2, lm2, ?_⟩
      obtain ⟨c1, hW⟩ := hW
      refine a_val (v := (.int (((bits z2.1) - 1 : Nat) : Int))) (vn_sub (vn_bitl (val_var rfl)) val_c c1) ?_
      refine a_nil ?_
      refine ⟨F2, ((.ref ob1)), (z1), ((bits z2.1) - 1), _, rfl, w.f, r2, hW, ?_⟩
      intro z4 hW F6 H5 s5
      replace r1 := Rep.mono _ s5.g r1
      replace r2 := Rep.mono _ s5.g r2
      replace w := w.tr s5
      refine a_nil ?_
      refine n_tup2 (e := pS) (f := (pAlt (pL pN) pN)) (x := (PySem.Str.ofString "no")) (y := (Sum.inr z4)) rfl rfl w ?_
      intro p6 F7 H6 s6 r6
      replace r1 := Rep.mono _ s6.g r1
      replace r2 := Rep.mono _ s6.g r2
      replace w := w.tr s6
      exact hQ _ hW _ _ _ w r6
abbrev s_need_row : Stmt := topS 25
/-! need_row -/
def W_need_row (row1 : An) (E_BadRow : Prop) (R : Unit → Prop) : Prop := jn (fun kk => if ¬ ((isA "list" row1) = true) then (kk true) else (∃ ys1 : List An, row1 = An.l ys1 ∧ kk (decide (40 < ys1.length)))) fun b1 => if b1 = true then (E_BadRow) else (∃ ys2 : List An, row1 = An.l ys2 ∧ forW ys2 () (fun bit1 _ nx1 bk1 => W_is_mask bit1 1 fun z1 => if z1 = true then (nx1 ()) else (E_BadRow)) fun _ => R ())
def sp_need_row (K : PySem.W.Frag) (cc : Cz) : Sp := fun vs H Q E => ∃ (F : Hp) (v1 : V) (row1 : An) (E_BadRow : Prop) (R : Unit → Prop), vs = [v1] ∧ Ex F H ∧ pA.r F v1 row1 ∧ W_need_row row1 E_BadRow R ∧ (E_BadRow → ∀ F' H', Wf F H F' H' → E (.ref cc.BadRow) none H') ∧ ∀ z, R z → ∀ F' H', Wf F H F' H' → Q .non H'
abbrev N_need_row : List Str := ["row", "bit"]
theorem sc_need_row : FnScope N_need_row ["row"] (defScope s_need_row) := ⟨rfl, rfl, rfl, by decide +kernel, rfl, by decide +kernel, by decide +kernel⟩
theorem ok_need_row {P : Program} {w0 : World} {K : PySem.W.Frag} {mg : Str → Option Value} {base : Heap} {f : Addr} {fd : FuncData} {cc : Cz} (T : Tz K mg cc) (FU : Fun K "need_row" "need_row" s_need_row f fd) (hm : mg "need_row" = some (.ref f)) (hb : Binds K fd ["row"] []) (c_is_mask : Fn P w0 K mg base CX0 2 "is_mask" ["thing", "width"] (sp_is_mask K cc)) (n_isinstance : mg "isinstance" = none) (n_len : mg "len" = none) (n_list : mg "list" = none) : Fn P w0 K mg base (L2.CX P w0) 3 "need_row" ["row"] (sp_need_row K cc) := by
  refine ⟨f, fd, FU.okX sc_need_row (fun vs H Q E h => ?_) (fun cdv A outer s H0 vs Q E hr h => ?_), hm, FU.kp, hb⟩
  · obtain ⟨_, _, _, _, _, rfl, _⟩ := h; rfl
  · obtain ⟨F0, v1, row1, E_BadRow, R, rfl, wf, r1, hW, hE_BadRow, hQ⟩ := h
    have nd := sc_need_row.nd
    refine ⟨(tSeq (tIfS (tOr (tNot (tB (tCB (rIsi K) (tCons (tVar 0) (tCons (tC (.ty "list")) tNil))))) (tTest (tOp kGt (tCB (Wk.rLen K) (tCons (tVar 0) tNil)) (tC (.int 40))))) (tRaise (fun cls d _ H => E cls d H) cc.BadRow) tNext) (tFor (iList K (tVar 0)) (gName 1) (tIfS (tNot (tB (tCall (sp_is_mask K cc) [] E0 (tCons (tVar 1) (tCons (tC (.int 1)) tNil))))) (tRaise (fun cls d _ H => E cls d H) cc.BadRow) tNext))), (pss_cons (ps_if (PW.pt (pw_or (pt_not (pt_val (pe_callB call_isi (by rfl) n_isinstance PyProof.Rows.boot_isinstance (pa_cons (pv 0) (pa_cons (pe_bltn (v := .ty "list") (by rfl) n_list PyProof.Rows.boot_list rfl) pa_nil))))) (pw_or1 (pt_cmpR op_gt (pe_callB call_len_seq (by rfl) n_len PySem.boot_len (pa_cons (pv 0) pa_nil)) (pe_globE T.gl_MOST_HEARD rfl) (nomark _))))) (pss_one (ps_raise (W := (fun cls d _ H => E cls d H)) rfl (takes_of rfl rfl rfl rfl) (pmk_own PySem.F.excBase_ValueError T.xc_BadRow.x T.xc_BadRow.g T.xc_BadRow.k (raises_own T.xc_BadRow.b T.xc_BadRow.t) (by exact rfl)))) pss_nil) (pss_one (ps_for (passes_of rfl) rfl (pi_list (pv 0)) (pg_name (i := 1) nd rfl (Or.inl rfl)) (pss_one (ps_if (pt_not (pt_val (pe_fn c_is_mask (hr.mono (by decide)) rfl (pa_cons (pv 1) (pa_cons pe_int pa_nil))))) (pss_one (ps_raise (W := (fun cls d _ H => E cls d H)) rfl (takes_of rfl rfl rfl rfl) (pmk_own PySem.F.excBase_ValueError T.xc_BadRow.x T.xc_BadRow.g T.xc_BadRow.k (raises_own T.xc_BadRow.b T.xc_BadRow.t) (by exact rfl)))) pss_nil))))), ?_⟩
    have w := Wf.id wf
    refine q_sq fun N1 hN1 => ?_
    refine a_ifE ?_
    refine e_jnT hW (fun b F' H' => b = b ∧ Wf F0 H0 F' H' ∧ Ex F0 F') ?_ ?_
    · intro N2 hN2 hW
      have gx1 : Ex F0 F0 := Ex.rfl'
      refine e_tOr ?_
      refine e_ans (b := decide (¬ ((isA "list" row1) = true))) (t_not (t_ofB (vb_of (v_isiA "list" (val_var rfl) r1 w.f) dec_tt))) ?_
      refine b_if (fun hc1 => ?_) (fun hc1 => ?_)
      · have hW := ifP hW hc1
        exact hN2 true _ _ ⟨rfl, w, gx1⟩ hW
      · have hW := ifN hW hc1
        obtain ⟨ys1, hy1, hW⟩ := hW
        have r2 := an_toL r1 hy1
        refine e_ans (b := decide (40 < ys1.length)) (t_of (vb_dec (c_gt (len_L r2 w.f (val_var rfl)) val_c) n_lt)) ?_
        exact hN2 (decide (40 < ys1.length)) _ _ ⟨rfl, w, gx1⟩ hW
    intro b1 F1 H1 hI1 hW
    obtain ⟨_, w, gx2⟩ := hI1
    have r1 := Rep.mono _ gx2 r1
    refine bb_if (fun hc2 => ?_) (fun hc2 => ?_)
    · have hW := ifP hW hc2
      refine a_raise ?_
      exact hE_BadRow hW _ _ w
    · have hW := ifN hW hc2
      refine hN1 _ _ ?_
      obtain ⟨ys2, hy2, hW⟩ := hW
      have r3 := an_toL r1 hy2
      refine f_LE ?_
      refine e_val (v := v1) (val_var rfl) ?_
      refine w_forL (S := Unit) (fun _ σ' F' H' => ∃ (o1 : Option V), Wf F0 H0 F' H' ∧ Ex F1 F' ∧ σ' = [some v1, o1]) r3 hW ⟨_, w, Ex.rfl', rfl⟩ (fun s σ' F' H' hI => by obtain ⟨_, w', gx', _⟩ := hI; exact ⟨gx', w'.f⟩) w.f ?_ ?_
      · intro N3 Bk1 bit1 u1 s1 σ' F2 H2 nx1 bk1 hI2 hx1 ru1 hW hN3 hB1
        obtain ⟨o1, w, gx3, rfl⟩ := hI2
        have r3 := Rep.mono _ gx3 r3
        refine g_name ?_
        refine a_ifE ?_
        refine e_tNot ?_
        refine e_tB ?_
        refine e_call ?_
        refine a_val (v := u1) (val_var rfl) ?_
        refine a_val (v := (.int ((1 : Nat) : Int))) val_c ?_
        refine a_nil ?_
        refine ⟨F2, (u1), (bit1), (1), _, rfl, w.f, ru1, hW, ?_⟩
        intro z1 hW F3 H3 s2
        replace r3 := Rep.mono _ s2.g r3
        replace ru1 := Rep.mono _ s2.g ru1
        replace w := w.tr s2
        replace gx3 := Ex.tr gx3 s2.g
        refine bl_v ?_
        refine bb_ifn (fun hc3 => ?_) (fun hc3 => ?_)
        · have hW := ifP hW hc3
          exact hN3 () _ _ _ ⟨_, w, gx3, rfl⟩ hW
        · have hW := ifN hW hc3
          refine a_raise ?_
          exact hE_BadRow hW _ _ w
      · intro s3 σ' F4 H4 hI3 hW
        obtain ⟨o1, w, gx4, rfl⟩ := hI3
        have r3 := Rep.mono _ gx4 r3
        exact hQ _ hW _ _ w
abbrev s_part : Stmt := topS 26
/-! part -/
def W_part (row1 : List Nat) (begin1 : Nat) (many1 : Nat) (R : Nat → Prop) : Prop := (many1 < 1000000) ∧ compW (List.range many1) (fun place1 kk => ∃ x1, row1[begin1 + place1]? = some x1 ∧ if x1 = 1 then (kk (some place1)) else (kk none)) fun ys1 => W_mask_of ys1 fun z1 => R z1
def sp_part (K : PySem.W.Frag) (cc : Cz) : Sp := fun vs H Q _ => ∃ (F : Hp) (v1 : V) (row1 : List Nat) (begin1 : Nat) (many1 : Nat) (R : Nat → Prop), vs = [v1, (.int ((begin1 : Nat) : Int)), (.int ((many1 : Nat) : Int))] ∧ Ex F H ∧ (pL pN).r F v1 row1 ∧ W_part row1 begin1 many1 R ∧ ∀ z, R z → ∀ F' H', Wf F H F' H' → Q (.int ((z : Nat) : Int)) H'
abbrev N_part : List Str := ["row", "begin", "many", "place"]
theorem sc_part : FnScope N_part ["row", "begin", "many"] (defScope s_part) := ⟨rfl, rfl, rfl, by decide +kernel, rfl, by decide +kernel, by decide +kernel⟩
theorem ok_part {P : Program} {w0 : World} {K : PySem.W.Frag} {mg : Str → Option Value} {base : Heap} {f : Addr} {fd : FuncData} {cc : Cz} (T : Tz K mg cc) (FU : Fun K "part" "part" s_part f fd) (hm : mg "part" = some (.ref f)) (hb : Binds K fd ["row", "begin", "many"] []) (c_mask_of : Fn P w0 K mg base CX0 1 "mask_of" ["places"] (sp_mask_of K cc)) (n_range : mg "range" = none) : Fn P w0 K mg base CX0 2 "part" ["row", "begin", "many"] (sp_part K cc) := by
  refine ⟨f, fd, FU.ok sc_part (fun vs H Q E h => ?_) (fun cdv A outer s H0 vs Q E hr h => ?_), hm, FU.kp, hb⟩
  · obtain ⟨_, _, _, _, _, _, rfl, _⟩ := h; rfl
  · obtain ⟨F0, v1, row1, begin1, many1, R, rfl, wf, r1, hW, hQ⟩ := h
    have nd := sc_part.nd
    refine ⟨(tRet (tCall (sp_mask_of K cc) [] E0 (tCons (tLc (iRng1 (tCons (tVar 2) tNil)) (gName 3) (tTest (tOp L2.rEq (tOp (L2.rIxL K) (tVar 0) (tOp kAdd (tVar 1) (tVar 3))) (tC (.int 1)))) (tVar 3) [3]) tNil))), (pss_one (ps_ret (pe_fn c_mask_of (hr.mono (by decide)) rfl (pa_cons (pe_lc (own := [("place", 3)]) (wi := (iRng1 (tCons (tVar 2) tNil))) (g := (gName 3)) (tt := (tTest (tOp L2.rEq (tOp (L2.rIxL K) (tVar 0) (tOp kAdd (tVar 1) (tVar 3))) (tC (.int 1))))) (te := (tVar 3)) rfl nd (pi_range1 rfl n_range (pa_cons (pv 2) pa_nil)) (blkOk_by (N := N_part) (sc := defScope s_part) (by decide +kernel)) (fun _ _ _ _ _ => (pg_name (i := 3) nd rfl (Or.inl rfl))) (fun _ _ _ _ _ => (pts_one (pt_cmpR op_eq (pe_ix ix_list (pv 0) (pe_op op_add (pv 1) (pv 3)) (fun _ _ => rfl)) pe_int (nomark _)))) (fun _ _ _ _ _ => (pv 3))) pa_nil)))), ?_⟩
    have w := Wf.id wf
    refine a_retE ?_
    refine e_call ?_
    refine a_cons ?_
    refine c_RE ?_
    refine e_val (v := (.int ((many1 : Nat) : Int))) (val_var rfl) ?_
    obtain ⟨c1, hW⟩ := hW
    refine w_compR (e := pN) w c1 hW ?_ ?_
    · intro Qy Qn place1 F1 H1 R1 q1 hx1 hW hy1 hn1
      have r1 := Rep.mono _ q1.g r1
      have w := Wf.id q1.f
      refine ⟨rfl, ?_⟩
      obtain ⟨x1, hx1_1, hW⟩ := hW
      obtain ⟨_, rfl, ix1⟩ := ix_L (K := K) r1 w.f hx1_1
      refine e_ans (b := decide (x1 = 1)) (t_of (vb_dec (c_eqI (ix1 (val_var rfl) (vn_add (val_var rfl) (val_var rfl))) val_c) n_eq)) ?_
      refine b_if (fun hc1 => ?_) (fun hc1 => ?_)
      · have hW := ifP hW hc1
        refine e_val (v := (.int ((place1 : Nat) : Int))) (val_var rfl) ?_
        exact hy1 _ _ _ _ w rfl hW
      · have hW := ifN hW hc1
        exact hn1 _ _ w hW
    intro p1 ys1 F2 H2 hp1 s1 x2 hW
    replace r1 := Rep.mono _ s1.g r1
    replace w := w.tr s1
    refine a_nil ?_
    obtain ⟨Fl1, lf1, lg1, lr1⟩ := x2.lend w
    refine ⟨Fl1, ((.ref p1)), (ys1), _, rfl, lf1, lr1, hW, ?_⟩
    intro z1 hW F3 H3 s2
    replace s2 := Wf.grow w.f s2.h
    replace r1 := Rep.mono _ s2.g r1
    replace x2 := x2.step s2
    replace w := w.tr s2
    exact hQ _ hW _ _ w
abbrev s_told_by : Stmt := topS 27
/-! told_by -/
def W_told_by (row1 : List Nat) (many1 : Nat) (R : (Str × (Sum (List Nat) (Nat))) → Prop) : Prop := (many1 ≤ row1.length) ∧ ∀ windows1 : Nat, windows1 = row1.length - many1 → (many1 < 1000000) ∧ compW (List.range many1) (fun place1 kk => W_part row1 place1 windows1 fun z1 => kk (some z1)) fun ys1 => W_part row1 many1 windows1 fun z2 => W_sum_for ys1 z2 fun z3 => R z3
def sp_told_by (K : PySem.W.Frag) (cc : Cz) : Sp := fun vs H Q _ => ∃ (F : Hp) (v1 : V) (row1 : List Nat) (many1 : Nat) (R : (Str × (Sum (List Nat) (Nat))) → Prop), vs = [v1, (.int ((many1 : Nat) : Int))] ∧ Ex F H ∧ (pL pN).r F v1 row1 ∧ W_told_by row1 many1 R ∧ ∀ z, R z → ∀ v F' H', Wf F H F' H' → (pT2 pS (pAlt (pL pN) pN)).r F' v z → Q v H'
abbrev N_told_by : List Str := ["row", "many", "windows", "place"]
theorem sc_told_by : FnScope N_told_by ["row", "many"] (defScope s_told_by) := ⟨rfl, rfl, rfl, by decide +kernel, rfl, by decide +kernel, by decide +kernel⟩
theorem ok_told_by {P : Program} {w0 : World} {K : PySem.W.Frag} {mg : Str → Option Value} {base : Heap} {f : Addr} {fd : FuncData} {cc : Cz} (T : Tz K mg cc) (FU : Fun K "told_by" "told_by" s_told_by f fd) (hm : mg "told_by" = some (.ref f)) (hb : Binds K fd ["row", "many"] []) (c_part : Fn P w0 K mg base CX0 2 "part" ["row", "begin", "many"] (sp_part K cc)) (c_sum_for : Fn P w0 K mg base CX0 4 "sum_for" ["rows", "wish"] (sp_sum_for K cc)) (n_len : mg "len" = none) (n_range : mg "range" = none) : Fn P w0 K mg base CX0 5 "told_by" ["row", "many"] (sp_told_by K cc) := by
  refine ⟨f, fd, FU.ok sc_told_by (fun vs H Q E h => ?_) (fun cdv A outer s H0 vs Q E hr h => ?_), hm, FU.kp, hb⟩
  · obtain ⟨_, _, _, _, _, rfl, _⟩ := h; rfl
  · obtain ⟨F0, v1, row1, many1, R, rfl, wf, r1, hW, hQ⟩ := h
    have nd := sc_told_by.nd
    refine ⟨(tSeq (tAsg (tOp kSub (tCB (Wk.rLen K) (tCons (tVar 0) tNil)) (tVar 1)) (gName 2)) (tRet (tCall (sp_sum_for K cc) [] E0 (tCons (tLc (iRng1 (tCons (tVar 1) tNil)) (gName 3) tYes (tCall (sp_part K cc) [] E0 (tCons (tVar 0) (tCons (tVar 3) (tCons (tVar 2) tNil)))) [3]) (tCons (tCall (sp_part K cc) [] E0 (tCons (tVar 0) (tCons (tVar 1) (tCons (tVar 2) tNil)))) tNil))))), (pss_cons (ps_set (i := 2) nd rfl (Or.inr rfl) (pe_op op_sub (pe_callB call_len_seq (by rfl) n_len PySem.boot_len (pa_cons (pv 0) pa_nil)) (pv 1))) (pss_one (ps_ret (pe_fn c_sum_for (hr.mono (by decide)) rfl (pa_cons (pe_lc (own := [("place", 3)]) (wi := (iRng1 (tCons (tVar 1) tNil))) (g := (gName 3)) (tt := tYes) (te := (tCall (sp_part K cc) [] E0 (tCons (tVar 0) (tCons (tVar 3) (tCons (tVar 2) tNil))))) rfl nd (pi_range1 rfl n_range (pa_cons (pv 1) pa_nil)) (blkOk_by (N := N_told_by) (sc := defScope s_told_by) (by decide +kernel)) (fun _ _ _ _ _ => (pg_name (i := 3) nd rfl (Or.inl rfl))) (fun _ _ _ _ _ => pts_nil) (fun _ _ _ _ _ => (pe_fn c_part (hr.mono (by decide)) rfl (pa_cons (pv 0) (pa_cons (pv 3) (pa_cons (pv 2) pa_nil)))))) (pa_cons (pe_fn c_part (hr.mono (by decide)) rfl (pa_cons (pv 0) (pa_cons (pv 1) (pa_cons (pv 2) pa_nil)))) pa_nil)))))), ?_⟩
    have w := Wf.id wf
    refine q_sq fun N1 hN1 => ?_
    obtain ⟨c1, hW⟩ := hW
    obtain ⟨windows1, ewindows1⟩ : ∃ windows1 : Nat, windows1 = row1.length - many1 := ⟨_, rfl⟩
    replace hW := hW windows1 ewindows1
    refine a_asg (v := (.int ((windows1 : Nat) : Int))) (v_eq (vn_sub (len_L r1 w.f (val_var rfl)) (val_var rfl) c1) (by rw [ewindows1])) ?_
    refine hN1 _ _ ?_
    refine a_retE ?_
    refine e_call ?_
    refine a_cons ?_
    refine c_RE ?_
    refine e_val (v := (.int ((many1 : Nat) : Int))) (val_var rfl) ?_
    obtain ⟨c2, hW⟩ := hW
    refine w_compR (e := pN) w c2 hW ?_ ?_
    · intro Qy Qn place1 F1 H1 R1 q1 hx1 hW hy1 hn1
      have r1 := Rep.mono _ q1.g r1
      have w := Wf.id q1.f
      refine ⟨rfl, ?_⟩
      refine c_yes ?_
      refine e_call ?_
      refine a_val (v := v1) (val_var rfl) ?_
      refine a_val (v := (.int ((place1 : Nat) : Int))) (val_var rfl) ?_
      refine a_val (v := (.int ((windows1 : Nat) : Int))) (val_var rfl) ?_
      refine a_nil ?_
      refine ⟨F1, (v1), (row1), (place1), (windows1), _, rfl, w.f, r1, hW, ?_⟩
      intro z1 hW F2 H2 s1
      replace r1 := Rep.mono _ s1.g r1
      replace w := w.tr s1
      exact hy1 _ _ _ _ w rfl hW
    intro p1 ys1 F3 H3 hp1 s2 x1 hW
    replace r1 := Rep.mono _ s2.g r1
    replace w := w.tr s2
    refine a_cons ?_
    refine e_call ?_
    refine a_val (v := v1) (val_var rfl) ?_
    refine a_val (v := (.int ((many1 : Nat) : Int))) (val_var rfl) ?_
    refine a_val (v := (.int ((windows1 : Nat) : Int))) (val_var rfl) ?_
    refine a_nil ?_
    refine ⟨F3, (v1), (row1), (many1), (windows1), _, rfl, w.f, r1, hW, ?_⟩
    intro z2 hW F4 H4 s3
    replace r1 := Rep.mono _ s3.g r1
    replace x1 := x1.step s3
    replace w := w.tr s3
    refine a_nil ?_
    obtain ⟨F5, w1, g1, r2, fz1⟩ := x1.frzE w
    replace r1 := Rep.mono _ g1 r1
    replace w := w1
    refine ⟨F5, ((.ref p1)), (ys1), (z2), _, rfl, w.f, r2, hW, ?_⟩
    intro z3 hW v2 F6 H5 s4 r3
    replace r1 := Rep.mono _ s4.g r1
    replace r2 := Rep.mono _ s4.g r2
    replace w := w.tr s4
    exact hQ _ hW _ _ _ w r3
abbrev s_heard : Stmt := topS 28
/-! heard -/
def W_heard (row1 : An) (E_BadRow : Prop) (R : ((Nat × List (Nat × Nat) × List (Nat × Nat)) × Nat × List Nat) → Prop) : Prop := W_need_row row1 (E_BadRow) fun z1 => ∃ ys1 : List Nat, row1 = An.l (ys1.map anN) ∧ W_told_by ys1 0 fun z2 => whileW (fun (barred1, many1, told1) T => T (decide (told1.1 = (PySem.Str.ofString "no")))) (fun (barred1, many1, told1) nx1 bk1 => ∃ y1 : Nat, told1.2 = Sum.inr y1 ∧ W_bits_of y1 fun z3 => ∀ many2 : Nat, many2 = many1 + 1 → W_told_by ys1 many2 fun z4 => nx1 (z3, many2, z4)) (([] : List Nat), 0, z2) fun (barred1, many1, told1) => (-1000000 < (((many1 : Nat) : Int) - ((1 : Nat) : Int))) ∧ (Int.toNat (((many1 : Nat) : Int) - ((1 : Nat) : Int)) < 1000000) ∧ compW (List.range (Int.toNat (((many1 : Nat) : Int) - ((1 : Nat) : Int)))) (fun place1 kk => (NShl 2 place1) ∧ kk (some (2 <<< place1, 0))) fun ys2 => jn (fun kk => if 0 < many1 then (∃ y2, told1.2 = Sum.inl y2 ∧ W_mask_of y2 fun z5 => (ys2.length < 1000000) ∧ kk (ys2 ++ [(z5, 0)], [(1, 0)])) else (kk (ys2, [(0, 0)]))) fun (nexts1, outs1) => W_Machine___init__ 0 nexts1 outs1 fun z6 => W_part ys1 0 many1 fun z7 => R (z6, z7, barred1)
def sp_heard (K : PySem.W.Frag) (cc : Cz) : Sp := fun vs H Q E => ∃ (F : Hp) (v1 : V) (row1 : An) (E_BadRow : Prop) (R : ((Nat × List (Nat × Nat) × List (Nat × Nat)) × Nat × List Nat) → Prop), vs = [v1] ∧ Ex F H ∧ pA.r F v1 row1 ∧ W_heard row1 E_BadRow R ∧ (E_BadRow → ∀ F' H', Wf F H F' H' → E (.ref cc.BadRow) none H') ∧ ∀ z, R z → ∀ v F' H', Wf F H F' H' → (pT3 (pO3 cc.Machine "inputs" "nexts" "outs" pN (pTL (pT2 pN pN)) (pTL (pT2 pN pN))) pN (pL pN)).r F' v z → Q v H'
abbrev N_heard : List Str := ["row", "many", "barred", "told", "nexts", "place", "outs"]
theorem sc_heard : FnScope N_heard ["row"] (defScope s_heard) := ⟨rfl, rfl, rfl, by decide +kernel, rfl, by decide +kernel, by decide +kernel⟩
theorem ok_heard {P : Program} {w0 : World} {K : PySem.W.Frag} {mg : Str → Option Value} {base : Heap} {f : Addr} {fd : FuncData} {cc : Cz} (T : Tz K mg cc) (FU : Fun K "heard" "heard" s_heard f fd) (hm : mg "heard" = some (.ref f)) (hb : Binds K fd ["row"] []) (c_need_row : Fn P w0 K mg base (L2.CX P w0) 3 "need_row" ["row"] (sp_need_row K cc)) (c_told_by : Fn P w0 K mg base CX0 5 "told_by" ["row", "many"] (sp_told_by K cc)) (c_bits_of : Fn P w0 K mg base CX0 1 "bits_of" ["mask"] (sp_bits_of K cc)) (c_mask_of : Fn P w0 K mg base CX0 1 "mask_of" ["places"] (sp_mask_of K cc)) (c_Machine___init__ : Nw P w0 K mg base CX0 4 cc.Machine "Machine" ["self", "inputs", "nexts", "outs"] (sp_Machine___init__ K cc)) (c_part : Fn P w0 K mg base CX0 2 "part" ["row", "begin", "many"] (sp_part K cc)) (n_range : mg "range" = none) : Fn P w0 K mg base (L2.CX P w0) 6 "heard" ["row"] (sp_heard K cc) := by
  refine ⟨f, fd, FU.okX sc_heard (fun vs H Q E h => ?_) (fun cdv A outer s H0 vs Q E hr h => ?_), hm, FU.kp, hb⟩
  · obtain ⟨_, _, _, _, _, rfl, _⟩ := h; rfl
  · obtain ⟨F0, v1, row1, E_BadRow, R, rfl, wf, r1, hW, hE_BadRow, hQ⟩ := h
    have nd := sc_heard.nd
    refine ⟨(tSeq (tDrop (tCallS (sp_need_row K cc) (WE (fun cls d _ H => E cls d H)) (tCons (tVar 0) tNil))) (tSeq (tAsg (tC (.int 0)) (gName 1)) (tSeq (tAsg (tLst tNil) (gName 2)) (tSeq (tAsg (tCall (sp_told_by K cc) [] E0 (tCons (tVar 0) (tCons (tVar 1) tNil))) (gName 3)) (tSeq (tWhile (tTest (tOp L2.rEq (tOp (L2.rIxT K) (tVar 3) (tC (.int 0))) (tC (.str (PySem.Str.ofString "no"))))) (tSeq (tAsg (tCall (sp_bits_of K cc) [] E0 (tCons (tOp (L2.rIxT K) (tVar 3) (tC (.int 1))) tNil)) (gName 2)) (tSeq (tAug 1 (tC (.int 1)) kAdd) (tAsg (tCall (sp_told_by K cc) [] E0 (tCons (tVar 0) (tCons (tVar 1) tNil))) (gName 3))))) (tSeq (tAsg (tLc (iRng1 (tCons (tOp kSub (tVar 1) (tC (.int 1))) tNil)) (gName 5) tYes (tTup (tCons (tOp kShl (tC (.int 2)) (tVar 5)) (tCons (tC (.int 0)) tNil))) [5]) (gName 4)) (tSeq (tAsg (tLst (tCons (tTup (tCons (tC (.int 0)) (tCons (tC (.int 0)) tNil))) tNil)) (gName 6)) (tSeq (tIfS (tTest (tOp kGt (tVar 1) (tC (.int 0)))) (tSeq (tDrop (tBM K "list" rAppend (tVar 4) (tCons (tTup (tCons (tCall (sp_mask_of K cc) [] E0 (tCons (tOp (L2.rIxT K) (tVar 3) (tC (.int 1))) tNil)) (tCons (tC (.int 0)) tNil))) tNil))) (tAsg (tLst (tCons (tTup (tCons (tC (.int 1)) (tCons (tC (.int 0)) tNil))) tNil)) (gName 6))) tNext) (tRet (tTup (tCons (tMake cc.Machine (sp_Machine___init__ K cc) [] E0 (tCons (tC (.int 0)) (tCons (tVar 4) (tCons (tVar 6) tNil)))) (tCons (tCall (sp_part K cc) [] E0 (tCons (tVar 0) (tCons (tC (.int 0)) (tCons (tVar 1) tNil)))) (tCons (tVar 2) tNil))))))))))))), (pss_cons (ps_expr (pe_fnS (W := (fun cls d _ H => E cls d H)) c_need_row (takes_of rfl rfl rfl rfl) (hr.mono (by decide)) rfl (pa_cons (pv 0) pa_nil))) (pss_cons (ps_set (i := 1) nd rfl (Or.inl rfl) pe_int) (pss_cons (ps_set (i := 2) nd rfl (Or.inl rfl) (pe_lst pa_nil)) (pss_cons (ps_set (i := 3) nd rfl (Or.inl rfl) (pe_fn c_told_by (hr.mono (by decide)) rfl (pa_cons (pv 0) (pa_cons (pv 1) pa_nil)))) (pss_cons (ps_while (passes_of rfl) (pt_cmpR op_eq (pe_ix ix_tup (pv 3) pe_int (fun _ _ => rfl)) pe_str (nomark _)) (pss_cons (ps_set (i := 2) nd rfl (Or.inl rfl) (pe_fn c_bits_of (hr.mono (by decide)) rfl (pa_cons (pe_ix ix_tup (pv 3) pe_int (fun _ _ => rfl)) pa_nil))) (pss_cons (ps_aug (i := 1) nd rfl (Or.inl rfl) pe_int iop_add) (pss_one (ps_set (i := 3) nd rfl (Or.inl rfl) (pe_fn c_told_by (hr.mono (by decide)) rfl (pa_cons (pv 0) (pa_cons (pv 1) pa_nil)))))))) (pss_cons (ps_setLc (i := 4) (own := [("place", 5)]) (wi := (iRng1 (tCons (tOp kSub (tVar 1) (tC (.int 1))) tNil))) (g := (gName 5)) (tt := tYes) (te := (tTup (tCons (tOp kShl (tC (.int 2)) (tVar 5)) (tCons (tC (.int 0)) tNil)))) rfl nd rfl rfl (sw_true rfl rfl rfl (by decide +kernel)) (pi_range1 rfl n_range (pa_cons (pe_op op_sub (pv 1) pe_int) pa_nil)) (blkOk_by (N := N_heard) (sc := defScope s_heard) (by decide +kernel)) (fun _ _ _ _ _ => (pg_name (i := 5) nd rfl (Or.inl rfl))) (fun _ _ _ _ _ => pts_nil) (fun _ _ _ _ _ => (pe_tup (pa_cons (pe_op op_shlW pe_int (pv 5)) (pa_cons pe_int pa_nil))))) (pss_cons (ps_set (i := 6) nd rfl (Or.inl rfl) (pe_lst (pa_cons (pe_tup (pa_cons pe_int (pa_cons pe_int pa_nil))) pa_nil))) (pss_cons (ps_if (pt_cmpR op_gt (pv 1) pe_int (nomark _)) (pss_cons (ps_expr (pe_bm PySem.F.plainAttrs_list PySem.F.slot_list_append PySem.F.type_list_append mt_append (pv 4) (pa_cons (pe_tup (pa_cons (pe_fn c_mask_of (hr.mono (by decide)) rfl (pa_cons (pe_ix ix_tup (pv 3) pe_int (fun _ _ => rfl)) pa_nil)) (pa_cons pe_int pa_nil))) pa_nil))) (pss_one (ps_set (i := 6) nd rfl (Or.inl rfl) (pe_lst (pa_cons (pe_tup (pa_cons pe_int (pa_cons pe_int pa_nil))) pa_nil))))) pss_nil) (pss_one (ps_ret (pe_tup (pa_cons (pe_nw c_Machine___init__ (hr.mono (by decide)) rfl (pa_cons pe_int (pa_cons (pv 4) (pa_cons (pv 6) pa_nil)))) (pa_cons (pe_fn c_part (hr.mono (by decide)) rfl (pa_cons (pv 0) (pa_cons pe_int (pa_cons (pv 1) pa_nil)))) (pa_cons (pv 2) pa_nil)))))))))))))), ?_⟩
    have w := Wf.id wf
    refine q_sq fun N1 hN1 => ?_
    refine a_dropE ?_
    refine e_callS ?_
    refine a_val (v := v1) (val_var rfl) ?_
    refine a_nil ?_
    refine ⟨F0, (v1), (row1), _, _, rfl, w.f, r1, hW, ?_, ?_⟩
    · intro hW F1 H1 s1
      replace r1 := Rep.mono _ s1.g r1
      replace w := w.tr s1
      exact hE_BadRow hW _ _ w
    intro z1 hW F2 H2 s2
    replace r1 := Rep.mono _ s2.g r1
    replace w := w.tr s2
    obtain ⟨ys1, hy1, hW⟩ := hW
    have r2 := an_toLN r1 hy1
    refine hN1 _ _ ?_
    refine q_sq fun N2 hN2 => ?_
    refine a_asg (v := (.int ((0 : Nat) : Int))) val_c ?_
    refine hN2 _ _ ?_
    refine q_sq fun N3 hN3 => ?_
    refine a_asgE ?_
    refine e_lst ?_
    refine a_nil ?_
    refine n_lstX (e := pN) (xs := []) (vs := []) (show All pN _ [] [] from trivial) (show 0 < 1000000 from by decide) w ?_
    intro p1 H3 hp1 s3 x1
    replace r2 := Rep.mono _ s3.g r2
    replace w := w.tr s3
    obtain ⟨F3, w1, g1, r3, fz1⟩ := x1.frzE w
    replace r2 := Rep.mono _ g1 r2
    replace w := w1
    refine hN3 _ _ ?_
    refine q_sq fun N4 hN4 => ?_
    refine a_asgE ?_
    refine e_call ?_
    refine a_val (v := v1) (val_var rfl) ?_
    refine a_val (v := (.int ((0 : Nat) : Int))) (val_var rfl) ?_
    refine a_nil ?_
    refine ⟨F3, (v1), (ys1), (0), _, rfl, w.f, r2, hW, ?_⟩
    intro z2 hW v2 F4 H4 s4 r4
    replace r2 := Rep.mono _ s4.g r2
    replace r3 := Rep.mono _ s4.g r3
    replace w := w.tr s4
    refine hN4 _ _ ?_
    refine q_sq fun N5 hN5 => ?_
    refine w_while (S := List Nat × Nat × Str × (Sum (List Nat) (Nat))) (fun s σ' F' H' => match s with | (barred1, many1, told1) => ∃ (v3 : V) (v4 : V), Wf F0 H0 F' H' ∧ Ex F4 F' ∧ σ' = [some v1, some (.int ((many1 : Nat) : Int)), some v3, some v4, none, none, none] ∧ (pL pN).r F' v3 barred1 ∧ (pT2 pS (pAlt (pL pN) pN)).r F' v4 told1) hW ⟨_, _, w, Ex.rfl', rfl, r3, r4⟩ ?_ ?_ ?_
    · intro s5 σ' F5 H5 T1 Qc1 hI1 hW hT1
      obtain ⟨barred1, many1, told1⟩ := s5
      obtain ⟨v3, v4, w, gx1, rfl, r5, r6⟩ := hI1
      have r2 := Rep.mono _ gx1 r2
      obtain ⟨_, rfl, ix1⟩ := ix_2a (K := K) r6 w.f
      refine e_ans (b := decide (told1.1 = (PySem.Str.ofString "no"))) (t_of (c_eqS (ix1 (val_var rfl) val_c) val_c)) ?_
      exact hT1 _ _ _ ⟨_, _, w, gx1, rfl, r5, r6⟩ hW
    · intro N6 Bk1 s6 σ' F6 H6 nx1 bk1 hI2 hW hN6 hB1
      obtain ⟨barred1, many1, told1⟩ := s6
      obtain ⟨v3, v4, w, gx2, rfl, r5, r6⟩ := hI2
      have r2 := Rep.mono _ gx2 r2
      refine q_sq fun N7 hN7 => ?_
      refine a_asgE ?_
      refine e_call ?_
      obtain ⟨v6, r8, ix2⟩ := ix_2b (K := K) r6 w.f
      obtain ⟨y1, hy2, hW⟩ := hW
      have hv1 := alt_n r8 hy2
      refine a_val (v := (.int ((y1 : Nat) : Int))) (v_eq (ix2 (val_var rfl) val_c) hv1) ?_
      refine a_nil ?_
      refine ⟨F6, (y1), _, rfl, w.f, hW, ?_⟩
      intro z3 hW p2 F7 H7 s7 x2
      replace x2 := x2.base w
      replace r2 := Rep.mono _ s7.g r2
      replace r5 := Rep.mono _ s7.g r5
      replace r6 := Rep.mono _ s7.g r6
      replace r8 := Rep.mono _ s7.g r8
      replace w := w.tr s7
      replace gx2 := Ex.tr gx2 s7.g
      obtain ⟨F8, w2, g2, r9, fz2⟩ := x2.frzE w
      replace r2 := Rep.mono _ g2 r2
      replace r5 := Rep.mono _ g2 r5
      replace r6 := Rep.mono _ g2 r6
      replace r8 := Rep.mono _ g2 r8
      replace w := w2
      replace gx2 := Ex.tr gx2 g2
      refine hN7 _ _ ?_
      refine q_sq fun N8 hN8 => ?_
      obtain ⟨many2, emany1⟩ : ∃ many2 : Nat, many2 = many1 + 1 := ⟨_, rfl⟩
      replace hW := hW many2 emany1
      refine a_augV (x := (.int ((many1 : Nat) : Int))) (y := (.int ((1 : Nat) : Int))) (z := (.int ((many2 : Nat) : Int))) rfl val_c (v_eq (vn_add val_c val_c) (by rw [emany1])) ?_
      refine hN8 _ _ ?_
      refine a_asgE ?_
      refine e_call ?_
      refine a_val (v := v1) (val_var rfl) ?_
      refine a_val (v := (.int ((many2 : Nat) : Int))) (val_var rfl) ?_
      refine a_nil ?_
      refine ⟨F8, (v1), (ys1), (many2), _, rfl, w.f, r2, hW, ?_⟩
      intro z4 hW v7 F9 H8 s8 r10
      replace r2 := Rep.mono _ s8.g r2
      replace r9 := Rep.mono _ s8.g r9
      replace r6 := Rep.mono _ s8.g r6
      replace w := w.tr s8
      replace gx2 := Ex.tr gx2 s8.g
      exact hN6 (z3, many2, z4) _ _ _ ⟨_, _, w, gx2, rfl, r9, r10⟩ hW
    · intro s9 σ' F10 H9 hI3 hW
      obtain ⟨barred1, many1, told1⟩ := s9
      obtain ⟨v3, v4, w, gx3, rfl, r5, r6⟩ := hI3
      have r2 := Rep.mono _ gx3 r2
      refine hN5 _ _ ?_
      refine q_sq fun N9 hN9 => ?_
      refine a_asgE ?_
      refine c_RE ?_
      refine e_val (v := (.int (((many1 : Nat) : Int) - ((1 : Nat) : Int)))) (vi0 (val_var rfl) val_c) ?_
      obtain ⟨c1, hW⟩ := hW
      refine kCpR_int c1 ?_
      obtain ⟨c2, hW⟩ := hW
      refine w_compR (e := (pT2 pN pN)) w c2 hW ?_ ?_
      · intro Qy Qn place1 F11 H10 R1 q1 hx1 hW hy3 hn1
        have r2 := Rep.mono _ q1.g r2
        have r5 := Rep.mono _ q1.g r5
        have r6 := Rep.mono _ q1.g r6
        have w := Wf.id q1.f
        refine ⟨rfl, ?_⟩
        refine c_yes ?_
        refine e_tup ?_
        obtain ⟨c3, hW⟩ := hW
        refine a_val (v := (.int ((2 <<< place1 : Nat) : Int))) (vn_shl val_c (val_var rfl) c3) ?_
        refine a_val (v := (.int ((0 : Nat) : Int))) val_c ?_
        refine a_nil ?_
        refine n_tup2 (e := pN) (f := pN) (x := 2 <<< place1) (y := 0) rfl rfl w ?_
        intro p3 F12 H11 s10 r11
        replace r2 := Rep.mono _ s10.g r2
        replace r5 := Rep.mono _ s10.g r5
        replace r6 := Rep.mono _ s10.g r6
        replace w := w.tr s10
        exact hy3 _ _ _ _ w r11 hW
      intro p4 ys2 F13 H12 hp2 s11 x3 hW
      replace r2 := Rep.mono _ s11.g r2
      replace r5 := Rep.mono _ s11.g r5
      replace r6 := Rep.mono _ s11.g r6
      replace w := w.tr s11
      replace gx3 := Ex.tr gx3 s11.g
      refine hN9 _ _ ?_
      refine q_sq fun N10 hN10 => ?_
      refine a_asgE ?_
      refine e_lst ?_
      refine a_cons ?_
      refine e_tup ?_
      refine a_val (v := (.int ((0 : Nat) : Int))) val_c ?_
      refine a_val (v := (.int ((0 : Nat) : Int))) val_c ?_
      refine a_nil ?_
      refine n_tup2 (e := pN) (f := pN) (x := 0) (y := 0) rfl rfl w ?_
      intro p5 F14 H13 s12 r12
      replace r2 := Rep.mono _ s12.g r2
      replace r5 := Rep.mono _ s12.g r5
      replace r6 := Rep.mono _ s12.g r6
      replace x3 := x3.step s12
      replace w := w.tr s12
      replace gx3 := Ex.tr gx3 s12.g
      refine a_nil ?_
      refine n_lstX (e := (pT2 pN pN)) (xs := [(0, 0)]) (vs := [(.ref p5)]) (show All (pT2 pN pN) _ [(.ref p5)] [(0, 0)] from ⟨r12, trivial⟩) (show 1 < 1000000 from by decide) w ?_
      intro p6 H14 hp3 s13 x4
      have ne1 := x3.ne hp3
      replace r2 := Rep.mono _ s13.g r2
      replace r5 := Rep.mono _ s13.g r5
      replace r6 := Rep.mono _ s13.g r6
      replace x3 := x3.step s13
      replace r12 := Rep.mono _ s13.g r12
      replace w := w.tr s13
      replace gx3 := Ex.tr gx3 s13.g
      obtain ⟨F15, w3, g3, r13, fz3⟩ := x4.frzE w
      replace r2 := Rep.mono _ g3 r2
      replace r5 := Rep.mono _ g3 r5
      replace r6 := Rep.mono _ g3 r6
      replace x3 := x3.frzO fz3 ne1 g3
      replace r12 := Rep.mono _ g3 r12
      replace w := w3
      replace gx3 := Ex.tr gx3 g3
      refine hN10 _ _ ?_
      refine q_jn (S := (List (Nat × Nat)) × List (Nat × Nat)) hW (fun s σ' F' H' => match s with | (nexts1, outs1) => ∃ (v8 : V), Wf F0 H0 F' H' ∧ Ex F15 F' ∧ σ' = [some v1, some (.int ((many1 : Nat) : Int)), some v3, some v4, some ((.ref p4)), none, some v8] ∧ XL (pT2 pN pN) H0 F' H' p4 nexts1 ∧ (pL (pT2 pN pN)).r F' v8 outs1) ?_ ?_
      · intro N11 hN11 hW
        have gx4 : Ex F15 F15 := Ex.rfl'
        refine a_ifE ?_
        refine e_ans (b := decide (0 < many1)) (t_of (vb_dec (c_gt (val_var rfl) val_c) n_lt)) ?_
        refine b_if (fun hc1 => ?_) (fun hc1 => ?_)
        · have hW := ifP hW hc1
          refine q_sq fun N12 hN12 => ?_
          refine a_dropE ?_
          refine m_list x3 (val_var rfl) ?_
          refine a_cons ?_
          refine e_tup ?_
          refine a_cons ?_
          refine e_call ?_
          obtain ⟨v9, r15, ix3⟩ := ix_2b (K := K) r6 w.f
          refine a_val (v := v9) (ix3 (val_var rfl) val_c) ?_
          obtain ⟨y2, hy4, hW⟩ := hW
          have r16 := alt_l r15 hy4
          refine a_nil ?_
          refine ⟨F15, (v9), (y2), _, rfl, w.f, r16, hW, ?_⟩
          intro z5 hW F16 H15 s14
          replace r2 := Rep.mono _ s14.g r2
          replace r5 := Rep.mono _ s14.g r5
          replace r6 := Rep.mono _ s14.g r6
          replace x3 := x3.step s14
          replace r13 := Rep.mono _ s14.g r13
          replace r15 := Rep.mono _ s14.g r15
          replace r16 := Rep.mono _ s14.g r16
          replace w := w.tr s14
          replace gx4 := Ex.tr gx4 s14.g
          replace gx3 := Ex.tr gx3 s14.g
          refine a_val (v := (.int ((0 : Nat) : Int))) val_c ?_
          refine a_nil ?_
          refine n_tup2 (e := pN) (f := pN) (x := z5) (y := 0) rfl rfl w ?_
          intro p7 F17 H16 s15 r17
          replace r2 := Rep.mono _ s15.g r2
          replace r5 := Rep.mono _ s15.g r5
          replace r6 := Rep.mono _ s15.g r6
          replace x3 := x3.step s15
          replace r13 := Rep.mono _ s15.g r13
          replace r15 := Rep.mono _ s15.g r15
          replace r16 := Rep.mono _ s15.g r16
          replace w := w.tr s15
          replace gx4 := Ex.tr gx4 s15.g
          replace gx3 := Ex.tr gx3 s15.g
          refine a_nil ?_
          obtain ⟨c4, hW⟩ := hW
          refine a_app x3 w c4 r17 (fun H17 w4 x6 kp1 => ?_)
          replace w := w4
          refine hN12 _ _ ?_
          refine a_asgE ?_
          refine e_lst ?_
          refine a_cons ?_
          refine e_tup ?_
          refine a_val (v := (.int ((1 : Nat) : Int))) val_c ?_
          refine a_val (v := (.int ((0 : Nat) : Int))) val_c ?_
          refine a_nil ?_
          refine n_tup2 (e := pN) (f := pN) (x := 1) (y := 0) rfl rfl w ?_
          intro p8 F18 H18 s16 r18
          replace r2 := Rep.mono _ s16.g r2
          replace r5 := Rep.mono _ s16.g r5
          replace r6 := Rep.mono _ s16.g r6
          replace x6 := x6.step s16
          replace r13 := Rep.mono _ s16.g r13
          replace w := w.tr s16
          replace gx4 := Ex.tr gx4 s16.g
          replace gx3 := Ex.tr gx3 s16.g
          refine a_nil ?_
          refine n_lstX (e := (pT2 pN pN)) (xs := [(1, 0)]) (vs := [(.ref p8)]) (show All (pT2 pN pN) _ [(.ref p8)] [(1, 0)] from ⟨r18, trivial⟩) (show 1 < 1000000 from by decide) w ?_
          intro p9 H19 hp4 s17 x7
          have ne2 := x6.ne hp4
          replace r2 := Rep.mono _ s17.g r2
          replace r5 := Rep.mono _ s17.g r5
          replace r6 := Rep.mono _ s17.g r6
          replace x6 := x6.step s17
          replace r13 := Rep.mono _ s17.g r13
          replace r18 := Rep.mono _ s17.g r18
          replace w := w.tr s17
          replace gx4 := Ex.tr gx4 s17.g
          replace gx3 := Ex.tr gx3 s17.g
          obtain ⟨F19, w5, g4, r19, fz4⟩ := x7.frzE w
          replace r2 := Rep.mono _ g4 r2
          replace r5 := Rep.mono _ g4 r5
          replace r6 := Rep.mono _ g4 r6
          replace x6 := x6.frzO fz4 ne2 g4
          replace r13 := Rep.mono _ g4 r13
          replace r18 := Rep.mono _ g4 r18
          replace w := w5
          replace gx4 := Ex.tr gx4 g4
          replace gx3 := Ex.tr gx3 g4
          exact hN11 (ys2 ++ [(z5, 0)], [(1, 0)]) _ _ _ ⟨_, w, gx4, rfl, x6, r19⟩ hW
        · have hW := ifN hW hc1
          exact hN11 (ys2, [(0, 0)]) _ _ _ ⟨_, w, gx4, rfl, x3, r13⟩ hW
      · intro s18 σ' F20 H20 hI4 hW
        obtain ⟨nexts1, outs1⟩ := s18
        obtain ⟨v8, w, gx5, rfl, x5, r14⟩ := hI4
        have r2 := Rep.mono _ gx5 r2
        have r5 := Rep.mono _ gx5 r5
        have r6 := Rep.mono _ gx5 r6
        have r12 := Rep.mono _ gx5 r12
        have gx3 := Ex.tr gx3 gx5
        refine a_retE ?_
        refine e_tup ?_
        refine a_cons ?_
        refine e_nw ?_
        refine a_val (v := (.int ((0 : Nat) : Int))) val_c ?_
        refine a_val (v := (.ref p4)) (val_var rfl) ?_
        refine a_val (v := v8) (val_var rfl) ?_
        refine a_nil ?_
        obtain ⟨F21, w6, g5, r20, fz5⟩ := x5.frzE w
        replace r2 := Rep.mono _ g5 r2
        replace r5 := Rep.mono _ g5 r5
        replace r6 := Rep.mono _ g5 r6
        replace r14 := Rep.mono _ g5 r14
        replace w := w6
        replace gx5 := Ex.tr gx5 g5
        replace gx3 := Ex.tr gx3 g5
        intro ob1 dx1 nx2 nd1 ne3
        refine ⟨F21, ob1, dx1, (0), ((.ref p4)), (nexts1), (v8), (outs1), _, rfl, upd_same, (w.f.non nx2), (Ex.made w.f nx2 nd1), r20, r14, hW, ?_⟩
        intro z6 hW F22 H21 s19 r21
        refine ⟨rfl, ?_⟩
        replace s19 := Wf.made nx2 nd1 s19
        replace r2 := Rep.mono _ s19.g r2
        replace r5 := Rep.mono _ s19.g r5
        replace r6 := Rep.mono _ s19.g r6
        replace r20 := Rep.mono _ s19.g r20
        replace r14 := Rep.mono _ s19.g r14
        replace w := w.tr s19
        replace gx5 := Ex.tr gx5 s19.g
        replace gx3 := Ex.tr gx3 s19.g
        refine a_cons ?_
        refine e_call ?_
        refine a_val (v := v1) (val_var rfl) ?_
        refine a_val (v := (.int ((0 : Nat) : Int))) val_c ?_
        refine a_val (v := (.int ((many1 : Nat) : Int))) (val_var rfl) ?_
        refine a_nil ?_
        refine ⟨F22, (v1), (ys1), (0), (many1), _, rfl, w.f, r2, hW, ?_⟩
        intro z7 hW F23 H22 s20
        replace r2 := Rep.mono _ s20.g r2
        replace r5 := Rep.mono _ s20.g r5
        replace r6 := Rep.mono _ s20.g r6
        replace r20 := Rep.mono _ s20.g r20
        replace r14 := Rep.mono _ s20.g r14
        replace r21 := Rep.mono _ s20.g r21
        replace w := w.tr s20
        replace gx5 := Ex.tr gx5 s20.g
        replace gx3 := Ex.tr gx3 s20.g
        refine a_val (v := v3) (val_var rfl) ?_
        refine a_nil ?_
        refine n_tup3 (e := (pO3 cc.Machine "inputs" "nexts" "outs" pN (pTL (pT2 pN pN)) (pTL (pT2 pN pN)))) (f := pN) (g := (pL pN)) (x := z6) (y := z7) (z := barred1) r21 rfl r5 w ?_
        intro p10 F24 H23 s21 r22
        replace r2 := Rep.mono _ s21.g r2
        replace r5 := Rep.mono _ s21.g r5
        replace r6 := Rep.mono _ s21.g r6
        replace r20 := Rep.mono _ s21.g r20
        replace r14 := Rep.mono _ s21.g r14
        replace r21 := Rep.mono _ s21.g r21
        replace w := w.tr s21
        replace gx5 := Ex.tr gx5 s21.g
        replace gx3 := Ex.tr gx3 s21.g
        exact hQ _ hW _ _ _ w r22
abbrev s_cell : Stmt := topS 30
/-! _law_cell -/
def W_cell (script1 : List Int) (k1 : Nat) (R : Int → Prop) : Prop := if k1 < script1.length then (∃ x1, script1[k1]? = some x1 ∧ R x1) else (R (((41 * k1) + 3 : Nat) : Int))
def sp_cell (K : PySem.W.Frag) (cc : Cz) : Sp := fun vs H Q _ => ∃ (F : Hp) (v1 : V) (script1 : List Int) (k1 : Nat) (R : Int → Prop), vs = [v1, (.int ((k1 : Nat) : Int))] ∧ Ex F H ∧ (pScr K).r F v1 script1 ∧ W_cell script1 k1 R ∧ ∀ z, R z → ∀ F' H', Wf F H F' H' → Q (.int (z)) H'
abbrev N_cell : List Str := ["_law_script", "_law_k"]
theorem sc_cell : FnScope N_cell ["_law_script", "_law_k"] (defScope s_cell) := ⟨rfl, rfl, rfl, by decide +kernel, rfl, by decide +kernel, by decide +kernel⟩
theorem ok_cell {P : Program} {w0 : World} {K : PySem.W.Frag} {mg : Str → Option Value} {base : Heap} {f : Addr} {fd : FuncData} {cc : Cz} (T : Tz K mg cc) (FU : Fun K "_law_cell" "_law_cell" s_cell f fd) (hm : mg "_law_cell" = some (.ref f)) (hb : Binds K fd ["_law_script", "_law_k"] []) (n_len : mg "len" = none) : Fn P w0 K mg base CX0 1 "_law_cell" ["_law_script", "_law_k"] (sp_cell K cc) := by
  refine ⟨f, fd, FU.ok sc_cell (fun vs H Q E h => ?_) (fun cdv A outer s H0 vs Q E hr h => ?_), hm, FU.kp, hb⟩
  · obtain ⟨_, _, _, _, _, rfl, _⟩ := h; rfl
  · obtain ⟨F0, v1, script1, k1, R, rfl, wf, r1, hW, hQ⟩ := h
    have nd := sc_cell.nd
    refine ⟨(tSeq (tIfS (tTest (tOp kLt (tVar 1) (tCB (Wk.rLen K) (tCons (tVar 0) tNil)))) (tRet (tOp (L2.rIxL K) (tVar 0) (tVar 1))) tNext) (tRet (tOp kAdd (tOp kMul (tC (.int 41)) (tVar 1)) (tC (.int 3))))), (pss_cons (ps_if (pt_cmpR op_lt (pv 1) (pe_callB call_len_seq (by rfl) n_len PySem.boot_len (pa_cons (pv 0) pa_nil)) (nomark _)) (pss_one (ps_ret (pe_ix ix_list (pv 0) (pv 1) (fun _ _ => rfl)))) pss_nil) (pss_one (ps_ret (pe_op op_add (pe_op op_mul pe_int (pv 1)) pe_int)))), ?_⟩
    have w := Wf.id wf
    refine q_sq fun N1 hN1 => ?_
    refine a_ifE ?_
    refine e_ans (b := decide (k1 < script1.length)) (t_of (vb_dec (c_lt (val_var rfl) (len_S r1 w.f (val_var rfl))) n_lt)) ?_
    refine b_if (fun hc1 => ?_) (fun hc1 => ?_)
    · have hW := ifP hW hc1
      obtain ⟨x1, hx1_1, hW⟩ := hW
      have ix1 := ix_S (K := K) w.f r1 hx1_1
      refine a_ret (v := (.int (x1))) (ix1 (val_var rfl) (val_var rfl)) ?_
      exact hQ _ hW _ _ w
    · have hW := ifN hW hc1
      refine hN1 _ _ ?_
      refine a_ret (v := (.int ((((41 * k1) + 3 : Nat) : Int)))) (vn_add (vn_mul val_c (val_var rfl) (.inl (by decide))) val_c) ?_
      exact hQ _ hW _ _ w
abbrev s_mix : Stmt := topS 31
/-! _law_mix -/
def W_mix (cell_here1 : Int) (k1 : Nat) (R : Nat → Prop) : Prop := ∀ number1 : Nat, number1 = ((((modN cell_here1 2147483647) * 48271) + (7919 * k1)) + 11) % 2147483647 → (NMul number1 number1) ∧ ∀ number2 : Nat, number2 = (number1 * number1) % 2147483629 → (NMul number2 ((number2 + (48271 * k1)) + 7)) ∧ R ((number2 * ((number2 + (48271 * k1)) + 7)) % 2147483587)
def sp_mix (K : PySem.W.Frag) (cc : Cz) : Sp := fun vs H Q _ => ∃ (F : Hp) (cell_here1 : Int) (k1 : Nat) (R : Nat → Prop), vs = [(.int (cell_here1)), (.int ((k1 : Nat) : Int))] ∧ Ex F H ∧ W_mix cell_here1 k1 R ∧ ∀ z, R z → ∀ F' H', Wf F H F' H' → Q (.int ((z : Nat) : Int)) H'
abbrev N_mix : List Str := ["_law_cell_here", "_law_k", "_law_number"]
theorem sc_mix : FnScope N_mix ["_law_cell_here", "_law_k"] (defScope s_mix) := ⟨rfl, rfl, rfl, by decide +kernel, rfl, by decide +kernel, by decide +kernel⟩
theorem ok_mix {P : Program} {w0 : World} {K : PySem.W.Frag} {mg : Str → Option Value} {base : Heap} {f : Addr} {fd : FuncData} {cc : Cz} (T : Tz K mg cc) (FU : Fun K "_law_mix" "_law_mix" s_mix f fd) (hm : mg "_law_mix" = some (.ref f)) (hb : Binds K fd ["_law_cell_here", "_law_k"] []) : Fn P w0 K mg base CX0 1 "_law_mix" ["_law_cell_here", "_law_k"] (sp_mix K cc) := by
  refine ⟨f, fd, FU.ok sc_mix (fun vs H Q E h => ?_) (fun cdv A outer s H0 vs Q E hr h => ?_), hm, FU.kp, hb⟩
  · obtain ⟨_, _, _, _, rfl, _⟩ := h; rfl
  · obtain ⟨F0, cell_here1, k1, R, rfl, wf, hW, hQ⟩ := h
    have nd := sc_mix.nd
    refine ⟨(tSeq (tAsg (tOp kMod (tOp kAdd (tOp kAdd (tOp kMul (tOp kMod (tVar 0) (tC (.int 2147483647))) (tC (.int 48271))) (tOp kMul (tC (.int 7919)) (tVar 1))) (tC (.int 11))) (tC (.int 2147483647))) (gName 2)) (tSeq (tAsg (tOp kMod (tOp kMul (tVar 2) (tVar 2)) (tC (.int 2147483629))) (gName 2)) (tRet (tOp kMod (tOp kMul (tVar 2) (tOp kAdd (tOp kAdd (tVar 2) (tOp kMul (tC (.int 48271)) (tVar 1))) (tC (.int 7)))) (tC (.int 2147483587)))))), (pss_cons (ps_set (i := 2) nd rfl (Or.inl rfl) (pe_op op_mod (pe_op op_add (pe_op op_add (pe_op op_mul (pe_op op_mod (pv 0) pe_int) pe_int) (pe_op op_mul pe_int (pv 1))) pe_int) pe_int)) (pss_cons (ps_set (i := 2) nd rfl (Or.inl rfl) (pe_op op_mod (pe_op op_mul (pv 2) (pv 2)) pe_int)) (pss_one (ps_ret (pe_op op_mod (pe_op op_mul (pv 2) (pe_op op_add (pe_op op_add (pv 2) (pe_op op_mul pe_int (pv 1))) pe_int)) pe_int))))), ?_⟩
    have w := Wf.id wf
    refine q_sq fun N1 hN1 => ?_
    obtain ⟨number1, enumber1⟩ : ∃ number1 : Nat, number1 = ((((modN cell_here1 2147483647) * 48271) + (7919 * k1)) + 11) % 2147483647 := ⟨_, rfl⟩
    replace hW := hW number1 enumber1
    refine a_asg (v := (.int ((number1 : Nat) : Int))) (v_eq (vn_mod (vn_add (vn_add (vn_mul (vm_mod (val_var rfl) val_c (by decide)) val_c (.inr (by decide))) (vn_mul val_c (val_var rfl) (.inl (by decide)))) val_c) val_c (by decide)) (by rw [enumber1])) ?_
    refine hN1 _ _ ?_
    refine q_sq fun N2 hN2 => ?_
    obtain ⟨c1, hW⟩ := hW
    obtain ⟨number2, enumber2⟩ : ∃ number2 : Nat, number2 = (number1 * number1) % 2147483629 := ⟨_, rfl⟩
    replace hW := hW number2 enumber2
    refine a_asg (v := (.int ((number2 : Nat) : Int))) (v_eq (vn_mod (vn_mul (val_var rfl) (val_var rfl) c1) val_c (by decide)) (by rw [enumber2])) ?_
    refine hN2 _ _ ?_
    obtain ⟨c2, hW⟩ := hW
    refine a_ret (v := (.int (((number2 * ((number2 + (48271 * k1)) + 7)) % 2147483587 : Nat) : Int))) (vn_mod (vn_mul (val_var rfl) (vn_add (vn_add (val_var rfl) (vn_mul val_c (val_var rfl) (.inl (by decide)))) val_c) c2) val_c (by decide)) ?_
    exact hQ _ hW _ _ w
abbrev s_odd : Stmt := topS 32
/-! _law_odd -/
def W_odd (mask1 : Nat) (R : Bool → Prop) : Prop := whileW (fun (mask2, odd_here1) T => T (decide (0 < mask2))) (fun (mask2, odd_here1) nx1 bk1 => (1 ≤ mask2) ∧ ∀ mask3 : Nat, mask3 = mask2 &&& (mask2 - 1) → ∀ odd_here2 : Bool, odd_here2 = decide (¬ (odd_here1 = true)) → nx1 (mask3, odd_here2)) (mask1, false) fun (mask2, odd_here1) => R odd_here1
def sp_odd (K : PySem.W.Frag) (cc : Cz) : Sp := fun vs H Q _ => ∃ (F : Hp) (mask1 : Nat) (R : Bool → Prop), vs = [(.int ((mask1 : Nat) : Int))] ∧ Ex F H ∧ W_odd mask1 R ∧ ∀ z, R z → ∀ F' H', Wf F H F' H' → Q (.bl (z)) H'
abbrev N_odd : List Str := ["_law_mask", "_law_odd_here"]
theorem sc_odd : FnScope N_odd ["_law_mask"] (defScope s_odd) := ⟨rfl, rfl, rfl, by decide +kernel, rfl, by decide +kernel, by decide +kernel⟩
theorem ok_odd {P : Program} {w0 : World} {K : PySem.W.Frag} {mg : Str → Option Value} {base : Heap} {f : Addr} {fd : FuncData} {cc : Cz} (T : Tz K mg cc) (FU : Fun K "_law_odd" "_law_odd" s_odd f fd) (hm : mg "_law_odd" = some (.ref f)) (hb : Binds K fd ["_law_mask"] []) : Fn P w0 K mg base CX0 1 "_law_odd" ["_law_mask"] (sp_odd K cc) := by
  refine ⟨f, fd, FU.ok sc_odd (fun vs H Q E h => ?_) (fun cdv A outer s H0 vs Q E hr h => ?_), hm, FU.kp, hb⟩
  · obtain ⟨_, _, _, rfl, _⟩ := h; rfl
  · obtain ⟨F0, mask1, R, rfl, wf, hW, hQ⟩ := h
    have nd := sc_odd.nd
    refine ⟨(tSeq (tAsg (tC (.bl false)) (gName 1)) (tSeq (tWhile (tTest (tOp kGt (tVar 0) (tC (.int 0)))) (tSeq (tAsg (tOp kAnd (tVar 0) (tOp kSub (tVar 0) (tC (.int 1)))) (gName 0)) (tAsg (tNotV (tVar 1)) (gName 1)))) (tRet (tVar 1)))), (pss_cons (ps_set (i := 1) nd rfl (Or.inl rfl) pe_bl) (pss_cons (ps_while PassesOwn.never (pt_cmpR op_gt (pv 0) pe_int (nomark _)) (pss_cons (ps_set (i := 0) nd rfl (Or.inl rfl) (pe_op op_and (pv 0) (pe_op op_sub (pv 0) pe_int))) (pss_one (ps_set (i := 1) nd rfl (Or.inl rfl) (pe_not (pv 1)))))) (pss_one (ps_ret (pv 1))))), ?_⟩
    have w := Wf.id wf
    refine q_sq fun N1 hN1 => ?_
    refine a_asg (v := (.bl (false))) val_c ?_
    refine hN1 _ _ ?_
    refine q_sq fun N2 hN2 => ?_
    refine w_while (S := Nat × Bool) (fun s σ' F' H' => match s with | (mask2, odd_here1) => Wf F0 H0 F' H' ∧ Ex F0 F' ∧ σ' = [some (.int ((mask2 : Nat) : Int)), some (.bl (odd_here1))]) hW ⟨w, Ex.rfl', rfl⟩ ?_ ?_ ?_
    · intro s1 σ' F1 H1 T1 Qc1 hI1 hW hT1
      obtain ⟨mask2, odd_here1⟩ := s1
      obtain ⟨w, gx1, rfl⟩ := hI1
      refine e_ans (b := decide (0 < mask2)) (t_of (vb_dec (c_gt (val_var rfl) val_c) n_lt)) ?_
      exact hT1 _ _ _ ⟨w, gx1, rfl⟩ hW
    · intro N3 Bk1 s2 σ' F2 H2 nx1 bk1 hI2 hW hN3 hB1
      obtain ⟨mask2, odd_here1⟩ := s2
      obtain ⟨w, gx2, rfl⟩ := hI2
      refine q_sq fun N4 hN4 => ?_
      obtain ⟨c1, hW⟩ := hW
      obtain ⟨mask3, emask1⟩ : ∃ mask3 : Nat, mask3 = mask2 &&& (mask2 - 1) := ⟨_, rfl⟩
      replace hW := hW mask3 emask1
      refine a_asg (v := (.int ((mask3 : Nat) : Int))) (v_eq (vn_and (val_var rfl) (vn_sub (val_var rfl) val_c c1)) (by rw [emask1])) ?_
      refine hN4 _ _ ?_
      obtain ⟨odd_here2, eodd_here1⟩ : ∃ odd_here2 : Bool, odd_here2 = decide (¬ (odd_here1 = true)) := ⟨_, rfl⟩
      replace hW := hW odd_here2 eodd_here1
      refine a_asg (v := (.bl (odd_here2))) (v_eq (vt_not (vb_of (val_var rfl) dec_tt)) (by rw [eodd_here1])) ?_
      exact hN3 (mask3, odd_here2) _ _ _ ⟨w, gx2, rfl⟩ hW
    · intro s3 σ' F3 H3 hI3 hW
      obtain ⟨mask2, odd_here1⟩ := s3
      obtain ⟨w, gx3, rfl⟩ := hI3
      refine hN2 _ _ ?_
      refine a_ret (v := (.bl (odd_here1))) (val_var rfl) ?_
      exact hQ _ hW _ _ w
abbrev s_turn : Stmt := topS 33
/-! _law_turn -/
def W_turn (nexts1 : List (Nat × Nat)) (state1 : Nat) (R : Nat → Prop) : Prop := forW (enumT nexts1) 0 (fun it1 found1 nx1 bk1 => W_odd (it1.2.1 &&& state1) fun z1 => (NShl (Bool.toNat z1) it1.1) ∧ ∀ found2 : Nat, found2 = found1 ||| ((Bool.toNat z1) <<< it1.1) → nx1 found2) fun found1 => R found1
def sp_turn (K : PySem.W.Frag) (cc : Cz) : Sp := fun vs H Q _ => ∃ (F : Hp) (v1 : V) (nexts1 : List (Nat × Nat)) (state1 : Nat) (R : Nat → Prop), vs = [v1, (.int ((state1 : Nat) : Int))] ∧ Ex F H ∧ (pSq (pT2 pN pN)).r F v1 nexts1 ∧ W_turn nexts1 state1 R ∧ ∀ z, R z → ∀ F' H', Wf F H F' H' → Q (.int ((z : Nat) : Int)) H'
abbrev N_turn : List Str := ["_law_nexts", "_law_state", "_law_found", "_law_k", "_law_pair"]
theorem sc_turn : FnScope N_turn ["_law_nexts", "_law_state"] (defScope s_turn) := ⟨rfl, rfl, rfl, by decide +kernel, rfl, by decide +kernel, by decide +kernel⟩
theorem ok_turn {P : Program} {w0 : World} {K : PySem.W.Frag} {mg : Str → Option Value} {base : Heap} {f : Addr} {fd : FuncData} {cc : Cz} (T : Tz K mg cc) (FU : Fun K "_law_turn" "_law_turn" s_turn f fd) (hm : mg "_law_turn" = some (.ref f)) (hb : Binds K fd ["_law_nexts", "_law_state"] []) (c_odd : Fn P w0 K mg base CX0 1 "_law_odd" ["_law_mask"] (sp_odd K cc)) (n_enumerate : mg "enumerate" = none) (n_int : mg "int" = none) : Fn P w0 K mg base CX0 2 "_law_turn" ["_law_nexts", "_law_state"] (sp_turn K cc) := by
  refine ⟨f, fd, FU.ok sc_turn (fun vs H Q E h => ?_) (fun cdv A outer s H0 vs Q E hr h => ?_), hm, FU.kp, hb⟩
  · obtain ⟨_, _, _, _, _, rfl, _⟩ := h; rfl
  · obtain ⟨F0, v1, nexts1, state1, R, rfl, wf, r1, hW, hQ⟩ := h
    have nd := sc_turn.nd
    refine ⟨(tSeq (tAsg (tC (.int 0)) (gName 2)) (tSeq (tFor (iEnumA K (tCons (tVar 0) tNil)) (gTup K 2 (gCons (gName 3) (gCons (gName 4) gNil))) (tAsg (tOp kOr (tVar 2) (tOp kShl (tCB rInt1 (tCons (tCall (sp_odd K cc) [] E0 (tCons (tOp kAnd (tOp (L2.rIxT K) (tVar 4) (tC (.int 0))) (tVar 1)) tNil)) tNil)) (tVar 3))) (gName 2))) (tRet (tVar 2)))), (pss_cons (ps_set (i := 2) nd rfl (Or.inl rfl) pe_int) (pss_cons (ps_for PassesOwn.never rfl (pi_enumA (by rfl) n_enumerate (pa_cons (pv 0) pa_nil)) (pg_tup rfl (pgs_cons (pg_name (i := 3) nd rfl (Or.inl rfl)) (pgs_cons (pg_name (i := 4) nd rfl (Or.inl rfl)) pgs_nil)) (by rfl)) (pss_one (ps_set (i := 2) nd rfl (Or.inl rfl) (pe_op op_or (pv 2) (pe_op op_shlW (pe_callTy call_int1 (by rfl) n_int PyProof.Rows.boot_int (pa_cons (pe_fn c_odd (hr.mono (by decide)) rfl (pa_cons (pe_op op_and (pe_ix ix_tup (pv 4) pe_int (fun _ _ => rfl)) (pv 1)) pa_nil)) pa_nil)) (pv 3)))))) (pss_one (ps_ret (pv 2))))), ?_⟩
    have w := Wf.id wf
    refine q_sq fun N1 hN1 => ?_
    refine a_asg (v := (.int ((0 : Nat) : Int))) val_c ?_
    refine hN1 _ _ ?_
    refine q_sq fun N2 hN2 => ?_
    refine f_J ?_
    refine a_val (v := v1) (val_var rfl) ?_
    refine a_nil ?_
    refine src_enumA r1 w.f (fun a1 T1 => ?_)
    refine w_forG (S := Nat) T1 (fun found1 σ' F' H' => ∃ (o1 : Option V) (o2 : Option V), Wf F0 H0 F' H' ∧ Ex F0 F' ∧ σ' = [some v1, some (.int ((state1 : Nat) : Int)), some (.int ((found1 : Nat) : Int)), o1, o2]) hW ⟨_, _, w, Ex.rfl', rfl⟩ (fun s σ' F' H' hI => by obtain ⟨_, _, w', gx', _⟩ := hI; exact ⟨gx', w'.f⟩) w.f ?_ ?_
    · intro N3 Bk1 it1 u1 found1 σ' F1 H1 F2 H2 nx1 bk1 hI1 hx1 s2 ru1 hW hN3 hB1
      obtain ⟨o1, o2, w, gx1, rfl⟩ := hI1
      have r1 := Rep.mono _ gx1 r1
      replace r1 := Rep.mono _ s2.g r1
      replace w := w.tr s2
      replace gx1 := Ex.tr gx1 s2.g
      obtain ⟨p1, u2, u3, rfl, h1, rfl, r2⟩ := ru1
      refine ⟨p1, _, rfl, SqT.of (w.f _ _ h1), rfl, _, _, rfl, _, _, rfl, rfl, ?_⟩
      refine a_asgE ?_
      refine e_op ?_
      refine e_val (v := (.int ((found1 : Nat) : Int))) (val_var rfl) ?_
      refine e_op ?_
      refine e_cb ?_
      refine a_cons ?_
      refine e_call ?_
      obtain ⟨_, rfl, ix1⟩ := ix_2a (K := K) r2 w.f
      refine a_val (v := (.int ((it1.2.1 &&& state1 : Nat) : Int))) (vn_and (ix1 (val_var rfl) val_c) (val_var rfl)) ?_
      refine a_nil ?_
      refine ⟨F2, (it1.2.1 &&& state1), _, rfl, w.f, hW, ?_⟩
      intro z1 hW F3 H3 s3
      replace r1 := Rep.mono _ s3.g r1
      replace r2 := Rep.mono _ s3.g r2
      replace w := w.tr s3
      replace gx1 := Ex.tr gx1 s3.g
      refine a_nil ?_
      refine rcb1 (z := (.int ((Bool.toNat z1 : Nat) : Int))) (v_intB val_c) ?_
      refine e_val (v := (.int ((it1.1 : Nat) : Int))) (val_var rfl) ?_
      obtain ⟨c1, hW⟩ := hW
      refine rv2 (z := (.int (((Bool.toNat z1) <<< it1.1 : Nat) : Int))) (vn_shl val_c val_c c1) ?_
      refine rv2 (z := (.int ((found1 ||| ((Bool.toNat z1) <<< it1.1) : Nat) : Int))) (vn_or val_c val_c) ?_
      obtain ⟨found2, efound1⟩ : ∃ found2 : Nat, found2 = found1 ||| ((Bool.toNat z1) <<< it1.1) := ⟨_, rfl⟩
      replace hW := hW found2 efound1
      refine nx_set (v := (.int ((found2 : Nat) : Int))) (by rw [efound1]) ?_
      exact hN3 found2 _ _ _ ⟨_, _, w, gx1, rfl⟩ hW
    · intro found1 σ' F4 H4 hI2 hW
      obtain ⟨o1, o2, w, gx2, rfl⟩ := hI2
      have r1 := Rep.mono _ gx2 r1
      refine hN2 _ _ ?_
      refine a_ret (v := (.int ((found1 : Nat) : Int))) (val_var rfl) ?_
      exact hQ _ hW _ _ w
abbrev s_drawn : Stmt := topS 34
/-! _law_drawn -/
def W_drawn (cell_here1 : Int) (R : (List Nat) → Prop) : Prop := ∀ size1 : Nat, size1 = modN (cell_here1 / ((2 : Nat) : Int)) 41 → if (modN cell_here1 2) = 0 then ((size1 < 1000000) ∧ compW (List.range size1) (fun k1 kk => kk (some (modN ((cell_here1 / ((82 : Nat) : Int)) / 2 ^ k1) 2))) fun ys1 => R ys1) else (W_mix cell_here1 1 fun z1 => ∀ many1 : Nat, many1 = z1 % 7 → W_mix cell_here1 2 fun z2 => (many1 < 100000000) ∧ ∀ rule1 : Nat, rule1 = z2 % (2 ^ many1) → (many1 < 1000000) ∧ compW (List.range many1) (fun k2 kk => W_mix cell_here1 (10 + k2) fun z3 => kk (some (z3 % 2))) fun ys2 => whileW (fun row1 T => T (decide (row1.length < size1))) (fun row1 nx1 bk1 => (many1 < 1000000) ∧ compW (List.range many1) (fun k3 kk => (many1 ≤ row1.length) ∧ ∃ x4, row1[(row1.length - many1) + k3]? = some x4 ∧ (NMul x4 ((rule1 >>> k3) &&& 1)) ∧ kk (some (x4 * ((rule1 >>> k3) &&& 1)))) fun ys3 => (row1.length < 1000000) ∧ nx1 (row1 ++ [ys3.sum % 2])) ys2 fun row1 => jn (fun kk => jn (fun kk => if 0 < size1 then (W_mix cell_here1 3 fun z4 => kk (decide ((z4 % 3) = 0))) else (kk false)) fun b1 => if b1 = true then (W_mix cell_here1 4 fun z5 => (0 < size1) ∧ ∀ at1 : Nat, at1 = z5 % size1 → ∃ x10, (cutT row1 none (some size1))[at1]? = some x10 ∧ (x10 ≤ 1) ∧ (at1 < (cutT row1 none (some size1)).length) ∧ kk ((cutT row1 none (some size1)).set at1 (1 - x10))) else (kk (cutT row1 none (some size1)))) fun row2 => R row2)
def sp_drawn (K : PySem.W.Frag) (cc : Cz) : Sp := fun vs H Q _ => ∃ (F : Hp) (cell_here1 : Int) (R : (List Nat) → Prop), vs = [(.int (cell_here1))] ∧ Ex F H ∧ W_drawn cell_here1 R ∧ ∀ z, R z → ∀ p F' H', Wf F H F' H' → XL pN H F' H' p z → Q (.ref p) H'
abbrev N_drawn : List Str := ["_law_cell_here", "_law_size", "_law_k", "_law_many", "_law_rule", "_law_row", "_law_at"]
theorem sc_drawn : FnScope N_drawn ["_law_cell_here"] (defScope s_drawn) := ⟨rfl, rfl, rfl, by decide +kernel, rfl, by decide +kernel, by decide +kernel⟩
theorem ok_drawn {P : Program} {w0 : World} {K : PySem.W.Frag} {mg : Str → Option Value} {base : Heap} {f : Addr} {fd : FuncData} {cc : Cz} (T : Tz K mg cc) (FU : Fun K "_law_drawn" "_law_drawn" s_drawn f fd) (hm : mg "_law_drawn" = some (.ref f)) (hb : Binds K fd ["_law_cell_here"] []) (c_mix : Fn P w0 K mg base CX0 1 "_law_mix" ["_law_cell_here", "_law_k"] (sp_mix K cc)) (n_len : mg "len" = none) (n_range : mg "range" = none) (n_sum : mg "sum" = none) : Fn P w0 K mg base CX0 2 "_law_drawn" ["_law_cell_here"] (sp_drawn K cc) := by
  refine ⟨f, fd, FU.ok sc_drawn (fun vs H Q E h => ?_) (fun cdv A outer s H0 vs Q E hr h => ?_), hm, FU.kp, hb⟩
  · obtain ⟨_, _, _, rfl, _⟩ := h; rfl
  · obtain ⟨F0, cell_here1, R, rfl, wf, hW, hQ⟩ := h
    have nd := sc_drawn.nd
    refine ⟨(tSeq (tAsg (tOp kMod (tOp kDiv (tVar 0) (tC (.int 2))) (tC (.int 41))) (gName 1)) (tSeq (tIfS (tTest (tOp L2.rEq (tOp kMod (tVar 0) (tC (.int 2))) (tC (.int 0)))) (tRet (tLc (iRng1 (tCons (tVar 1) tNil)) (gName 2) tYes (tOp kAnd (tOp kShr (tOp kDiv (tVar 0) (tC (.int 82))) (tVar 2)) (tC (.int 1))) [2])) tNext) (tSeq (tAsg (tOp kMod (tCall (sp_mix K cc) [] E0 (tCons (tVar 0) (tCons (tC (.int 1)) tNil))) (tC (.int 7))) (gName 3)) (tSeq (tAsg (tOp kMod (tCall (sp_mix K cc) [] E0 (tCons (tVar 0) (tCons (tC (.int 2)) tNil))) (tOp kShl (tC (.int 1)) (tVar 3))) (gName 4)) (tSeq (tAsg (tLc (iRng1 (tCons (tVar 3) tNil)) (gName 2) tYes (tOp kMod (tCall (sp_mix K cc) [] E0 (tCons (tVar 0) (tCons (tOp kAdd (tC (.int 10)) (tVar 2)) tNil))) (tC (.int 2))) [2]) (gName 5)) (tSeq (tWhile (tTest (tOp kLt (tCB (Wk.rLen K) (tCons (tVar 5) tNil)) (tVar 1))) (tDrop (tBM K "list" rAppend (tVar 5) (tCons (tOp kMod (tCB (L2.rSum K) (tCons (tLc (iRng1 (tCons (tVar 3) tNil)) (gName 2) tYes (tOp kMul (tOp (L2.rIxL K) (tVar 5) (tOp kAdd (tOp kSub (tCB (Wk.rLen K) (tCons (tVar 5) tNil)) (tVar 3)) (tVar 2))) (tOp kAnd (tOp kShr (tVar 4) (tVar 2)) (tC (.int 1)))) [2]) tNil)) (tC (.int 2))) tNil)))) (tSeq (tAsg (tSl (rSlL K) (tVar 5) tNoPart (tPart (tVar 1))) (gName 5)) (tSeq (tIfS (tAnd (tTest (tOp kGt (tVar 1) (tC (.int 0)))) (tTest (tOp L2.rEq (tOp kMod (tCall (sp_mix K cc) [] E0 (tCons (tVar 0) (tCons (tC (.int 3)) tNil))) (tC (.int 3))) (tC (.int 0))))) (tSeq (tAsg (tOp kMod (tCall (sp_mix K cc) [] E0 (tCons (tVar 0) (tCons (tC (.int 4)) tNil))) (tVar 1)) (gName 6)) (tAsg (tOp kSub (tC (.int 1)) (tOp (L2.rIxL K) (tVar 5) (tVar 6))) (gSub (tVar 5) (tVar 6) rSetL))) tNext) (tRet (tVar 5)))))))))), (pss_cons (ps_set (i := 1) nd rfl (Or.inl rfl) (pe_op op_mod (pe_op op_fdivW (pv 0) pe_int) pe_int)) (pss_cons (ps_if (pt_cmpR op_eq (pe_op op_mod (pv 0) pe_int) pe_int (nomark _)) (pss_one (ps_ret (pe_lc (own := [("_law_k", 2)]) (wi := (iRng1 (tCons (tVar 1) tNil))) (g := (gName 2)) (tt := tYes) (te := (tOp kAnd (tOp kShr (tOp kDiv (tVar 0) (tC (.int 82))) (tVar 2)) (tC (.int 1)))) rfl nd (pi_range1 rfl n_range (pa_cons (pv 1) pa_nil)) (blkOk_by (N := N_drawn) (sc := defScope s_drawn) (by decide +kernel)) (fun _ _ _ _ _ => (pg_name (i := 2) nd rfl (Or.inl rfl))) (fun _ _ _ _ _ => pts_nil) (fun _ _ _ _ _ => (pe_op op_and (pe_op op_shr (pe_op op_fdivW (pv 0) pe_int) (pv 2)) pe_int))))) pss_nil) (pss_cons (ps_set (i := 3) nd rfl (Or.inr rfl) (pe_op op_mod (pe_fn c_mix (hr.mono (by decide)) rfl (pa_cons (pv 0) (pa_cons pe_int pa_nil))) pe_int)) (pss_cons (ps_set (i := 4) nd rfl (Or.inr rfl) (pe_op op_mod (pe_fn c_mix (hr.mono (by decide)) rfl (pa_cons (pv 0) (pa_cons pe_int pa_nil))) (pe_op op_shlW pe_int (pv 3)))) (pss_cons (ps_set (i := 5) nd rfl (Or.inr rfl) (pe_lc (own := [("_law_k", 2)]) (wi := (iRng1 (tCons (tVar 3) tNil))) (g := (gName 2)) (tt := tYes) (te := (tOp kMod (tCall (sp_mix K cc) [] E0 (tCons (tVar 0) (tCons (tOp kAdd (tC (.int 10)) (tVar 2)) tNil))) (tC (.int 2)))) rfl nd (pi_range1 rfl n_range (pa_cons (pv 3) pa_nil)) (blkOk_by (N := N_drawn) (sc := defScope s_drawn) (by decide +kernel)) (fun _ _ _ _ _ => (pg_name (i := 2) nd rfl (Or.inl rfl))) (fun _ _ _ _ _ => pts_nil) (fun _ _ _ _ _ => (pe_op op_mod (pe_fn c_mix (hr.mono (by decide)) rfl (pa_cons (pv 0) (pa_cons (pe_op op_add pe_int (pv 2)) pa_nil))) pe_int)))) (pss_cons (ps_while PassesOwn.never (pt_cmpR op_lt (pe_callB call_len_seq (by rfl) n_len PySem.boot_len (pa_cons (pv 5) pa_nil)) (pv 1) (nomark _)) (pss_one (ps_expr (pe_bm PySem.F.plainAttrs_list PySem.F.slot_list_append PySem.F.type_list_append mt_append (pv 5) (pa_cons (pe_op op_mod (pe_callB (cr_sum rfl) (by rfl) n_sum PyProof.Rows.boot_sum (pa_cons (pe_lc (own := [("_law_k", 2)]) (wi := (iRng1 (tCons (tVar 3) tNil))) (g := (gName 2)) (tt := tYes) (te := (tOp kMul (tOp (L2.rIxL K) (tVar 5) (tOp kAdd (tOp kSub (tCB (Wk.rLen K) (tCons (tVar 5) tNil)) (tVar 3)) (tVar 2))) (tOp kAnd (tOp kShr (tVar 4) (tVar 2)) (tC (.int 1))))) rfl nd (pi_range1 rfl n_range (pa_cons (pv 3) pa_nil)) (blkOk_by (N := N_drawn) (sc := defScope s_drawn) (by decide +kernel)) (fun _ _ _ _ _ => (pg_name (i := 2) nd rfl (Or.inl rfl))) (fun _ _ _ _ _ => pts_nil) (fun _ _ _ _ _ => (pe_op op_mul (pe_ix ix_list (pv 5) (pe_op op_add (pe_op op_sub (pe_callB call_len_seq (by rfl) n_len PySem.boot_len (pa_cons (pv 5) pa_nil)) (pv 3)) (pv 2)) (fun _ _ => rfl)) (pe_op op_and (pe_op op_shr (pv 4) (pv 2)) pe_int)))) pa_nil)) pe_int) pa_nil))))) (pss_cons (ps_set (i := 5) nd rfl (Or.inr rfl) (pe_slice sl_list (pv 5) po_none (po_some (pv 1)))) (pss_cons (ps_if (PW.pt (pw_and (pt_cmpR op_gt (pv 1) pe_int (nomark _)) (pw_and1 (pt_cmpR op_eq (pe_op op_mod (pe_fn c_mix (hr.mono (by decide)) rfl (pa_cons (pv 0) (pa_cons pe_int pa_nil))) pe_int) pe_int (nomark _))))) (pss_cons (ps_set (i := 6) nd rfl (Or.inl rfl) (pe_op op_mod (pe_fn c_mix (hr.mono (by decide)) rfl (pa_cons (pv 0) (pa_cons pe_int pa_nil))) (pv 1))) (pss_one (ps_asg (pe_op op_sub pe_int (pe_ix ix_list (pv 5) (pv 6) (fun _ _ => rfl))) (pg_sub (pv 5) (pv 6) set_list)))) pss_nil) (pss_one (ps_ret (pv 5))))))))))), ?_⟩
    have w := Wf.id wf
    refine q_sq fun N1 hN1 => ?_
    obtain ⟨size1, esize1⟩ : ∃ size1 : Nat, size1 = modN (cell_here1 / ((2 : Nat) : Int)) 41 := ⟨_, rfl⟩
    replace hW := hW size1 esize1
    refine a_asg (v := (.int ((size1 : Nat) : Int))) (v_eq (vm_mod (vi_div (val_var rfl) val_c ⟨by decide, by decide +kernel⟩) val_c (by decide)) (by rw [esize1])) ?_
    refine hN1 _ _ ?_
    refine q_sq fun N2 hN2 => ?_
    refine a_ifE ?_
    refine e_ans (b := decide ((modN cell_here1 2) = 0)) (t_of (vb_dec (c_eqI (vm_mod (val_var rfl) val_c (by decide)) val_c) n_eq)) ?_
    refine b_if (fun hc1 => ?_) (fun hc1 => ?_)
    · have hW := ifP hW hc1
      refine a_retE ?_
      refine c_RE ?_
      refine e_val (v := (.int ((size1 : Nat) : Int))) (val_var rfl) ?_
      obtain ⟨c1, hW⟩ := hW
      refine w_compR (e := pN) w c1 hW ?_ ?_
      · intro Qy Qn k1 F1 H1 R1 q1 hx1 hW hy1 hn1
        have w := Wf.id q1.f
        refine ⟨rfl, ?_⟩
        refine c_yes ?_
        refine e_val (v := (.int ((modN ((cell_here1 / ((82 : Nat) : Int)) / 2 ^ k1) 2 : Nat) : Int))) (vm_odd (vi_shr (vi_div (val_var rfl) val_c ⟨by decide, by decide +kernel⟩) (val_var rfl)) val_c) ?_
        exact hy1 _ _ _ _ w rfl hW
      intro p1 ys1 F2 H2 hp1 s1 x1 hW
      replace w := w.tr s1
      exact hQ _ hW _ _ _ w x1
    · have hW := ifN hW hc1
      refine hN2 _ _ ?_
      refine q_sq fun N3 hN3 => ?_
      refine a_asgE ?_
      refine e_op ?_
      refine e_call ?_
      refine a_val (v := (.int (cell_here1))) (val_var rfl) ?_
      refine a_val (v := (.int ((1 : Nat) : Int))) val_c ?_
      refine a_nil ?_
      refine ⟨F0, (cell_here1), (1), _, rfl, w.f, hW, ?_⟩
      intro z1 hW F3 H3 s2
      replace w := w.tr s2
      refine e_val (v := (.int ((7 : Nat) : Int))) val_c ?_
      refine rv2 (z := (.int ((z1 % 7 : Nat) : Int))) (vn_mod val_c val_c (by decide)) ?_
      obtain ⟨many1, emany1⟩ : ∃ many1 : Nat, many1 = z1 % 7 := ⟨_, rfl⟩
      replace hW := hW many1 emany1
      refine nx_set (v := (.int ((many1 : Nat) : Int))) (by rw [emany1]) ?_
      refine hN3 _ _ ?_
      refine q_sq fun N4 hN4 => ?_
      refine a_asgE ?_
      refine e_op ?_
      refine e_call ?_
      refine a_val (v := (.int (cell_here1))) (val_var rfl) ?_
      refine a_val (v := (.int ((2 : Nat) : Int))) val_c ?_
      refine a_nil ?_
      refine ⟨F3, (cell_here1), (2), _, rfl, w.f, hW, ?_⟩
      intro z2 hW F4 H4 s3
      replace w := w.tr s3
      obtain ⟨c2, hW⟩ := hW
      refine e_val (v := (.int ((2 ^ many1 : Nat) : Int))) (vn_one val_c (val_var rfl) c2) ?_
      refine rv2 (z := (.int ((z2 % (2 ^ many1) : Nat) : Int))) (vn_mod val_c val_c (Nat.two_pow_pos _)) ?_
      obtain ⟨rule1, erule1⟩ : ∃ rule1 : Nat, rule1 = z2 % (2 ^ many1) := ⟨_, rfl⟩
      replace hW := hW rule1 erule1
      refine nx_set (v := (.int ((rule1 : Nat) : Int))) (by rw [erule1]) ?_
      refine hN4 _ _ ?_
      refine q_sq fun N5 hN5 => ?_
      refine a_asgE ?_
      refine c_RE ?_
      refine e_val (v := (.int ((many1 : Nat) : Int))) (val_var rfl) ?_
      obtain ⟨c3, hW⟩ := hW
      refine w_compR (e := pN) w c3 hW ?_ ?_
      · intro Qy Qn k2 F5 H5 R2 q2 hx2 hW hy2 hn2
        have w := Wf.id q2.f
        refine ⟨rfl, ?_⟩
        refine c_yes ?_
        refine e_op ?_
        refine e_call ?_
        refine a_val (v := (.int (cell_here1))) (val_var rfl) ?_
        refine a_val (v := (.int ((10 + k2 : Nat) : Int))) (vn_add val_c (val_var rfl)) ?_
        refine a_nil ?_
        refine ⟨F5, (cell_here1), (10 + k2), _, rfl, w.f, hW, ?_⟩
        intro z3 hW F6 H6 s4
        replace w := w.tr s4
        refine e_val (v := (.int ((2 : Nat) : Int))) val_c ?_
        refine rv2 (z := (.int ((z3 % 2 : Nat) : Int))) (vn_mod val_c val_c (by decide)) ?_
        exact hy2 _ _ _ _ w rfl hW
      intro p2 ys2 F7 H7 hp2 s5 x2 hW
      replace w := w.tr s5
      refine hN5 _ _ ?_
      refine q_sq fun N6 hN6 => ?_
      refine w_while (S := List Nat) (fun row1 σ' F' H' => ∃ (p3 : Addr), Wf F0 H0 F' H' ∧ Ex F7 F' ∧ σ' = [some (.int (cell_here1)), some (.int ((size1 : Nat) : Int)), none, some (.int ((many1 : Nat) : Int)), some (.int ((rule1 : Nat) : Int)), some (.ref p3), none] ∧ XL pN H0 F' H' p3 row1) hW ⟨_, w, Ex.rfl', rfl, x2⟩ ?_ ?_ ?_
      · intro row1 σ' F8 H8 T1 Qc1 hI1 hW hT1
        obtain ⟨p3, w, gx1, rfl, x3⟩ := hI1
        refine e_ans (b := decide (row1.length < size1)) (t_of (vb_dec (c_lt (len_X x3 (val_var rfl)) (val_var rfl)) n_lt)) ?_
        exact hT1 _ _ _ ⟨_, w, gx1, rfl, x3⟩ hW
      · intro N7 Bk1 row1 σ' F9 H9 nx1 bk1 hI2 hW hN7 hB1
        obtain ⟨p3, w, gx2, rfl, x3⟩ := hI2
        refine a_dropE ?_
        refine m_list x3 (val_var rfl) ?_
        refine a_cons ?_
        refine e_op ?_
        refine e_cb ?_
        refine a_cons ?_
        refine c_RE ?_
        refine e_val (v := (.int ((many1 : Nat) : Int))) (val_var rfl) ?_
        obtain ⟨c4, hW⟩ := hW
        refine w_compR (e := pN) w c4 hW ?_ ?_
        · intro Qy Qn k3 F10 H10 R3 q3 hx3 hW hy3 hn3
          have x3 := x3.step q3
          have w := Wf.id q3.f
          refine ⟨rfl, ?_⟩
          refine c_yes ?_
          obtain ⟨c5, hW⟩ := hW
          obtain ⟨x4, hx4_1, hW⟩ := hW
          obtain ⟨_, rfl, ix1⟩ := ix_X (K := K) x3 hx4_1
          obtain ⟨c6, hW⟩ := hW
          refine e_val (v := (.int ((x4 * ((rule1 >>> k3) &&& 1) : Nat) : Int))) (vn_mul (ix1 (val_var rfl) (vn_add (vn_sub (len_X x3 (val_var rfl)) (val_var rfl) c5) (val_var rfl))) (vn_and (vn_shr (val_var rfl) (val_var rfl)) val_c) c6) ?_
          exact hy3 _ _ _ _ w rfl hW
        intro p4 ys3 F11 H11 hp3 s8 x5 hW
        have ne1 := x3.ne hp3
        replace x3 := x3.step s8
        replace w := w.tr s8
        replace gx2 := Ex.tr gx2 s8.g
        refine a_nil ?_
        refine rcb1 (z := (.int ((ys3.sum : Nat) : Int))) (vn_sumX x5 val_c) ?_
        refine e_val (v := (.int ((2 : Nat) : Int))) val_c ?_
        refine rv2 (z := (.int ((ys3.sum % 2 : Nat) : Int))) (vn_mod val_c val_c (by decide)) ?_
        refine a_nil ?_
        obtain ⟨c7, hW⟩ := hW
        refine a_app x3 w c7 rfl (fun H12 w1 x6 kp1 => ?_)
        replace x5 := x5.kept kp1 (Ne.symm ne1)
        replace w := w1
        exact hN7 (row1 ++ [ys3.sum % 2]) _ _ _ ⟨_, w, gx2, rfl, x6⟩ hW
      · intro row1 σ' F12 H13 hI3 hW
        obtain ⟨p3, w, gx3, rfl, x3⟩ := hI3
        refine hN6 _ _ ?_
        refine q_sq fun N8 hN8 => ?_
        refine a_asgE ?_
        obtain ⟨F13, w2, g1, r1, fz1⟩ := x3.frzE w
        replace w := w2
        replace gx3 := Ex.tr gx3 g1
        refine n_cutX (lo := none) (hi := (some size1)) r1 (val_var rfl) po_n (po_s (n := size1) (val_var rfl)) w ?_
        intro p5 H14 hp4 s10 x7
        replace r1 := Rep.mono _ s10.g r1
        replace w := w.tr s10
        replace gx3 := Ex.tr gx3 s10.g
        refine hN8 _ _ ?_
        refine q_jn (S := List Nat) hW (fun row2 σ' F' H' => ∃ (p6 : Addr) (o1 : Option V), Wf F0 H0 F' H' ∧ Ex F13 F' ∧ σ' = [some (.int (cell_here1)), some (.int ((size1 : Nat) : Int)), none, some (.int ((many1 : Nat) : Int)), some (.int ((rule1 : Nat) : Int)), some (.ref p6), o1] ∧ XL pN H0 F' H' p6 row2) ?_ ?_
        · intro N9 hN9 hW
          have gx4 : Ex F13 F13 := Ex.rfl'
          refine a_ifE ?_
          refine e_jnT hW (fun b F' H' => b = b ∧ Wf F0 H0 F' H' ∧ Ex F13 F' ∧ XL pN H0 F' H' p5 (cutT row1 none (some size1))) ?_ ?_
          · intro N10 hN10 hW
            have gx5 : Ex F13 F13 := Ex.rfl'
            refine e_tAnd ?_
            refine e_ans (b := decide (0 < size1)) (t_of (vb_dec (c_gt (val_var rfl) val_c) n_lt)) ?_
            refine b_if (fun hc2 => ?_) (fun hc2 => ?_)
            · have hW := ifP hW hc2
              refine e_tT ?_
              refine e_op ?_
              refine e_op ?_
              refine e_call ?_
              refine a_val (v := (.int (cell_here1))) (val_var rfl) ?_
              refine a_val (v := (.int ((3 : Nat) : Int))) val_c ?_
              refine a_nil ?_
              refine ⟨F13, (cell_here1), (3), _, rfl, w.f, hW, ?_⟩
              intro z4 hW F14 H15 s11
              replace x7 := x7.step s11
              replace w := w.tr s11
              replace gx5 := Ex.tr gx5 s11.g
              replace gx4 := Ex.tr gx4 s11.g
              replace gx3 := Ex.tr gx3 s11.g
              refine e_val (v := (.int ((3 : Nat) : Int))) val_c ?_
              refine rv2 (z := (.int ((z4 % 3 : Nat) : Int))) (vn_mod val_c val_c (by decide)) ?_
              refine e_val (v := (.int ((0 : Nat) : Int))) val_c ?_
              refine rv2T (b := decide ((z4 % 3) = 0)) (vb_dec (c_eqI val_c val_c) n_eq) ?_
              exact hN10 (decide ((z4 % 3) = 0)) _ _ ⟨rfl, w, gx5, x7⟩ hW
            · have hW := ifN hW hc2
              exact hN10 false _ _ ⟨rfl, w, gx5, x7⟩ hW
          intro b1 F15 H16 hI4 hW
          obtain ⟨_, w, gx6, x9⟩ := hI4
          have gx4 := Ex.tr gx4 gx6
          have gx3 := Ex.tr gx3 gx6
          refine bb_if (fun hc3 => ?_) (fun hc3 => ?_)
          · have hW := ifP hW hc3
            refine q_sq fun N11 hN11 => ?_
            refine a_asgE ?_
            refine e_op ?_
            refine e_call ?_
            refine a_val (v := (.int (cell_here1))) (val_var rfl) ?_
            refine a_val (v := (.int ((4 : Nat) : Int))) val_c ?_
            refine a_nil ?_
            refine ⟨F15, (cell_here1), (4), _, rfl, w.f, hW, ?_⟩
            intro z5 hW F16 H17 s12
            replace x9 := x9.step s12
            replace w := w.tr s12
            replace gx4 := Ex.tr gx4 s12.g
            replace gx3 := Ex.tr gx3 s12.g
            refine e_val (v := (.int ((size1 : Nat) : Int))) (val_var rfl) ?_
            obtain ⟨c8, hW⟩ := hW
            refine rv2 (z := (.int ((z5 % size1 : Nat) : Int))) (vn_mod val_c val_c c8) ?_
            obtain ⟨at1, eat1⟩ : ∃ at1 : Nat, at1 = z5 % size1 := ⟨_, rfl⟩
            replace hW := hW at1 eat1
            refine nx_set (v := (.int ((at1 : Nat) : Int))) (by rw [eat1]) ?_
            refine hN11 _ _ ?_
            refine a_asgG ?_
            obtain ⟨x10, hx10_1, hW⟩ := hW
            obtain ⟨_, rfl, ix2⟩ := ix_X (K := K) x9 hx10_1
            obtain ⟨c9, hW⟩ := hW
            refine e_val (v := (.int ((1 - x10 : Nat) : Int))) (vn_sub val_c (ix2 (val_var rfl) (val_var rfl)) c9) ?_
            obtain ⟨c10, hW⟩ := hW
            refine a_lset x9 w c10 rfl (val_var rfl) (val_var rfl) (fun H18 w3 x11 kp2 => ?_)
            replace w := w3
            exact hN9 ((cutT row1 none (some size1)).set at1 (1 - x10)) _ _ _ ⟨_, _, w, gx4, rfl, x11⟩ hW
          · have hW := ifN hW hc3
            exact hN9 (cutT row1 none (some size1)) _ _ _ ⟨_, _, w, gx4, rfl, x9⟩ hW
        · intro row2 σ' F17 H19 hI5 hW
          obtain ⟨p6, o1, w, gx7, rfl, x8⟩ := hI5
          have gx3 := Ex.tr gx3 gx7
          refine a_ret (v := (.ref p6)) (val_var rfl) ?_
          exact hQ _ hW _ _ _ w x8
abbrev s_answers : Stmt := topS 35
/-! _law_answers -/
def W_answers (other1 : Nat × List (Nat × Nat) × List (Nat × Nat)) (state1 : Nat) (many1 : Nat) (R : (List Nat) → Prop) : Prop := (many1 < 1000000) ∧ forW (List.range many1) (([] : List Nat), state1) (fun turn_here1 (found1, state2) nx1 bk1 => ∃ x3, other1.2.2[0]? = some x3 ∧ ∃ x4, other1.2.2[0]? = some x4 ∧ W_odd (x4.1 &&& state2) fun z1 => (found1.length < 1000000) ∧ W_turn other1.2.1 state2 fun z2 => nx1 (found1 ++ [Bool.toNat z1], z2)) fun (found1, state2) => R found1
def sp_answers (K : PySem.W.Frag) (cc : Cz) : Sp := fun vs H Q _ => ∃ (F : Hp) (v1 : V) (other1 : Nat × List (Nat × Nat) × List (Nat × Nat)) (state1 : Nat) (many1 : Nat) (R : (List Nat) → Prop), vs = [v1, (.int ((state1 : Nat) : Int)), (.int ((many1 : Nat) : Int))] ∧ Ex F H ∧ (pO3 cc.Machine "inputs" "nexts" "outs" pN (pTL (pT2 pN pN)) (pTL (pT2 pN pN))).r F v1 other1 ∧ W_answers other1 state1 many1 R ∧ ∀ z, R z → ∀ p F' H', Wf F H F' H' → XL pN H F' H' p z → Q (.ref p) H'
abbrev N_answers : List Str := ["_law_other", "_law_state", "_law_many", "_law_found", "_law_turn_here"]
theorem sc_answers : FnScope N_answers ["_law_other", "_law_state", "_law_many"] (defScope s_answers) := ⟨rfl, rfl, rfl, by decide +kernel, rfl, by decide +kernel, by decide +kernel⟩
theorem ok_answers {P : Program} {w0 : World} {K : PySem.W.Frag} {mg : Str → Option Value} {base : Heap} {f : Addr} {fd : FuncData} {cc : Cz} (T : Tz K mg cc) (FU : Fun K "_law_answers" "_law_answers" s_answers f fd) (hm : mg "_law_answers" = some (.ref f)) (hb : Binds K fd ["_law_other", "_law_state", "_law_many"] []) (c_odd : Fn P w0 K mg base CX0 1 "_law_odd" ["_law_mask"] (sp_odd K cc)) (c_turn : Fn P w0 K mg base CX0 2 "_law_turn" ["_law_nexts", "_law_state"] (sp_turn K cc)) (n_int : mg "int" = none) (n_range : mg "range" = none) : Fn P w0 K mg base CX0 3 "_law_answers" ["_law_other", "_law_state", "_law_many"] (sp_answers K cc) := by
  refine ⟨f, fd, FU.ok sc_answers (fun vs H Q E h => ?_) (fun cdv A outer s H0 vs Q E hr h => ?_), hm, FU.kp, hb⟩
  · obtain ⟨_, _, _, _, _, _, rfl, _⟩ := h; rfl
  · obtain ⟨F0, v1, other1, state1, many1, R, rfl, wf, r1, hW, hQ⟩ := h
    have nd := sc_answers.nd
    refine ⟨(tSeq (tAsg (tLst tNil) (gName 3)) (tSeq (tFor (iRng1 (tCons (tVar 2) tNil)) (gName 4) (tSeq (tDrop (tBM K "list" rAppend (tVar 3) (tCons (tCB rInt1 (tCons (tCall (sp_odd K cc) [] E0 (tCons (tOp kAnd (tOp (L2.rIxT K) (tOp (L2.rIxT K) (tFld K (tVar 0) "outs") (tC (.int 0))) (tC (.int 0))) (tVar 1)) tNil)) tNil)) tNil))) (tAsg (tCall (sp_turn K cc) [] E0 (tCons (tFld K (tVar 0) "nexts") (tCons (tVar 1) tNil))) (gName 1)))) (tRet (tVar 3)))), (pss_cons (ps_set (i := 3) nd rfl (Or.inl rfl) (pe_lst pa_nil)) (pss_cons (ps_for PassesOwn.never rfl (pi_range1 rfl n_range (pa_cons (pv 2) pa_nil)) (pg_name (i := 4) nd rfl (Or.inl rfl)) (pss_cons (ps_expr (pe_bm PySem.F.plainAttrs_list PySem.F.slot_list_append PySem.F.type_list_append mt_append (pv 3) (pa_cons (pe_callTy call_int1 (by rfl) n_int PyProof.Rows.boot_int (pa_cons (pe_fn c_odd (hr.mono (by decide)) rfl (pa_cons (pe_op op_and (pe_ix ix_tup (pe_ix ix_tup (pe_fld (pv 0) rfl) pe_int (fun _ _ => rfl)) pe_int (fun _ _ => rfl)) (pv 1)) pa_nil)) pa_nil)) pa_nil))) (pss_one (ps_set (i := 1) nd rfl (Or.inl rfl) (pe_fn c_turn (hr.mono (by decide)) rfl (pa_cons (pe_fld (pv 0) rfl) (pa_cons (pv 1) pa_nil))))))) (pss_one (ps_ret (pv 3))))), ?_⟩
    have w := Wf.id wf
    refine q_sq fun N1 hN1 => ?_
    refine a_asgE ?_
    refine e_lst ?_
    refine a_nil ?_
    refine n_lstX (e := pN) (xs := []) (vs := []) (show All pN _ [] [] from trivial) (show 0 < 1000000 from by decide) w ?_
    intro p1 H1 hp1 s1 x1
    replace r1 := Rep.mono _ s1.g r1
    replace w := w.tr s1
    refine hN1 _ _ ?_
    refine q_sq fun N2 hN2 => ?_
    refine f_RE ?_
    refine e_val (v := (.int ((many1 : Nat) : Int))) (val_var rfl) ?_
    obtain ⟨c1, hW⟩ := hW
    refine w_forR (S := List Nat × Nat) (fun s σ' F' H' => match s with | (found1, state2) => ∃ (o1 : Option V), Wf F0 H0 F' H' ∧ Ex F0 F' ∧ σ' = [some v1, some (.int ((state2 : Nat) : Int)), some (.int ((many1 : Nat) : Int)), some ((.ref p1)), o1] ∧ XL pN H0 F' H' p1 found1) c1 hW ⟨_, w, Ex.rfl', rfl, x1⟩ ?_ ?_
    · intro N3 Bk1 turn_here1 s2 σ' F1 H2 nx1 bk1 hI1 hx1 hW hN3 hB1
      obtain ⟨found1, state2⟩ := s2
      obtain ⟨o1, w, gx1, rfl, x2⟩ := hI1
      have r1 := Rep.mono _ gx1 r1
      refine g_name ?_
      refine q_sq fun N4 hN4 => ?_
      refine a_dropE ?_
      refine m_list x2 (val_var rfl) ?_
      refine a_cons ?_
      refine e_cb ?_
      refine a_cons ?_
      refine e_call ?_
      obtain ⟨v2, r2, fl1⟩ := fl_33 (K := K) T.cl_Machine T.na_Machine_outs r1 w.f
      obtain ⟨v3, r3, fl2⟩ := fl_33 (K := K) T.cl_Machine T.na_Machine_outs r1 w.f
      obtain ⟨x3, hx3_1, hW⟩ := hW
      obtain ⟨v4, r4, ix1⟩ := ix_TL (K := K) r3 w.f hx3_1
      obtain ⟨v5, r5, fl3⟩ := fl_33 (K := K) T.cl_Machine T.na_Machine_outs r1 w.f
      obtain ⟨v6, r6, fl4⟩ := fl_33 (K := K) T.cl_Machine T.na_Machine_outs r1 w.f
      obtain ⟨x4, hx4_1, hW⟩ := hW
      obtain ⟨v7, r7, ix2⟩ := ix_TL (K := K) r6 w.f hx4_1
      obtain ⟨_, rfl, ix3⟩ := ix_2a (K := K) r7 w.f
      refine a_val (v := (.int ((x4.1 &&& state2 : Nat) : Int))) (vn_and (ix3 (ix2 (fl4 (val_var rfl)) val_c) val_c) (val_var rfl)) ?_
      refine a_nil ?_
      refine ⟨F1, (x4.1 &&& state2), _, rfl, w.f, hW, ?_⟩
      intro z1 hW F2 H3 s3
      replace r1 := Rep.mono _ s3.g r1
      replace x2 := x2.step s3
      replace r2 := Rep.mono _ s3.g r2
      replace r3 := Rep.mono _ s3.g r3
      replace r4 := Rep.mono _ s3.g r4
      replace r5 := Rep.mono _ s3.g r5
      replace r6 := Rep.mono _ s3.g r6
      replace r7 := Rep.mono _ s3.g r7
      replace w := w.tr s3
      replace gx1 := Ex.tr gx1 s3.g
      refine a_nil ?_
      refine rcb1 (z := (.int ((Bool.toNat z1 : Nat) : Int))) (v_intB val_c) ?_
      refine a_nil ?_
      obtain ⟨c2, hW⟩ := hW
      refine a_app x2 w c2 rfl (fun H4 w1 x5 kp1 => ?_)
      replace w := w1
      refine hN4 _ _ ?_
      refine a_asgE ?_
      refine e_call ?_
      obtain ⟨v9, r9, fl5⟩ := fl_32 (K := K) T.cl_Machine T.na_Machine_nexts r1 w.f
      refine a_val (v := v9) (fl5 (val_var rfl)) ?_
      refine a_val (v := (.int ((state2 : Nat) : Int))) (val_var rfl) ?_
      refine a_nil ?_
      refine ⟨F2, (v9), (other1.2.1), (state2), _, rfl, w.f, (sq_TL r9), hW, ?_⟩
      intro z2 hW F3 H5 s4
      replace r1 := Rep.mono _ s4.g r1
      replace x5 := x5.step s4
      replace r9 := Rep.mono _ s4.g r9
      replace w := w.tr s4
      replace gx1 := Ex.tr gx1 s4.g
      exact hN3 (found1 ++ [Bool.toNat z1], z2) _ _ _ ⟨_, w, gx1, rfl, x5⟩ hW
    · intro s5 σ' F4 H6 hI2 hW
      obtain ⟨found1, state2⟩ := s5
      obtain ⟨o1, w, gx2, rfl, x2⟩ := hI2
      have r1 := Rep.mono _ gx2 r1
      refine hN2 _ _ ?_
      refine a_ret (v := (.ref p1)) (val_var rfl) ?_
      exact hQ _ hW _ _ _ w x2
abbrev s_bars : Stmt := topS 36
/-! _law_bars -/
def W_bars (row1 : List Nat) (places1 : List Nat) (many1 : Nat) (R : Bool → Prop) : Prop := if many1 = 0 then (R (decide (places1 = ([] : List Nat)))) else (∀ ahead1 : Int, ahead1 = -1 → forW places1 ahead1 (fun place1 ahead2 nx1 bk1 => if ¬ (ahead2 < ((place1 : Nat) : Int) ∧ ((place1 : Nat) : Int) ≤ (((row1.length : Nat) : Int) - ((many1 : Nat) : Int))) then (R false) else (∀ ahead3 : Int, ahead3 = ((place1 : Nat) : Int) → nx1 ahead3)) fun ahead2 => (1 ≤ many1) ∧ (many1 - 1 < 1000000) ∧ forW (List.range (many1 - 1)) () (fun k1 _ nx2 bk2 => (places1.length < 1000000) ∧ compW places1 (fun place2 kk => ∃ x2, row1[place2 + k1]? = some x2 ∧ kk (some x2)) fun ys1 => if (ys1.sum % 2) = 1 then (R false) else (nx2 ())) fun _ => (places1.length < 1000000) ∧ compW places1 (fun place3 kk => (1 ≤ place3 + many1) ∧ ∃ x4, row1[(place3 + many1) - 1]? = some x4 ∧ kk (some x4)) fun ys2 => R (decide ((ys2.sum % 2) = 1)))
def sp_bars (K : PySem.W.Frag) (cc : Cz) : Sp := fun vs H Q _ => ∃ (F : Hp) (v1 : V) (row1 : List Nat) (v2 : V) (places1 : List Nat) (many1 : Nat) (R : Bool → Prop), vs = [v1, v2, (.int ((many1 : Nat) : Int))] ∧ Ex F H ∧ (pL pN).r F v1 row1 ∧ (pL pN).r F v2 places1 ∧ W_bars row1 places1 many1 R ∧ ∀ z, R z → ∀ F' H', Wf F H F' H' → Q (.bl (z)) H'
abbrev N_bars : List Str := ["_law_row", "_law_places", "_law_many", "_law_ahead", "_law_place", "_law_k"]
theorem sc_bars : FnScope N_bars ["_law_row", "_law_places", "_law_many"] (defScope s_bars) := ⟨rfl, rfl, rfl, by decide +kernel, rfl, by decide +kernel, by decide +kernel⟩
theorem ok_bars {P : Program} {w0 : World} {K : PySem.W.Frag} {mg : Str → Option Value} {base : Heap} {f : Addr} {fd : FuncData} {cc : Cz} (T : Tz K mg cc) (FU : Fun K "_law_bars" "_law_bars" s_bars f fd) (hm : mg "_law_bars" = some (.ref f)) (hb : Binds K fd ["_law_row", "_law_places", "_law_many"] []) (n_bool : mg "bool" = none) (n_int : mg "int" = none) (n_isinstance : mg "isinstance" = none) (n_len : mg "len" = none) (n_range : mg "range" = none) (n_sum : mg "sum" = none) : Fn P w0 K mg base CX0 1 "_law_bars" ["_law_row", "_law_places", "_law_many"] (sp_bars K cc) := by
  refine ⟨f, fd, FU.ok sc_bars (fun vs H Q E h => ?_) (fun cdv A outer s H0 vs Q E hr h => ?_), hm, FU.kp, hb⟩
  · obtain ⟨_, _, _, _, _, _, _, rfl, _⟩ := h; rfl
  · obtain ⟨F0, v1, row1, v2, places1, many1, R, rfl, wf, r1, r2, hW, hQ⟩ := h
    have nd := sc_bars.nd
    refine ⟨(tSeq (tIfS (tTest (tOp L2.rEq (tVar 2) (tC (.int 0)))) (tRet (tOp (L2.rEqD K) (tVar 1) (tLst tNil))) tNext) (tSeq (tAsg (tUn kNeg (tC (.int 1))) (gName 3)) (tSeq (tFor (iList K (tVar 1)) (gName 4) (tSeq (tIfS (tOr (tNot (tB (tCB (rIsi K) (tCons (tVar 4) (tCons (tC (.ty "int")) tNil))))) (tOr (tB (tCB (rIsi K) (tCons (tVar 4) (tCons (tC (.ty "bool")) tNil)))) (tNot (tTest (tChain kLt kLe (tVar 3) (tVar 4) (tOp kSub (tCB (Wk.rLen K) (tCons (tVar 0) tNil)) (tVar 2))))))) (tRet (tC (.bl false))) tNext) (tAsg (tVar 4) (gName 3)))) (tSeq (tFor (iRng1 (tCons (tOp kSub (tVar 2) (tC (.int 1))) tNil)) (gName 5) (tIfS (tTest (tOp L2.rEq (tOp kMod (tCB (L2.rSum K) (tCons (tLc (iList K (tVar 1)) (gName 4) tYes (tOp (L2.rIxL K) (tVar 0) (tOp kAdd (tVar 4) (tVar 5))) [4]) tNil)) (tC (.int 2))) (tC (.int 1)))) (tRet (tC (.bl false))) tNext)) (tRet (tOp L2.rEq (tOp kMod (tCB (L2.rSum K) (tCons (tLc (iList K (tVar 1)) (gName 4) tYes (tOp (L2.rIxL K) (tVar 0) (tOp kSub (tOp kAdd (tVar 4) (tVar 2)) (tC (.int 1)))) [4]) tNil)) (tC (.int 2))) (tC (.int 1)))))))), (pss_cons (ps_if (pt_cmpR op_eq (pv 2) pe_int (nomark _)) (pss_one (ps_ret (pe_cmpR (op_eqD hr.units) (pv 1) (pe_lst pa_nil) (nomark _)))) pss_nil) (pss_cons (ps_set (i := 3) nd rfl (Or.inl rfl) (pe_un un_neg pe_int)) (pss_cons (ps_for PassesOwn.never rfl (pi_list (pv 1)) (pg_name (i := 4) nd rfl (Or.inl rfl)) (pss_cons (ps_if (PW.pt (pw_or (pt_not (pt_val (pe_callB call_isi (by rfl) n_isinstance PyProof.Rows.boot_isinstance (pa_cons (pv 4) (pa_cons (pe_bltn (v := .ty "int") (by rfl) n_int PyProof.Rows.boot_int rfl) pa_nil))))) (pw_or (pt_val (pe_callB call_isi (by rfl) n_isinstance PyProof.Rows.boot_isinstance (pa_cons (pv 4) (pa_cons (pe_bltn (v := .ty "bool") (by rfl) n_bool PyProof.Rows.boot_bool rfl) pa_nil)))) (pw_or1 (pt_not (pt_chain op_lt op_le (pv 3) (pv 4) (pe_op op_sub (pe_callB call_len_seq (by rfl) n_len PySem.boot_len (pa_cons (pv 0) pa_nil)) (pv 2)))))))) (pss_one (ps_ret pe_bl)) pss_nil) (pss_one (ps_set (i := 3) nd rfl (Or.inl rfl) (pv 4))))) (pss_cons (ps_for PassesOwn.never rfl (pi_range1 rfl n_range (pa_cons (pe_op op_sub (pv 2) pe_int) pa_nil)) (pg_name (i := 5) nd rfl (Or.inr rfl)) (pss_one (ps_if (pt_cmpR op_eq (pe_op op_mod (pe_callB (cr_sum rfl) (by rfl) n_sum PyProof.Rows.boot_sum (pa_cons (pe_lc (own := [("_law_place", 4)]) (wi := (iList K (tVar 1))) (g := (gName 4)) (tt := tYes) (te := (tOp (L2.rIxL K) (tVar 0) (tOp kAdd (tVar 4) (tVar 5)))) rfl nd (pi_list (pv 1)) (blkOk_by (N := N_bars) (sc := defScope s_bars) (by decide +kernel)) (fun _ _ _ _ _ => (pg_name (i := 4) nd rfl (Or.inl rfl))) (fun _ _ _ _ _ => pts_nil) (fun _ _ _ _ _ => (pe_ix ix_list (pv 0) (pe_op op_add (pv 4) (pv 5)) (fun _ _ => rfl)))) pa_nil)) pe_int) pe_int (nomark _)) (pss_one (ps_ret pe_bl)) pss_nil))) (pss_one (ps_ret (pe_cmpR op_eq (pe_op op_mod (pe_callB (cr_sum rfl) (by rfl) n_sum PyProof.Rows.boot_sum (pa_cons (pe_lc (own := [("_law_place", 4)]) (wi := (iList K (tVar 1))) (g := (gName 4)) (tt := tYes) (te := (tOp (L2.rIxL K) (tVar 0) (tOp kSub (tOp kAdd (tVar 4) (tVar 2)) (tC (.int 1))))) rfl nd (pi_list (pv 1)) (blkOk_by (N := N_bars) (sc := defScope s_bars) (by decide +kernel)) (fun _ _ _ _ _ => (pg_name (i := 4) nd rfl (Or.inl rfl))) (fun _ _ _ _ _ => pts_nil) (fun _ _ _ _ _ => (pe_ix ix_list (pv 0) (pe_op op_sub (pe_op op_add (pv 4) (pv 2)) pe_int) (fun _ _ => rfl)))) pa_nil)) pe_int) pe_int (nomark _)))))))), ?_⟩
    have w := Wf.id wf
    refine q_sq fun N1 hN1 => ?_
    refine a_ifE ?_
    refine e_ans (b := decide (many1 = 0)) (t_of (vb_dec (c_eqI (val_var rfl) val_c) n_eq)) ?_
    refine b_if (fun hc1 => ?_) (fun hc1 => ?_)
    · have hW := ifP hW hc1
      refine a_retE ?_
      refine e_op ?_
      refine e_val (v := v2) (val_var rfl) ?_
      refine e_lst ?_
      refine a_nil ?_
      refine n_lstX (e := pN) (xs := []) (vs := []) (show All pN _ [] [] from trivial) (show 0 < 1000000 from by decide) w ?_
      intro p1 H1 hp1 s1 x1
      replace r1 := Rep.mono _ s1.g r1
      replace r2 := Rep.mono _ s1.g r2
      replace w := w.tr s1
      obtain ⟨F1, w1, g1, r3, fz1⟩ := x1.frzE w
      replace r1 := Rep.mono _ g1 r1
      replace r2 := Rep.mono _ g1 r2
      replace w := w1
      refine rv2 (z := .bl (decide (places1 = ([] : List Nat)))) (c_eqD (K := K) (e := (pL pN)) val_c val_c w.f r2 w.f r3) ?_
      exact hQ _ hW _ _ w
    · have hW := ifN hW hc1
      refine hN1 _ _ ?_
      refine q_sq fun N2 hN2 => ?_
      obtain ⟨ahead1, eahead1⟩ : ∃ ahead1 : Int, ahead1 = -1 := ⟨_, rfl⟩
      replace hW := hW ahead1 eahead1
      refine a_asg (v := (.int (ahead1))) (v_eq (v_neg val_c) (by rw [eahead1])) ?_
      refine hN2 _ _ ?_
      refine q_sq fun N3 hN3 => ?_
      refine f_LE ?_
      refine e_val (v := v2) (val_var rfl) ?_
      refine w_forL (S := Int) (fun ahead2 σ' F' H' => ∃ (o1 : Option V), Wf F0 H0 F' H' ∧ Ex F0 F' ∧ σ' = [some v1, some v2, some (.int ((many1 : Nat) : Int)), some (.int (ahead2)), o1, none]) r2 hW ⟨_, w, Ex.rfl', rfl⟩ (fun s σ' F' H' hI => by obtain ⟨_, w', gx', _⟩ := hI; exact ⟨gx', w'.f⟩) w.f ?_ ?_
      · intro N4 Bk1 place1 u1 ahead2 σ' F2 H2 nx1 bk1 hI1 hx1 ru1 hW hN4 hB1
        obtain ⟨o1, w, gx1, rfl⟩ := hI1
        have r1 := Rep.mono _ gx1 r1
        have r2 := Rep.mono _ gx1 r2
        obtain rfl : u1 = (.int ((place1 : Nat) : Int)) := ru1
        refine g_name ?_
        refine q_sq fun N5 hN5 => ?_
        refine a_ifE ?_
        refine e_ans (b := decide (¬ (ahead2 < ((place1 : Nat) : Int) ∧ ((place1 : Nat) : Int) ≤ (((row1.length : Nat) : Int) - ((many1 : Nat) : Int))))) (t_iff (p := (¬ (True)) ∨ ((False) ∨ (¬ (ahead2 < ((place1 : Nat) : Int) ∧ ((place1 : Nat) : Int) ≤ (((row1.length : Nat) : Int) - ((many1 : Nat) : Int)))))) (q := ¬ (ahead2 < ((place1 : Nat) : Int) ∧ ((place1 : Nat) : Int) ≤ (((row1.length : Nat) : Int) - ((many1 : Nat) : Int)))) (t_or (t_not (t_ofB (vb_of (v_isi (b := true) (val_var rfl) (.base (.int _)) (by decide +kernel)) dec_T))) (fun _ => (t_or (t_ofB (vb_of (v_isi (b := false) (val_var rfl) (.base (.int _)) (by decide +kernel)) dec_F)) (fun _ => (t_not (t_of (vb_of (v_chain (b1 := decide (ahead2 < ((place1 : Nat) : Int))) (b2 := decide (((place1 : Nat) : Int) ≤ (((row1.length : Nat) : Int) - ((many1 : Nat) : Int)))) (x := (.int (ahead2))) (y := (.int ((place1 : Nat) : Int))) (z := (.int (((row1.length : Nat) : Int) - ((many1 : Nat) : Int)))) (val_var rfl) (val_var rfl) (vi0 (len_L r1 w.f (val_var rfl)) (val_var rfl)) (fun Q k => rv2 (c_lt val_c val_c) k) (fun Q k => rv2 (c_le val_c val_c) k)) dec_and))))))) (by simp)) ?_
        refine b_if (fun hc2 => ?_) (fun hc2 => ?_)
        · have hW := ifP hW hc2
          refine a_ret (v := (.bl (false))) val_c ?_
          exact hQ _ hW _ _ w
        · have hW := ifN hW hc2
          refine hN5 _ _ ?_
          obtain ⟨ahead3, eahead2⟩ : ∃ ahead3 : Int, ahead3 = ((place1 : Nat) : Int) := ⟨_, rfl⟩
          replace hW := hW ahead3 eahead2
          refine a_asg (v := (.int (ahead3))) (v_eq (val_var rfl) (by rw [eahead2])) ?_
          exact hN4 ahead3 _ _ _ ⟨_, w, gx1, rfl⟩ hW
      · intro ahead2 σ' F3 H3 hI2 hW
        obtain ⟨o1, w, gx2, rfl⟩ := hI2
        have r1 := Rep.mono _ gx2 r1
        have r2 := Rep.mono _ gx2 r2
        refine hN3 _ _ ?_
        refine q_sq fun N6 hN6 => ?_
        refine f_RE ?_
        obtain ⟨c1, hW⟩ := hW
        refine e_val (v := (.int ((many1 - 1 : Nat) : Int))) (vn_sub (val_var rfl) val_c c1) ?_
        obtain ⟨c2, hW⟩ := hW
        refine w_forR (S := Unit) (fun _ σ' F' H' => ∃ (o2 : Option V), Wf F0 H0 F' H' ∧ Ex F3 F' ∧ σ' = [some v1, some v2, some (.int ((many1 : Nat) : Int)), some (.int (ahead2)), o1, o2]) c2 hW ⟨_, w, Ex.rfl', rfl⟩ ?_ ?_
        · intro N7 Bk2 k1 s4 σ' F4 H4 nx2 bk2 hI3 hx2 hW hN7 hB2
          obtain ⟨o2, w, gx3, rfl⟩ := hI3
          have r1 := Rep.mono _ gx3 r1
          have r2 := Rep.mono _ gx3 r2
          have gx2 := Ex.tr gx2 gx3
          refine g_name ?_
          refine a_ifE ?_
          refine e_tT ?_
          refine e_op ?_
          refine e_op ?_
          refine e_cb ?_
          refine a_cons ?_
          refine c_LE ?_
          refine e_val (v := v2) (val_var rfl) ?_
          obtain ⟨c3, hW⟩ := hW
          refine w_compL (e := pN) r2 w c3 hW ?_ ?_
          · intro Qy Qn place2 u3 F5 H5 R1 q1 hx3 ru3 hW hy1 hn1
            have r1 := Rep.mono _ q1.g r1
            have r2 := Rep.mono _ q1.g r2
            have w := Wf.id q1.f
            obtain rfl : u3 = (.int ((place2 : Nat) : Int)) := ru3
            refine ⟨rfl, ?_⟩
            refine c_yes ?_
            obtain ⟨x2, hx2_1, hW⟩ := hW
            obtain ⟨_, rfl, ix1⟩ := ix_L (K := K) r1 w.f hx2_1
            refine e_val (v := (.int ((x2 : Nat) : Int))) (ix1 (val_var rfl) (vn_add (val_var rfl) (val_var rfl))) ?_
            exact hy1 _ _ _ _ w rfl hW
          intro p2 ys1 F6 H6 hp2 s5 x3 hW
          replace r1 := Rep.mono _ s5.g r1
          replace r2 := Rep.mono _ s5.g r2
          replace w := w.tr s5
          replace gx3 := Ex.tr gx3 s5.g
          replace gx2 := Ex.tr gx2 s5.g
          refine a_nil ?_
          refine rcb1 (z := (.int ((ys1.sum : Nat) : Int))) (vn_sumX x3 val_c) ?_
          refine e_val (v := (.int ((2 : Nat) : Int))) val_c ?_
          refine rv2 (z := (.int ((ys1.sum % 2 : Nat) : Int))) (vn_mod val_c val_c (by decide)) ?_
          refine e_val (v := (.int ((1 : Nat) : Int))) val_c ?_
          refine rv2T (b := decide ((ys1.sum % 2) = 1)) (vb_dec (c_eqI val_c val_c) n_eq) ?_
          refine b_if (fun hc3 => ?_) (fun hc3 => ?_)
          · have hW := ifP hW hc3
            refine a_ret (v := (.bl (false))) val_c ?_
            exact hQ _ hW _ _ w
          · have hW := ifN hW hc3
            exact hN7 () _ _ _ ⟨_, w, gx3, rfl⟩ hW
        · intro s6 σ' F7 H7 hI4 hW
          obtain ⟨o2, w, gx4, rfl⟩ := hI4
          have r1 := Rep.mono _ gx4 r1
          have r2 := Rep.mono _ gx4 r2
          have gx2 := Ex.tr gx2 gx4
          refine hN6 _ _ ?_
          refine a_retE ?_
          refine e_op ?_
          refine e_op ?_
          refine e_cb ?_
          refine a_cons ?_
          refine c_LE ?_
          refine e_val (v := v2) (val_var rfl) ?_
          obtain ⟨c4, hW⟩ := hW
          refine w_compL (e := pN) r2 w c4 hW ?_ ?_
          · intro Qy Qn place3 u4 F8 H8 R2 q2 hx4 ru4 hW hy2 hn2
            have r1 := Rep.mono _ q2.g r1
            have r2 := Rep.mono _ q2.g r2
            have w := Wf.id q2.f
            obtain rfl : u4 = (.int ((place3 : Nat) : Int)) := ru4
            refine ⟨rfl, ?_⟩
            refine c_yes ?_
            obtain ⟨c5, hW⟩ := hW
            obtain ⟨x4, hx4_1, hW⟩ := hW
            obtain ⟨_, rfl, ix2⟩ := ix_L (K := K) r1 w.f hx4_1
            refine e_val (v := (.int ((x4 : Nat) : Int))) (ix2 (val_var rfl) (vn_sub (vn_add (val_var rfl) (val_var rfl)) val_c c5)) ?_
            exact hy2 _ _ _ _ w rfl hW
          intro p3 ys2 F9 H9 hp3 s7 x5 hW
          replace r1 := Rep.mono _ s7.g r1
          replace r2 := Rep.mono _ s7.g r2
          replace w := w.tr s7
          replace gx4 := Ex.tr gx4 s7.g
          replace gx2 := Ex.tr gx2 s7.g
          refine a_nil ?_
          refine rcb1 (z := (.int ((ys2.sum : Nat) : Int))) (vn_sumX x5 val_c) ?_
          refine e_val (v := (.int ((2 : Nat) : Int))) val_c ?_
          refine rv2 (z := (.int ((ys2.sum % 2 : Nat) : Int))) (vn_mod val_c val_c (by decide)) ?_
          refine e_val (v := (.int ((1 : Nat) : Int))) val_c ?_
          refine rv2 (z := .bl (decide ((ys2.sum % 2) = 1))) (vb_dec (c_eqI val_c val_c) n_eq) ?_
          exact hQ _ hW _ _ w
abbrev s_right : Stmt := topS 37
/-! _law_right -/
def W_right (row1 : List Nat) (R : Bool → Prop) : Prop := W_heard (An.l (row1.map (fun n : Nat => An.i (n : Int)))) False fun z1 => jn (fun kk => if 3 ≠ 3 then (kk true) else (if row1 ≠ row1 then (kk true) else (kk false))) fun b1 => if b1 = true then (R false) else (W_Machine_stores z1.1 fun z2 => jn (fun kk => if z1.1.1 ≠ 0 then (kk true) else (W_Machine_outputs z1.1 fun z3 => if z3 ≠ 1 then (kk true) else (kk (decide (row1.length < z2))))) fun b2 => if b2 = true then (R false) else (jn (fun kk => (z2 < 100000000) ∧ kk (decide (¬ (0 ≤ z1.2.1 ∧ z1.2.1 < (2 ^ z2))))) fun b3 => if b3 = true then (R false) else (jn (fun kk => W_Machine_told z1.1 fun z4 => ∃ x2, z4.2.2[0]? = some x2 ∧ if x2.2 ≠ 0 then (kk true) else (W_answers z1.1 z1.2.1 row1.length fun z5 => kk (decide (z5 ≠ row1)))) fun b4 => if b4 = true then (R false) else (jn (fun kk => W_bars row1 z1.2.2 z2 fun z6 => if z6 = true then (([0].length * row1.length < 1000000 ∧ row1.length < 1000000) ∧ W_Machine_run z1.1 (((List.replicate row1.length [0]).flatten).map anN) (An.i ((z1.2.1 : Nat) : Int)) False fun z7 => kk (decide (z7 = row1))) else (kk false)) fun b5 => R b5))))
def sp_right (K : PySem.W.Frag) (cc : Cz) : Sp := fun vs H Q _ => ∃ (F : Hp) (v1 : V) (row1 : List Nat) (R : Bool → Prop), vs = [v1] ∧ Ex F H ∧ (pL pN).r F v1 row1 ∧ W_right row1 R ∧ ∀ z, R z → ∀ F' H', Wf F H F' H' → Q (.bl (z)) H'
abbrev N_right : List Str := ["_law_row", "_law_handed", "_law_told", "_law_other", "_law_start", "_law_places", "_law_many"]
theorem sc_right : FnScope N_right ["_law_row"] (defScope s_right) := ⟨rfl, rfl, rfl, by decide +kernel, rfl, by decide +kernel, by decide +kernel⟩
theorem ok_right {P : Program} {w0 : World} {K : PySem.W.Frag} {mg : Str → Option Value} {base : Heap} {f : Addr} {fd : FuncData} {cc : Cz} (T : Tz K mg cc) (FU : Fun K "_law_right" "_law_right" s_right f fd) (hm : mg "_law_right" = some (.ref f)) (hb : Binds K fd ["_law_row"] []) (c_heard : Fn P w0 K mg base (L2.CX P w0) 6 "heard" ["row"] (sp_heard K cc)) (c_Machine_stores : Md P w0 K mg base CX0 1 cc.Machine "stores" ["self"] (sp_Machine_stores K cc)) (c_Machine_outputs : Md P w0 K mg base CX0 1 cc.Machine "outputs" ["self"] (sp_Machine_outputs K cc)) (c_Machine_told : Md P w0 K mg base CX0 1 cc.Machine "told" ["self"] (sp_Machine_told K cc)) (c_answers : Fn P w0 K mg base CX0 3 "_law_answers" ["_law_other", "_law_state", "_law_many"] (sp_answers K cc)) (c_bars : Fn P w0 K mg base CX0 1 "_law_bars" ["_law_row", "_law_places", "_law_many"] (sp_bars K cc)) (c_Machine_run : MdD P w0 K mg base (L2.CX P w0) 6 cc.Machine "run" ["self", "rows", "state"] (sp_Machine_run K cc) [.int 0]) (n_bool : mg "bool" = none) (n_int : mg "int" = none) (n_isinstance : mg "isinstance" = none) (n_len : mg "len" = none) (n_list : mg "list" = none) (n_tuple : mg "tuple" = none) : Fn P w0 K mg base CX0 7 "_law_right" ["_law_row"] (sp_right K cc) := by
  refine ⟨f, fd, FU.ok sc_right (fun vs H Q E h => ?_) (fun cdv A outer s H0 vs Q E hr h => ?_), hm, FU.kp, hb⟩
  · obtain ⟨_, _, _, _, rfl, _⟩ := h; rfl
  · obtain ⟨F0, v1, row1, R, rfl, wf, r1, hW, hQ⟩ := h
    have nd := sc_right.nd
    refine ⟨(tSeq (tAsg (tCB (rListOf K) (tCons (tVar 0) tNil)) (gName 1)) (tSeq (tAsg (tCall (sp_heard K cc) [] E0 (tCons (tVar 1) tNil)) (gName 2)) (tSeq (tIfS (tOr (tNot (tB (tCB (rIsi K) (tCons (tVar 2) (tCons (tC (.ty "tuple")) tNil))))) (tOr (tTest (tOp L2.rNe (tCB (Wk.rLen K) (tCons (tVar 2) tNil)) (tC (.int 3)))) (tOr (tTest (tOp (L2.rNeD K) (tVar 1) (tVar 0))) (tNot (tB (tCB (rIsi K) (tCons (tOp (L2.rIxT K) (tVar 2) (tC (.int 0))) (tCons (tC (.ref cc.Machine)) tNil)))))))) (tRet (tC (.bl false))) tNext) (tSeq (tAsg (tVar 2) (gTup K 3 (gCons (gName 3) (gCons (gName 4) (gCons (gName 5) gNil))))) (tSeq (tAsg (tMeth cc.Machine "stores" (sp_Machine_stores K cc) [] E0 (tVar 3) tNil) (gName 6)) (tSeq (tIfS (tOr (tTest (tOp L2.rNe (tFld K (tVar 3) "inputs") (tC (.int 0)))) (tOr (tTest (tOp L2.rNe (tMeth cc.Machine "outputs" (sp_Machine_outputs K cc) [] E0 (tVar 3) tNil) (tC (.int 1)))) (tOr (tTest (tOp kGt (tVar 6) (tCB (Wk.rLen K) (tCons (tVar 0) tNil)))) (tNot (tB (tCB (rIsi K) (tCons (tVar 5) (tCons (tC (.ty "list")) tNil)))))))) (tRet (tC (.bl false))) tNext) (tSeq (tIfS (tOr (tNot (tB (tCB (rIsi K) (tCons (tVar 4) (tCons (tC (.ty "int")) tNil))))) (tOr (tB (tCB (rIsi K) (tCons (tVar 4) (tCons (tC (.ty "bool")) tNil)))) (tNot (tTest (tChain kLe kLt (tC (.int 0)) (tVar 4) (tOp kShl (tC (.int 1)) (tVar 6))))))) (tRet (tC (.bl false))) tNext) (tSeq (tIfS (tOr (tTest (tOp L2.rNe (tOp (L2.rIxT K) (tOp (L2.rIxL K) (tOp (L2.rIxT K) (tMeth cc.Machine "told" (sp_Machine_told K cc) [] E0 (tVar 3) tNil) (tC (.int 2))) (tC (.int 0))) (tC (.int 1))) (tC (.int 0)))) (tTest (tOp (L2.rNeD K) (tCall (sp_answers K cc) [] E0 (tCons (tVar 3) (tCons (tVar 4) (tCons (tCB (Wk.rLen K) (tCons (tVar 0) tNil)) tNil)))) (tVar 0)))) (tRet (tC (.bl false))) tNext) (tRet (tAndV (tCall (sp_bars K cc) [] E0 (tCons (tVar 0) (tCons (tVar 5) (tCons (tVar 6) tNil)))) (tOp (L2.rEqD K) (tMeth cc.Machine "run" (sp_Machine_run K cc) [] E0 (tVar 3) (tCons (tOp L2.rRep (tLst (tCons (tC (.int 0)) tNil)) (tCB (Wk.rLen K) (tCons (tVar 0) tNil))) (tCons (tVar 4) tNil))) (tVar 0)))))))))))), (pss_cons (ps_set (i := 1) nd rfl (Or.inl rfl) (pe_callTy call_list_of (by rfl) n_list PyProof.Rows.boot_list (pa_cons (pv 0) pa_nil))) (pss_cons (ps_set (i := 2) nd rfl (Or.inl rfl) (pe_fnL c_heard (hr.mono (by decide)) rfl (pa_cons (pv 1) pa_nil))) (pss_cons (ps_if (PW.pt (pw_or (pt_not (pt_val (pe_callB call_isi (by rfl) n_isinstance PyProof.Rows.boot_isinstance (pa_cons (pv 2) (pa_cons (pe_bltn (v := .ty "tuple") (by rfl) n_tuple PyProof.Rows.boot_tuple rfl) pa_nil))))) (pw_or (pt_cmpR op_ne (pe_callB call_len_seq (by rfl) n_len PySem.boot_len (pa_cons (pv 2) pa_nil)) pe_int (nomark _)) (pw_or (pt_cmpR (op_neD hr.units) (pv 1) (pv 0) (nomark _)) (pw_or1 (pt_not (pt_val (pe_callB call_isi (by rfl) n_isinstance PyProof.Rows.boot_isinstance (pa_cons (pe_ix ix_tup (pv 2) pe_int (fun _ _ => rfl)) (pa_cons (pe_glob (by rfl) T.ci_Machine.g rfl) pa_nil)))))))))) (pss_one (ps_ret pe_bl)) pss_nil) (pss_cons (ps_asg (pv 2) (pg_tup rfl (pgs_cons (pg_name (i := 3) nd rfl (Or.inl rfl)) (pgs_cons (pg_name (i := 4) nd rfl (Or.inl rfl)) (pgs_cons (pg_name (i := 5) nd rfl (Or.inl rfl)) pgs_nil))) (by rfl))) (pss_cons (ps_set (i := 6) nd rfl (Or.inl rfl) (pe_md0 c_Machine_stores T.cl_Machine (hr.mono (by decide)) (pv 3))) (pss_cons (ps_if (PW.pt (pw_or (pt_cmpR op_ne (pe_fld (pv 3) rfl) pe_int (nomark _)) (pw_or (pt_cmpR op_ne (pe_md0 c_Machine_outputs T.cl_Machine (hr.mono (by decide)) (pv 3)) pe_int (nomark _)) (pw_or (pt_cmpR op_gt (pv 6) (pe_callB call_len_seq (by rfl) n_len PySem.boot_len (pa_cons (pv 0) pa_nil)) (nomark _)) (pw_or1 (pt_not (pt_val (pe_callB call_isi (by rfl) n_isinstance PyProof.Rows.boot_isinstance (pa_cons (pv 5) (pa_cons (pe_bltn (v := .ty "list") (by rfl) n_list PyProof.Rows.boot_list rfl) pa_nil)))))))))) (pss_one (ps_ret pe_bl)) pss_nil) (pss_cons (ps_if (PW.pt (pw_or (pt_not (pt_val (pe_callB call_isi (by rfl) n_isinstance PyProof.Rows.boot_isinstance (pa_cons (pv 4) (pa_cons (pe_bltn (v := .ty "int") (by rfl) n_int PyProof.Rows.boot_int rfl) pa_nil))))) (pw_or (pt_val (pe_callB call_isi (by rfl) n_isinstance PyProof.Rows.boot_isinstance (pa_cons (pv 4) (pa_cons (pe_bltn (v := .ty "bool") (by rfl) n_bool PyProof.Rows.boot_bool rfl) pa_nil)))) (pw_or1 (pt_not (pt_chain op_le op_lt pe_int (pv 4) (pe_op op_shlW pe_int (pv 6)))))))) (pss_one (ps_ret pe_bl)) pss_nil) (pss_cons (ps_if (PW.pt (pw_or (pt_cmpR op_ne (pe_ix ix_tup (pe_ix ix_list (pe_ix ix_tup (pe_md0 c_Machine_told T.cl_Machine (hr.mono (by decide)) (pv 3)) pe_int (fun _ _ => rfl)) pe_int (fun _ _ => rfl)) pe_int (fun _ _ => rfl)) pe_int (nomark _)) (pw_or1 (pt_cmpR (op_neD hr.units) (pe_fn c_answers (hr.mono (by decide)) rfl (pa_cons (pv 3) (pa_cons (pv 4) (pa_cons (pe_callB call_len_seq (by rfl) n_len PySem.boot_len (pa_cons (pv 0) pa_nil)) pa_nil)))) (pv 0) (nomark _))))) (pss_one (ps_ret pe_bl)) pss_nil) (pss_one (ps_ret (pe_and (pe_fn c_bars (hr.mono (by decide)) rfl (pa_cons (pv 0) (pa_cons (pv 5) (pa_cons (pv 6) pa_nil)))) (pe_one (pe_cmpR (op_eqD hr.units) (pe_mdL c_Machine_run.full T.cl_Machine (hr.mono (by decide)) (pv 3) (pa_cons (pe_op op_rep (pe_lst (pa_cons pe_int pa_nil)) (pe_callB call_len_seq (by rfl) n_len PySem.boot_len (pa_cons (pv 0) pa_nil))) (pa_cons (pv 4) pa_nil))) (pv 0) (nomark _)))))))))))))), ?_⟩
    have w := Wf.id wf
    refine q_sq fun N1 hN1 => ?_
    refine a_asgE ?_
    refine e_cb ?_
    refine a_val (v := v1) (val_var rfl) ?_
    refine a_nil ?_
    refine n_listX r1 w ?_
    intro p1 H1 hp1 s1 x1
    replace r1 := Rep.mono _ s1.g r1
    replace w := w.tr s1
    obtain ⟨F1, w1, g1, r2, fz1⟩ := x1.frzE w
    replace r1 := Rep.mono _ g1 r1
    replace w := w1
    refine hN1 _ _ ?_
    refine q_sq fun N2 hN2 => ?_
    refine a_asgE ?_
    refine e_call ?_
    refine a_val (v := (.ref p1)) (val_var rfl) ?_
    refine a_nil ?_
    have r3 : pA.r _ (.ref p1) (An.l (row1.map (fun n : Nat => An.i (n : Int)))) := (cv_L cv_nat) r2
    refine ⟨F1, ((.ref p1)), ((An.l (row1.map (fun n : Nat => An.i (n : Int))))), _, _, rfl, w.f, r3, hW, ?_, ?_⟩
    · intro hW; exact hW.elim
    intro z1 hW v2 F2 H2 s2 r4
    replace r1 := Rep.mono _ s2.g r1
    replace r2 := Rep.mono _ s2.g r2
    replace w := w.tr s2
    refine hN2 _ _ ?_
    refine q_sq fun N3 hN3 => ?_
    refine a_ifE ?_
    refine e_jnT hW (fun b F' H' => b = b ∧ Wf F0 H0 F' H' ∧ Ex F2 F') ?_ ?_
    · intro N4 hN4 hW
      have gx1 : Ex F2 F2 := Ex.rfl'
      refine e_tOr ?_
      refine e_ans (b := false) (t_dec (t_iff (p := ¬ (True)) (q := False) (t_not (t_ofB (vb_of (v_isi (b := true) (val_var rfl) (ty_T3 r4 w.f) (by decide +kernel)) dec_T))) (by simp)) dec_F.symm) ?_
      refine if_f ?_
      refine e_tOr ?_
      refine e_ans (b := decide (3 ≠ 3)) (t_of (vb_dec (c_neI (len_T3 r4 w.f (val_var rfl)) val_c) n_ne)) ?_
      refine b_if (fun hc1 => ?_) (fun hc1 => ?_)
      · have hW := ifP hW hc1
        exact hN4 true _ _ ⟨rfl, w, gx1⟩ hW
      · have hW := ifN hW hc1
        refine e_tOr ?_
        refine e_ans (b := decide (row1 ≠ row1)) (t_of (c_neD (K := K) (e := (pL pN)) (val_var rfl) (val_var rfl) w.f r2 w.f r1)) ?_
        refine b_if (fun hc2 => ?_) (fun hc2 => ?_)
        · have hW := ifP hW hc2
          exact hN4 true _ _ ⟨rfl, w, gx1⟩ hW
        · have hW := ifN hW hc2
          obtain ⟨v3, r5, ix1⟩ := ix_3a (K := K) r4 w.f
          refine e_ans (b := false) (t_dec (t_iff (p := ¬ (True)) (q := False) (t_not (t_ofB (vb_of (v_isiC (ix1 (val_var rfl) val_c) (ty_O3 r5 w.f T.cl_Machine T.ci_Machine)) dec_T))) (by simp)) dec_F.symm) ?_
          exact hN4 false _ _ ⟨rfl, w, gx1⟩ hW
    intro b1 F3 H3 hI1 hW
    obtain ⟨_, w, gx2⟩ := hI1
    have r1 := Rep.mono _ gx2 r1
    have r2 := Rep.mono _ gx2 r2
    have r4 := Rep.mono _ gx2 r4
    refine bb_if (fun hc3 => ?_) (fun hc3 => ?_)
    · have hW := ifP hW hc3
      refine a_ret (v := (.bl (false))) val_c ?_
      exact hQ _ hW _ _ w
    · have hW := ifN hW hc3
      refine hN3 _ _ ?_
      refine q_sq fun N5 hN5 => ?_
      refine a_asgG ?_
      refine e_val (v := v2) (val_var rfl) ?_
      have rr1 := r4
      obtain ⟨p2, u1, u2, u3, hv1, h1, r6, rfl, r7⟩ := rr1
      refine ⟨p2, _, hv1, SqT.of (w.f _ _ h1), rfl, _, _, rfl, _, _, rfl, _, _, rfl, rfl, ?_⟩
      refine hN5 _ _ ?_
      refine q_sq fun N6 hN6 => ?_
      refine a_asgE ?_
      refine e_md ?_
      refine e_val (v := u1) (val_var rfl) ?_
      obtain ⟨p3, dx1, fs1, ev1, ho1, lm1⟩ := me_3 (m := "stores") r6 w.f
      refine ⟨_, _, _, ev1, ho1, lm1, ?_⟩
      refine a_nil ?_
      refine ⟨F3, (u1), (z1.1), _, rfl, w.f, r6, hW, ?_⟩
      intro z2 hW F4 H4 s3
      replace r1 := Rep.mono _ s3.g r1
      replace r2 := Rep.mono _ s3.g r2
      replace r4 := Rep.mono _ s3.g r4
      replace r6 := Rep.mono _ s3.g r6
      replace r7 := Rep.mono _ s3.g r7
      replace w := w.tr s3
      refine hN6 _ _ ?_
      refine q_sq fun N7 hN7 => ?_
      refine a_ifE ?_
      refine e_jnT hW (fun b F' H' => b = b ∧ Wf F0 H0 F' H' ∧ Ex F4 F') ?_ ?_
      · intro N8 hN8 hW
        have gx3 : Ex F4 F4 := Ex.rfl'
        refine e_tOr ?_
        obtain ⟨_, rfl, fl1⟩ := fl_31 (K := K) T.cl_Machine T.na_Machine_inputs r6 w.f
        refine e_ans (b := decide (z1.1.1 ≠ 0)) (t_of (vb_dec (c_neI (fl1 (val_var rfl)) val_c) n_ne)) ?_
        refine b_if (fun hc4 => ?_) (fun hc4 => ?_)
        · have hW := ifP hW hc4
          exact hN8 true _ _ ⟨rfl, w, gx3⟩ hW
        · have hW := ifN hW hc4
          refine e_tOr ?_
          refine e_tT ?_
          refine e_op ?_
          refine e_md ?_
          refine e_val (v := u1) (val_var rfl) ?_
          obtain ⟨p4, dx2, fs2, ev2, ho2, lm2⟩ := me_3 (m := "outputs") r6 w.f
          refine ⟨_, _, _, ev2, ho2, lm2, ?_⟩
          refine a_nil ?_
          refine ⟨F4, (u1), (z1.1), _, rfl, w.f, r6, hW, ?_⟩
          intro z3 hW F5 H5 s4
          replace r1 := Rep.mono _ s4.g r1
          replace r2 := Rep.mono _ s4.g r2
          replace r4 := Rep.mono _ s4.g r4
          replace r6 := Rep.mono _ s4.g r6
          replace r7 := Rep.mono _ s4.g r7
          replace w := w.tr s4
          replace gx3 := Ex.tr gx3 s4.g
          refine e_val (v := (.int ((1 : Nat) : Int))) val_c ?_
          refine rv2T (b := decide (z3 ≠ 1)) (vb_dec (c_neI val_c val_c) n_ne) ?_
          refine b_if (fun hc5 => ?_) (fun hc5 => ?_)
          · have hW := ifP hW hc5
            exact hN8 true _ _ ⟨rfl, w, gx3⟩ hW
          · have hW := ifN hW hc5
            refine e_ans (b := decide (row1.length < z2)) (t_iff (p := (row1.length < z2) ∨ (¬ (True))) (q := row1.length < z2) (t_or (t_of (vb_dec (c_gt (val_var rfl) (len_L r1 w.f (val_var rfl))) n_lt)) (fun _ => (t_not (t_ofB (vb_of (v_isi (b := true) (val_var rfl) (ty_L r7 w.f) (by decide +kernel)) dec_T))))) (by simp)) ?_
            exact hN8 (decide (row1.length < z2)) _ _ ⟨rfl, w, gx3⟩ hW
      intro b2 F6 H6 hI2 hW
      obtain ⟨_, w, gx4⟩ := hI2
      have r1 := Rep.mono _ gx4 r1
      have r2 := Rep.mono _ gx4 r2
      have r4 := Rep.mono _ gx4 r4
      have r6 := Rep.mono _ gx4 r6
      have r7 := Rep.mono _ gx4 r7
      refine bb_if (fun hc6 => ?_) (fun hc6 => ?_)
      · have hW := ifP hW hc6
        refine a_ret (v := (.bl (false))) val_c ?_
        exact hQ _ hW _ _ w
      · have hW := ifN hW hc6
        refine hN7 _ _ ?_
        refine q_sq fun N9 hN9 => ?_
        refine a_ifE ?_
        refine e_jnT hW (fun b F' H' => b = b ∧ Wf F0 H0 F' H' ∧ Ex F6 F') ?_ ?_
        · intro N10 hN10 hW
          have gx5 : Ex F6 F6 := Ex.rfl'
          refine e_tOr ?_
          refine e_ans (b := false) (t_dec (t_iff (p := ¬ (True)) (q := False) (t_not (t_ofB (vb_of (v_isi (b := true) (val_var rfl) (.base (.int _)) (by decide +kernel)) dec_T))) (by simp)) dec_F.symm) ?_
          refine if_f ?_
          refine e_tOr ?_
          refine e_ans (b := false) (t_dec (t_ofB (vb_of (v_isi (b := false) (val_var rfl) (.base (.int _)) (by decide +kernel)) dec_F)) dec_F.symm) ?_
          refine if_f ?_
          obtain ⟨c1, hW⟩ := hW
          refine e_ans (b := decide (¬ (0 ≤ z1.2.1 ∧ z1.2.1 < (2 ^ z2)))) (t_not (t_of (vb_of (v_chain (b1 := decide (0 ≤ z1.2.1)) (b2 := decide (z1.2.1 < (2 ^ z2))) (x := (.int ((0 : Nat) : Int))) (y := (.int ((z1.2.1 : Nat) : Int))) (z := (.int ((2 ^ z2 : Nat) : Int))) val_c (val_var rfl) (vn_one val_c (val_var rfl) c1) (fun Q k => rv2 (vb_dec (c_le val_c val_c) n_le) k) (fun Q k => rv2 (vb_dec (c_lt val_c val_c) n_lt) k)) dec_and))) ?_
          exact hN10 (decide (¬ (0 ≤ z1.2.1 ∧ z1.2.1 < (2 ^ z2)))) _ _ ⟨rfl, w, gx5⟩ hW
        intro b3 F7 H7 hI3 hW
        obtain ⟨_, w, gx6⟩ := hI3
        have r1 := Rep.mono _ gx6 r1
        have r2 := Rep.mono _ gx6 r2
        have r4 := Rep.mono _ gx6 r4
        have r6 := Rep.mono _ gx6 r6
        have r7 := Rep.mono _ gx6 r7
        refine bb_if (fun hc7 => ?_) (fun hc7 => ?_)
        · have hW := ifP hW hc7
          refine a_ret (v := (.bl (false))) val_c ?_
          exact hQ _ hW _ _ w
        · have hW := ifN hW hc7
          refine hN9 _ _ ?_
          refine q_sq fun N11 hN11 => ?_
          refine a_ifE ?_
          refine e_jnT hW (fun b F' H' => b = b ∧ Wf F0 H0 F' H' ∧ Ex F7 F') ?_ ?_
          · intro N12 hN12 hW
            have gx7 : Ex F7 F7 := Ex.rfl'
            refine e_tOr ?_
            refine e_tT ?_
            refine e_op ?_
            refine e_op ?_
            refine e_op ?_
            refine e_op ?_
            refine e_md ?_
            refine e_val (v := u1) (val_var rfl) ?_
            obtain ⟨p5, dx3, fs3, ev3, ho3, lm3⟩ := me_3 (m := "told") r6 w.f
            refine ⟨_, _, _, ev3, ho3, lm3, ?_⟩
            refine a_nil ?_
            refine ⟨F7, (u1), (z1.1), _, rfl, w.f, r6, hW, ?_⟩
            intro z4 hW v5 F8 H8 s5 r9
            replace r1 := Rep.mono _ s5.g r1
            replace r2 := Rep.mono _ s5.g r2
            replace r4 := Rep.mono _ s5.g r4
            replace r6 := Rep.mono _ s5.g r6
            replace r7 := Rep.mono _ s5.g r7
            replace w := w.tr s5
            replace gx7 := Ex.tr gx7 s5.g
            refine e_val (v := (.int ((2 : Nat) : Int))) val_c ?_
            obtain ⟨v6, r10, ix2⟩ := ix_3c (K := K) r9 w.f
            refine rv2 (z := v6) (ix2 val_c val_c) ?_
            refine e_val (v := (.int ((0 : Nat) : Int))) val_c ?_
            obtain ⟨x2, hx2_1, hW⟩ := hW
            obtain ⟨v7, r11, ix3⟩ := ix_L (K := K) r10 w.f hx2_1
            refine rv2 (z := v7) (ix3 val_c val_c) ?_
            refine e_val (v := (.int ((1 : Nat) : Int))) val_c ?_
            obtain ⟨_, rfl, ix4⟩ := ix_2b (K := K) r11 w.f
            refine rv2 (z := (.int ((x2.2 : Nat) : Int))) (ix4 val_c val_c) ?_
            refine e_val (v := (.int ((0 : Nat) : Int))) val_c ?_
            refine rv2T (b := decide (x2.2 ≠ 0)) (vb_dec (c_neI val_c val_c) n_ne) ?_
            refine b_if (fun hc8 => ?_) (fun hc8 => ?_)
            · have hW := ifP hW hc8
              exact hN12 true _ _ ⟨rfl, w, gx7⟩ hW
            · have hW := ifN hW hc8
              refine e_tT ?_
              refine e_op ?_
              refine e_call ?_
              refine a_val (v := u1) (val_var rfl) ?_
              refine a_val (v := (.int ((z1.2.1 : Nat) : Int))) (val_var rfl) ?_
              refine a_val (v := (.int ((row1.length : Nat) : Int))) (len_L r1 w.f (val_var rfl)) ?_
              refine a_nil ?_
              refine ⟨F8, (u1), (z1.1), (z1.2.1), (row1.length), _, rfl, w.f, r6, hW, ?_⟩
              intro z5 hW p6 F9 H9 s6 x3
              replace x3 := x3.base w
              replace r1 := Rep.mono _ s6.g r1
              replace r2 := Rep.mono _ s6.g r2
              replace r4 := Rep.mono _ s6.g r4
              replace r6 := Rep.mono _ s6.g r6
              replace r7 := Rep.mono _ s6.g r7
              replace r9 := Rep.mono _ s6.g r9
              replace r10 := Rep.mono _ s6.g r10
              replace r11 := Rep.mono _ s6.g r11
              replace w := w.tr s6
              replace gx7 := Ex.tr gx7 s6.g
              refine e_val (v := v1) (val_var rfl) ?_
              obtain ⟨F10, w2, g2, r13, fz2⟩ := x3.frzE w
              replace r1 := Rep.mono _ g2 r1
              replace r2 := Rep.mono _ g2 r2
              replace r4 := Rep.mono _ g2 r4
              replace r6 := Rep.mono _ g2 r6
              replace r7 := Rep.mono _ g2 r7
              replace r9 := Rep.mono _ g2 r9
              replace r10 := Rep.mono _ g2 r10
              replace r11 := Rep.mono _ g2 r11
              replace w := w2
              replace gx7 := Ex.tr gx7 g2
              refine rv2T (b := decide (z5 ≠ row1)) (c_neD (K := K) (e := (pL pN)) val_c val_c w.f r13 w.f r1) ?_
              exact hN12 (decide (z5 ≠ row1)) _ _ ⟨rfl, w, gx7⟩ hW
          intro b4 F11 H10 hI4 hW
          obtain ⟨_, w, gx8⟩ := hI4
          have r1 := Rep.mono _ gx8 r1
          have r2 := Rep.mono _ gx8 r2
          have r4 := Rep.mono _ gx8 r4
          have r6 := Rep.mono _ gx8 r6
          have r7 := Rep.mono _ gx8 r7
          refine bb_if (fun hc9 => ?_) (fun hc9 => ?_)
          · have hW := ifP hW hc9
            refine a_ret (v := (.bl (false))) val_c ?_
            exact hQ _ hW _ _ w
          · have hW := ifN hW hc9
            refine hN11 _ _ ?_
            refine a_retE ?_
            refine e_jnV hW (fun b F' H' => b = b ∧ Wf F0 H0 F' H' ∧ Ex F11 F') ?_ ?_
            · intro N13 hN13 hW
              have gx9 : Ex F11 F11 := Ex.rfl'
              refine e_AndV ?_
              refine e_call ?_
              refine a_val (v := v1) (val_var rfl) ?_
              refine a_val (v := u3) (val_var rfl) ?_
              refine a_val (v := (.int ((z2 : Nat) : Int))) (val_var rfl) ?_
              refine a_nil ?_
              refine ⟨F11, (v1), (row1), (u3), (z1.2.2), (z2), _, rfl, w.f, r1, r7, hW, ?_⟩
              intro z6 hW F12 H11 s7
              replace r1 := Rep.mono _ s7.g r1
              replace r2 := Rep.mono _ s7.g r2
              replace r4 := Rep.mono _ s7.g r4
              replace r6 := Rep.mono _ s7.g r6
              replace r7 := Rep.mono _ s7.g r7
              replace w := w.tr s7
              replace gx9 := Ex.tr gx9 s7.g
              refine bl_if ?_
              refine bb_if (fun hc10 => ?_) (fun hc10 => ?_)
              · have hW := ifP hW hc10
                refine e_op ?_
                refine e_md ?_
                refine e_val (v := u1) (val_var rfl) ?_
                obtain ⟨p7, dx4, fs4, ev4, ho4, lm4⟩ := me_3 (m := "run") r6 w.f
                refine ⟨_, _, _, ev4, ho4, lm4, ?_⟩
                refine a_cons ?_
                refine e_op ?_
                refine e_lst ?_
                refine a_val (v := (.int ((0 : Nat) : Int))) val_c ?_
                refine a_nil ?_
                refine n_lstX (e := pN) (xs := [0]) (vs := [(.int ((0 : Nat) : Int))]) (show All pN _ [(.int ((0 : Nat) : Int))] [0] from ⟨rfl, trivial⟩) (show 1 < 1000000 from by decide) w ?_
                intro p8 H12 hp2 s8 x4
                replace r1 := Rep.mono _ s8.g r1
                replace r2 := Rep.mono _ s8.g r2
                replace r4 := Rep.mono _ s8.g r4
                replace r6 := Rep.mono _ s8.g r6
                replace r7 := Rep.mono _ s8.g r7
                replace w := w.tr s8
                replace gx9 := Ex.tr gx9 s8.g
                refine e_val (v := (.int ((row1.length : Nat) : Int))) (len_L r1 w.f (val_var rfl)) ?_
                obtain ⟨F13, w3, g3, r14, fz3⟩ := x4.frzE w
                replace r1 := Rep.mono _ g3 r1
                replace r2 := Rep.mono _ g3 r2
                replace r4 := Rep.mono _ g3 r4
                replace r6 := Rep.mono _ g3 r6
                replace r7 := Rep.mono _ g3 r7
                replace w := w3
                replace gx9 := Ex.tr gx9 g3
                obtain ⟨c2, hW⟩ := hW
                refine n_rep (n := row1.length) r14 w c2.1 c2.2 ?_
                intro p9 H13 hp3 s9 x5
                replace r1 := Rep.mono _ s9.g r1
                replace r2 := Rep.mono _ s9.g r2
                replace r4 := Rep.mono _ s9.g r4
                replace r6 := Rep.mono _ s9.g r6
                replace r7 := Rep.mono _ s9.g r7
                replace r14 := Rep.mono _ s9.g r14
                replace w := w.tr s9
                replace gx9 := Ex.tr gx9 s9.g
                refine a_val (v := (.int ((z1.2.1 : Nat) : Int))) (val_var rfl) ?_
                refine a_nil ?_
                obtain ⟨F14, w4, g4, r15, fz4⟩ := x5.frzE w
                replace r1 := Rep.mono _ g4 r1
                replace r2 := Rep.mono _ g4 r2
                replace r4 := Rep.mono _ g4 r4
                replace r6 := Rep.mono _ g4 r6
                replace r7 := Rep.mono _ g4 r7
                replace r14 := Rep.mono _ g4 r14
                replace w := w4
                replace gx9 := Ex.tr gx9 g4
                have r16 := L_any r15
                refine ⟨F14, (u1), (z1.1), ((.ref p9)), ((((List.replicate row1.length [0]).flatten).map anN)), ((.int ((z1.2.1 : Nat) : Int))), ((An.i ((z1.2.1 : Nat) : Int))), _, _, rfl, w.f, r6, r16, (show pA.r _ (.int ((z1.2.1 : Nat) : Int)) (An.i ((z1.2.1 : Nat) : Int)) from rfl), hW, ?_, ?_⟩
                · intro hW; exact hW.elim
                intro z7 hW p10 F15 H14 s10 x6
                replace x6 := x6.base w
                replace r1 := Rep.mono _ s10.g r1
                replace r2 := Rep.mono _ s10.g r2
                replace r4 := Rep.mono _ s10.g r4
                replace r6 := Rep.mono _ s10.g r6
                replace r7 := Rep.mono _ s10.g r7
                replace r14 := Rep.mono _ s10.g r14
                replace r15 := Rep.mono _ s10.g r15
                replace w := w.tr s10
                replace gx9 := Ex.tr gx9 s10.g
                refine e_val (v := v1) (val_var rfl) ?_
                obtain ⟨F16, w5, g5, r17, fz5⟩ := x6.frzE w
                replace r1 := Rep.mono _ g5 r1
                replace r2 := Rep.mono _ g5 r2
                replace r4 := Rep.mono _ g5 r4
                replace r6 := Rep.mono _ g5 r6
                replace r7 := Rep.mono _ g5 r7
                replace r14 := Rep.mono _ g5 r14
                replace r15 := Rep.mono _ g5 r15
                replace w := w5
                replace gx9 := Ex.tr gx9 g5
                refine rv2 (z := .bl (decide (z7 = row1))) (c_eqD (K := K) (e := (pL pN)) val_c val_c w.f r17 w.f r1) ?_
                exact hN13 (decide (z7 = row1)) _ _ ⟨rfl, w, gx9⟩ hW
              · have hW := ifN hW hc10
                exact hN13 false _ _ ⟨rfl, w, gx9⟩ hW
            intro b5 F17 H15 hI5 hW
            obtain ⟨_, w, gx10⟩ := hI5
            have r1 := Rep.mono _ gx10 r1
            have r2 := Rep.mono _ gx10 r2
            have r4 := Rep.mono _ gx10 r4
            have r6 := Rep.mono _ gx10 r6
            have r7 := Rep.mono _ gx10 r7
            exact hQ _ hW _ _ w
abbrev s_refused : Stmt := topS 38
/-! _law_refused -/
def W_refused (row1 : List Nat) (cell_here1 : Int) (R : Bool → Prop) : Prop := W_mix cell_here1 6 fun z1 => (0 < row1.length + 1) ∧ ∀ at1 : Nat, at1 = z1 % (row1.length + 1) → W_mix cell_here1 7 fun z2 => ∃ x3, [(An.i ((2 : Nat) : Int)), (An.i (-1)), (An.b true), An.n, (An.s (PySem.Str.ofString "1")), (An.l ([1].map (fun n : Nat => An.i (n : Int)))), (An.i ((1000000000000000000000000000000 : Nat) : Int))][z2 % 7]? = some x3 ∧ (((cutT row1 none (some at1)).map anN).length + [x3].length < 1000000) ∧ ((((cutT row1 none (some at1)).map anN) ++ [x3]).length + ((cutT row1 (some at1) none).map anN).length < 1000000) ∧ ([1].length * 41 < 1000000 ∧ 41 < 1000000) ∧ (row1.length + ((List.replicate 41 [1]).flatten).length < 1000000) ∧ ∃ x14, [(An.l ((((cutT row1 none (some at1)).map anN) ++ [x3]) ++ ((cutT row1 (some at1) none).map anN))), (An.t (row1.map (fun n : Nat => An.i (n : Int)))), An.n, (An.l ((cutT (row1 ++ ((List.replicate 41 [1]).flatten)) none (some (41 + (modN cell_here1 9)))).map (fun n : Nat => An.i (n : Int)))), (An.s (PySem.Str.ofString "01"))][modN cell_here1 5]? = some x14 ∧ jn (fun kk => W_heard x14 (kk true) fun z3 => kk false) fun refused_here1 => R refused_here1
def sp_refused (K : PySem.W.Frag) (cc : Cz) : Sp := fun vs H Q _ => ∃ (F : Hp) (v1 : V) (row1 : List Nat) (cell_here1 : Int) (R : Bool → Prop), vs = [v1, (.int (cell_here1))] ∧ Ex F H ∧ (pL pN).r F v1 row1 ∧ W_refused row1 cell_here1 R ∧ ∀ z, R z → ∀ F' H', Wf F H F' H' → Q (.bl (z)) H'
abbrev N_refused : List Str := ["_law_row", "_law_cell_here", "_law_at", "_law_odd_here", "_law_thing", "_law_refused_here"]
theorem sc_refused : FnScope N_refused ["_law_row", "_law_cell_here"] (defScope s_refused) := ⟨rfl, rfl, rfl, by decide +kernel, rfl, by decide +kernel, by decide +kernel⟩
theorem ok_refused {P : Program} {w0 : World} {K : PySem.W.Frag} {mg : Str → Option Value} {base : Heap} {f : Addr} {fd : FuncData} {cc : Cz} (T : Tz K mg cc) (FU : Fun K "_law_refused" "_law_refused" s_refused f fd) (hm : mg "_law_refused" = some (.ref f)) (hb : Binds K fd ["_law_row", "_law_cell_here"] []) (c_mix : Fn P w0 K mg base CX0 1 "_law_mix" ["_law_cell_here", "_law_k"] (sp_mix K cc)) (c_heard : Fn P w0 K mg base (L2.CX P w0) 6 "heard" ["row"] (sp_heard K cc)) (n_len : mg "len" = none) (n_tuple : mg "tuple" = none) : Fn P w0 K mg base CX0 7 "_law_refused" ["_law_row", "_law_cell_here"] (sp_refused K cc) := by
  refine ⟨f, fd, FU.ok sc_refused (fun vs H Q E h => ?_) (fun cdv A outer s H0 vs Q E hr h => ?_), hm, FU.kp, hb⟩
  · obtain ⟨_, _, _, _, _, rfl, _⟩ := h; rfl
  · obtain ⟨F0, v1, row1, cell_here1, R, rfl, wf, r1, hW, hQ⟩ := h
    have nd := sc_refused.nd
    refine ⟨(tSeq (tAsg (tOp kMod (tCall (sp_mix K cc) [] E0 (tCons (tVar 1) (tCons (tC (.int 6)) tNil))) (tOp kAdd (tCB (Wk.rLen K) (tCons (tVar 0) tNil)) (tC (.int 1)))) (gName 2)) (tSeq (tAsg (tOp (L2.rIxL K) (tLst (tCons (tC (.int 2)) (tCons (tUn kNeg (tC (.int 1))) (tCons (tC (.bl true)) (tCons (tC .non) (tCons (tC (.str (PySem.Str.ofString "1"))) (tCons (tLst (tCons (tC (.int 1)) tNil)) (tCons (tOp kPow (tC (.int 10)) (tC (.int 30))) tNil)))))))) (tOp kMod (tCall (sp_mix K cc) [] E0 (tCons (tVar 1) (tCons (tC (.int 7)) tNil))) (tC (.int 7)))) (gName 3)) (tSeq (tAsg (tOp (L2.rIxL K) (tLst (tCons (tOp L2.rCat (tOp L2.rCat (tSl (rSlL K) (tVar 0) tNoPart (tPart (tVar 2))) (tLst (tCons (tVar 3) tNil))) (tSl (rSlL K) (tVar 0) (tPart (tVar 2)) tNoPart)) (tCons (tCB (rTupOf K) (tCons (tVar 0) tNil)) (tCons (tC .non) (tCons (tSl (rSlL K) (tOp L2.rCat (tVar 0) (tOp L2.rRep (tLst (tCons (tC (.int 1)) tNil)) (tC (.int 41)))) tNoPart (tPart (tOp kAdd (tC (.int 41)) (tOp kMod (tVar 1) (tC (.int 9)))))) (tCons (tC (.str (PySem.Str.ofString "01"))) tNil)))))) (tOp kMod (tVar 1) (tC (.int 5)))) (gName 4)) (tSeq (tAsg (tC (.bl false)) (gName 5)) (tSeq (tTry K (.ref cc.BadRow) (fun W1 => (tDrop (tCallS (sp_heard K cc) (WE W1) (tCons (tVar 4) tNil)))) (fun _ _ _ => (tAsg (tC (.bl true)) (gName 5))) (fun _ _ _ _ => False)) (tRet (tVar 5))))))), (pss_cons (ps_set (i := 2) nd rfl (Or.inl rfl) (pe_op op_mod (pe_fn c_mix (hr.mono (by decide)) rfl (pa_cons (pv 1) (pa_cons pe_int pa_nil))) (pe_op op_add (pe_callB call_len_seq (by rfl) n_len PySem.boot_len (pa_cons (pv 0) pa_nil)) pe_int))) (pss_cons (ps_set (i := 3) nd rfl (Or.inl rfl) (pe_ix ix_list (pe_lst (pa_cons pe_int (pa_cons (pe_un un_neg pe_int) (pa_cons pe_bl (pa_cons pe_non (pa_cons pe_str (pa_cons (pe_lst (pa_cons pe_int pa_nil)) (pa_cons (pe_op op_pow pe_int pe_int) pa_nil)))))))) (pe_op op_mod (pe_fn c_mix (hr.mono (by decide)) rfl (pa_cons (pv 1) (pa_cons pe_int pa_nil))) pe_int) (fun _ _ => rfl))) (pss_cons (ps_set (i := 4) nd rfl (Or.inl rfl) (pe_ix ix_list (pe_lst (pa_cons (pe_op op_cat (pe_op op_cat (pe_slice sl_list (pv 0) po_none (po_some (pv 2))) (pe_lst (pa_cons (pv 3) pa_nil))) (pe_slice sl_list (pv 0) (po_some (pv 2)) po_none)) (pa_cons (pe_callTy call_tuple_of (by rfl) n_tuple PyProof.Rows.boot_tuple (pa_cons (pv 0) pa_nil)) (pa_cons pe_non (pa_cons (pe_slice sl_list (pe_op op_cat (pv 0) (pe_op op_rep (pe_lst (pa_cons pe_int pa_nil)) pe_int)) po_none (po_some (pe_op op_add pe_int (pe_op op_mod (pv 1) pe_int)))) (pa_cons pe_str pa_nil)))))) (pe_op op_mod (pv 1) pe_int) (fun _ _ => rfl))) (pss_cons (ps_set (i := 5) nd rfl (Or.inl rfl) pe_bl) (pss_cons (ps_try_only (tb := fun W1 => (tDrop (tCallS (sp_heard K cc) (WE W1) (tCons (tVar 4) tNil)))) (ts := fun _ _ _ => (tAsg (tC (.bl true)) (gName 5))) (Wout := (fun _ _ _ _ => False)) rfl rfl ⟨rfl, by decide, Or.inl T.xc_BadRow.g⟩ takes0 (fun W1 pn1 xe1 tk1 po1 => (pss_one (ps_expr (pe_fnS (W := W1) c_heard tk1 (hr.mono (by decide)) rfl (pa_cons (pv 4) pa_nil))))) (fun _ _ _ _ _ _ _ => (pss_one (ps_set (i := 5) nd rfl (Or.inl rfl) pe_bl)))) (pss_one (ps_ret (pv 5)))))))), ?_⟩
    have w := Wf.id wf
    refine q_sq fun N1 hN1 => ?_
    refine a_asgE ?_
    refine e_op ?_
    refine e_call ?_
    refine a_val (v := (.int (cell_here1))) (val_var rfl) ?_
    refine a_val (v := (.int ((6 : Nat) : Int))) val_c ?_
    refine a_nil ?_
    refine ⟨F0, (cell_here1), (6), _, rfl, w.f, hW, ?_⟩
    intro z1 hW F1 H1 s1
    replace r1 := Rep.mono _ s1.g r1
    replace w := w.tr s1
    refine e_val (v := (.int ((row1.length + 1 : Nat) : Int))) (vn_add (len_L r1 w.f (val_var rfl)) val_c) ?_
    obtain ⟨c1, hW⟩ := hW
    refine rv2 (z := (.int ((z1 % (row1.length + 1) : Nat) : Int))) (vn_mod val_c val_c c1) ?_
    obtain ⟨at1, eat1⟩ : ∃ at1 : Nat, at1 = z1 % (row1.length + 1) := ⟨_, rfl⟩
    replace hW := hW at1 eat1
    refine nx_set (v := (.int ((at1 : Nat) : Int))) (by rw [eat1]) ?_
    refine hN1 _ _ ?_
    refine q_sq fun N2 hN2 => ?_
    refine a_asgE ?_
    refine e_op ?_
    refine e_lst ?_
    refine a_val (v := (.int ((2 : Nat) : Int))) val_c ?_
    refine a_val (v := (.int (-1))) (v_neg val_c) ?_
    refine a_val (v := (.bl (true))) val_c ?_
    refine a_val (v := .non) val_c ?_
    refine a_val (v := (.str ((PySem.Str.ofString "1")))) val_c ?_
    refine a_cons ?_
    refine e_lst ?_
    refine a_val (v := (.int ((1 : Nat) : Int))) val_c ?_
    refine a_nil ?_
    refine n_lstX (e := pN) (xs := [1]) (vs := [(.int ((1 : Nat) : Int))]) (show All pN _ [(.int ((1 : Nat) : Int))] [1] from ⟨rfl, trivial⟩) (show 1 < 1000000 from by decide) w ?_
    intro p1 H2 hp1 s2 x1
    replace r1 := Rep.mono _ s2.g r1
    replace w := w.tr s2
    refine a_val (v := (.int ((1000000000000000000000000000000 : Nat) : Int))) (vn_pow (a := 10) (b := 30) (c := 1000000000000000000000000000000) val_c val_c ⟨by decide, by decide⟩ (by decide +kernel)) ?_
    refine a_nil ?_
    obtain ⟨F2, w1, g1, r2, fz1⟩ := x1.frzE w
    replace r1 := Rep.mono _ g1 r1
    replace w := w1
    have r3 : pA.r _ (.ref p1) (An.l ([1].map (fun n : Nat => An.i (n : Int)))) := (cv_L cv_nat) r2
    refine n_lstX (e := pA) (xs := [(An.i ((2 : Nat) : Int)), (An.i (-1)), (An.b true), An.n, (An.s (PySem.Str.ofString "1")), (An.l ([1].map (fun n : Nat => An.i (n : Int)))), (An.i ((1000000000000000000000000000000 : Nat) : Int))]) (vs := [(.int ((2 : Nat) : Int)), (.int (-1)), (.bl (true)), .non, (.str ((PySem.Str.ofString "1"))), (.ref p1), (.int ((1000000000000000000000000000000 : Nat) : Int))]) (show All pA _ [(.int ((2 : Nat) : Int)), (.int (-1)), (.bl (true)), .non, (.str ((PySem.Str.ofString "1"))), (.ref p1), (.int ((1000000000000000000000000000000 : Nat) : Int))] [(An.i ((2 : Nat) : Int)), (An.i (-1)), (An.b true), An.n, (An.s (PySem.Str.ofString "1")), (An.l ([1].map (fun n : Nat => An.i (n : Int)))), (An.i ((1000000000000000000000000000000 : Nat) : Int))] from ⟨(show pA.r _ (.int ((2 : Nat) : Int)) (An.i ((2 : Nat) : Int)) from rfl), ⟨(show pA.r _ (.int (-1)) (An.i (-1)) from rfl), ⟨(show pA.r _ (.bl (true)) (An.b true) from rfl), ⟨(show pA.r _ V.non An.n from rfl), ⟨(show pA.r _ (.str ((PySem.Str.ofString "1"))) (An.s (PySem.Str.ofString "1")) from rfl), ⟨r3, ⟨(show pA.r _ (.int ((1000000000000000000000000000000 : Nat) : Int)) (An.i ((1000000000000000000000000000000 : Nat) : Int)) from rfl), trivial⟩⟩⟩⟩⟩⟩⟩) (show 7 < 1000000 from by decide) w ?_
    intro p2 H3 hp2 s3 x2
    replace r1 := Rep.mono _ s3.g r1
    replace r2 := Rep.mono _ s3.g r2
    replace w := w.tr s3
    refine e_op ?_
    refine e_call ?_
    refine a_val (v := (.int (cell_here1))) (val_var rfl) ?_
    refine a_val (v := (.int ((7 : Nat) : Int))) val_c ?_
    refine a_nil ?_
    refine ⟨F2, (cell_here1), (7), _, rfl, w.f, hW, ?_⟩
    intro z2 hW F3 H4 s4
    replace r1 := Rep.mono _ s4.g r1
    replace r2 := Rep.mono _ s4.g r2
    replace x2 := x2.step s4
    replace w := w.tr s4
    refine e_val (v := (.int ((7 : Nat) : Int))) val_c ?_
    refine rv2 (z := (.int ((z2 % 7 : Nat) : Int))) (vn_mod val_c val_c (by decide)) ?_
    obtain ⟨x3, hx3_1, hW⟩ := hW
    obtain ⟨v2, r4, ix1⟩ := ix_X (K := K) x2 hx3_1
    refine rv2 (z := v2) (ix1 val_c val_c) ?_
    refine hN2 _ _ ?_
    refine q_sq fun N3 hN3 => ?_
    refine a_asgE ?_
    refine e_op ?_
    refine e_lst ?_
    refine a_cons ?_
    refine e_op ?_
    refine e_op ?_
    refine n_cutX (lo := none) (hi := (some at1)) r1 (val_var rfl) po_n (po_s (n := at1) (val_var rfl)) w ?_
    intro p3 H5 hp3 s5 x4
    replace r1 := Rep.mono _ s5.g r1
    replace r4 := Rep.mono _ s5.g r4
    replace w := w.tr s5
    refine e_lst ?_
    refine a_val (v := v2) (val_var rfl) ?_
    refine a_nil ?_
    refine n_lstX (e := pA) (xs := [x3]) (vs := [v2]) (show All pA _ [v2] [x3] from ⟨r4, trivial⟩) (show 1 < 1000000 from by decide) w ?_
    intro p4 H6 hp4 s6 x5
    have ne1 := x4.ne hp4
    replace r1 := Rep.mono _ s6.g r1
    replace r4 := Rep.mono _ s6.g r4
    replace x4 := x4.step s6
    replace w := w.tr s6
    obtain ⟨F4, w2, g2, r5, fz2⟩ := x4.frzE w
    replace r1 := Rep.mono _ g2 r1
    replace r4 := Rep.mono _ g2 r4
    replace x5 := x5.frzO fz2 (Ne.symm ne1) g2
    replace w := w2
    have r6 := L_any r5
    obtain ⟨F5, w3, g3, r7, fz3⟩ := x5.frzE w
    replace r1 := Rep.mono _ g3 r1
    replace r4 := Rep.mono _ g3 r4
    replace r5 := Rep.mono _ g3 r5
    replace r6 := Rep.mono _ g3 r6
    replace w := w3
    obtain ⟨c2, hW⟩ := hW
    refine n_cat r6 r7 w c2 ?_
    intro p5 H7 hp5 s7 x6
    replace r1 := Rep.mono _ s7.g r1
    replace r4 := Rep.mono _ s7.g r4
    replace r5 := Rep.mono _ s7.g r5
    replace r7 := Rep.mono _ s7.g r7
    replace r6 := Rep.mono _ s7.g r6
    replace w := w.tr s7
    refine n_cutX (lo := (some at1)) (hi := none) r1 (val_var rfl) (po_s (n := at1) (val_var rfl)) po_n w ?_
    intro p6 H8 hp6 s8 x7
    have ne2 := x6.ne hp6
    replace r1 := Rep.mono _ s8.g r1
    replace r4 := Rep.mono _ s8.g r4
    replace r5 := Rep.mono _ s8.g r5
    replace r7 := Rep.mono _ s8.g r7
    replace r6 := Rep.mono _ s8.g r6
    replace x6 := x6.step s8
    replace w := w.tr s8
    obtain ⟨F6, w4, g4, r8, fz4⟩ := x7.frzE w
    replace r1 := Rep.mono _ g4 r1
    replace r4 := Rep.mono _ g4 r4
    replace r5 := Rep.mono _ g4 r5
    replace r7 := Rep.mono _ g4 r7
    replace r6 := Rep.mono _ g4 r6
    replace x6 := x6.frzO fz4 ne2 g4
    replace w := w4
    have r9 := L_any r8
    obtain ⟨F7, w5, g5, r10, fz5⟩ := x6.frzE w
    replace r1 := Rep.mono _ g5 r1
    replace r4 := Rep.mono _ g5 r4
    replace r5 := Rep.mono _ g5 r5
    replace r7 := Rep.mono _ g5 r7
    replace r6 := Rep.mono _ g5 r6
    replace r8 := Rep.mono _ g5 r8
    replace r9 := Rep.mono _ g5 r9
    replace w := w5
    obtain ⟨c3, hW⟩ := hW
    refine n_cat r10 r9 w c3 ?_
    intro p7 H9 hp7 s9 x8
    replace r1 := Rep.mono _ s9.g r1
    replace r4 := Rep.mono _ s9.g r4
    replace r5 := Rep.mono _ s9.g r5
    replace r7 := Rep.mono _ s9.g r7
    replace r6 := Rep.mono _ s9.g r6
    replace r10 := Rep.mono _ s9.g r10
    replace r8 := Rep.mono _ s9.g r8
    replace r9 := Rep.mono _ s9.g r9
    replace w := w.tr s9
    refine a_cons ?_
    refine e_cb ?_
    refine a_val (v := v1) (val_var rfl) ?_
    refine a_nil ?_
    refine n_tupOf r1 w ?_
    intro p8 F8 H10 s10 r11
    replace r1 := Rep.mono _ s10.g r1
    replace r4 := Rep.mono _ s10.g r4
    replace r5 := Rep.mono _ s10.g r5
    replace r7 := Rep.mono _ s10.g r7
    replace r6 := Rep.mono _ s10.g r6
    replace r10 := Rep.mono _ s10.g r10
    replace r8 := Rep.mono _ s10.g r8
    replace r9 := Rep.mono _ s10.g r9
    replace x8 := x8.step s10
    replace w := w.tr s10
    refine a_val (v := .non) val_c ?_
    refine a_cons ?_
    refine e_sl ?_
    refine e_op ?_
    refine e_val (v := v1) (val_var rfl) ?_
    refine e_op ?_
    refine e_lst ?_
    refine a_val (v := (.int ((1 : Nat) : Int))) val_c ?_
    refine a_nil ?_
    refine n_lstX (e := pN) (xs := [1]) (vs := [(.int ((1 : Nat) : Int))]) (show All pN _ [(.int ((1 : Nat) : Int))] [1] from ⟨rfl, trivial⟩) (show 1 < 1000000 from by decide) w ?_
    intro p9 H11 hp8 s11 x9
    have ne3 := x8.ne hp8
    replace r1 := Rep.mono _ s11.g r1
    replace r4 := Rep.mono _ s11.g r4
    replace r5 := Rep.mono _ s11.g r5
    replace r7 := Rep.mono _ s11.g r7
    replace r6 := Rep.mono _ s11.g r6
    replace r10 := Rep.mono _ s11.g r10
    replace r8 := Rep.mono _ s11.g r8
    replace r9 := Rep.mono _ s11.g r9
    replace x8 := x8.step s11
    replace r11 := Rep.mono _ s11.g r11
    replace w := w.tr s11
    refine e_val (v := (.int ((41 : Nat) : Int))) val_c ?_
    obtain ⟨F9, w6, g6, r12, fz6⟩ := x9.frzE w
    replace r1 := Rep.mono _ g6 r1
    replace r4 := Rep.mono _ g6 r4
    replace r5 := Rep.mono _ g6 r5
    replace r7 := Rep.mono _ g6 r7
    replace r6 := Rep.mono _ g6 r6
    replace r10 := Rep.mono _ g6 r10
    replace r8 := Rep.mono _ g6 r8
    replace r9 := Rep.mono _ g6 r9
    replace x8 := x8.frzO fz6 ne3 g6
    replace r11 := Rep.mono _ g6 r11
    replace w := w6
    obtain ⟨c4, hW⟩ := hW
    refine n_rep (n := 41) r12 w c4.1 c4.2 ?_
    intro p10 H12 hp9 s12 x10
    have ne4 := x8.ne hp9
    replace r1 := Rep.mono _ s12.g r1
    replace r4 := Rep.mono _ s12.g r4
    replace r5 := Rep.mono _ s12.g r5
    replace r7 := Rep.mono _ s12.g r7
    replace r6 := Rep.mono _ s12.g r6
    replace r10 := Rep.mono _ s12.g r10
    replace r8 := Rep.mono _ s12.g r8
    replace r9 := Rep.mono _ s12.g r9
    replace x8 := x8.step s12
    replace r11 := Rep.mono _ s12.g r11
    replace r12 := Rep.mono _ s12.g r12
    replace w := w.tr s12
    obtain ⟨F10, w7, g7, r13, fz7⟩ := x10.frzE w
    replace r1 := Rep.mono _ g7 r1
    replace r4 := Rep.mono _ g7 r4
    replace r5 := Rep.mono _ g7 r5
    replace r7 := Rep.mono _ g7 r7
    replace r6 := Rep.mono _ g7 r6
    replace r10 := Rep.mono _ g7 r10
    replace r8 := Rep.mono _ g7 r8
    replace r9 := Rep.mono _ g7 r9
    replace x8 := x8.frzO fz7 ne4 g7
    replace r11 := Rep.mono _ g7 r11
    replace r12 := Rep.mono _ g7 r12
    replace w := w7
    obtain ⟨c5, hW⟩ := hW
    refine n_cat r1 r13 w c5 ?_
    intro p11 H13 hp10 s13 x11
    have ne5 := x8.ne hp10
    replace r1 := Rep.mono _ s13.g r1
    replace r4 := Rep.mono _ s13.g r4
    replace r5 := Rep.mono _ s13.g r5
    replace r7 := Rep.mono _ s13.g r7
    replace r6 := Rep.mono _ s13.g r6
    replace r10 := Rep.mono _ s13.g r10
    replace r8 := Rep.mono _ s13.g r8
    replace r9 := Rep.mono _ s13.g r9
    replace x8 := x8.step s13
    replace r11 := Rep.mono _ s13.g r11
    replace r12 := Rep.mono _ s13.g r12
    replace r13 := Rep.mono _ s13.g r13
    replace w := w.tr s13
    obtain ⟨F11, w8, g8, r14, fz8⟩ := x11.frzE w
    replace r1 := Rep.mono _ g8 r1
    replace r4 := Rep.mono _ g8 r4
    replace r5 := Rep.mono _ g8 r5
    replace r7 := Rep.mono _ g8 r7
    replace r6 := Rep.mono _ g8 r6
    replace r10 := Rep.mono _ g8 r10
    replace r8 := Rep.mono _ g8 r8
    replace r9 := Rep.mono _ g8 r9
    replace x8 := x8.frzO fz8 ne5 g8
    replace r11 := Rep.mono _ g8 r11
    replace r12 := Rep.mono _ g8 r12
    replace r13 := Rep.mono _ g8 r13
    replace w := w8
    refine n_cutX (lo := none) (hi := (some (41 + (modN cell_here1 9)))) r14 val_c po_n (po_s (n := 41 + (modN cell_here1 9)) (vn_add val_c (vm_mod (val_var rfl) val_c (by decide)))) w ?_
    intro p12 H14 hp11 s14 x12
    have ne6 := x8.ne hp11
    replace r1 := Rep.mono _ s14.g r1
    replace r4 := Rep.mono _ s14.g r4
    replace r5 := Rep.mono _ s14.g r5
    replace r7 := Rep.mono _ s14.g r7
    replace r6 := Rep.mono _ s14.g r6
    replace r10 := Rep.mono _ s14.g r10
    replace r8 := Rep.mono _ s14.g r8
    replace r9 := Rep.mono _ s14.g r9
    replace x8 := x8.step s14
    replace r11 := Rep.mono _ s14.g r11
    replace r12 := Rep.mono _ s14.g r12
    replace r13 := Rep.mono _ s14.g r13
    replace r14 := Rep.mono _ s14.g r14
    replace w := w.tr s14
    refine a_val (v := (.str ((PySem.Str.ofString "01")))) val_c ?_
    refine a_nil ?_
    obtain ⟨F12, w9, g9, r15, fz9⟩ := x8.frzE w
    replace r1 := Rep.mono _ g9 r1
    replace r4 := Rep.mono _ g9 r4
    replace r5 := Rep.mono _ g9 r5
    replace r7 := Rep.mono _ g9 r7
    replace r6 := Rep.mono _ g9 r6
    replace r10 := Rep.mono _ g9 r10
    replace r8 := Rep.mono _ g9 r8
    replace r9 := Rep.mono _ g9 r9
    replace r11 := Rep.mono _ g9 r11
    replace r12 := Rep.mono _ g9 r12
    replace r13 := Rep.mono _ g9 r13
    replace r14 := Rep.mono _ g9 r14
    replace x12 := x12.frzO fz9 (Ne.symm ne6) g9
    replace w := w9
    obtain ⟨F13, w10, g10, r16, fz10⟩ := x12.frzE w
    replace r1 := Rep.mono _ g10 r1
    replace r4 := Rep.mono _ g10 r4
    replace r5 := Rep.mono _ g10 r5
    replace r7 := Rep.mono _ g10 r7
    replace r6 := Rep.mono _ g10 r6
    replace r10 := Rep.mono _ g10 r10
    replace r8 := Rep.mono _ g10 r8
    replace r9 := Rep.mono _ g10 r9
    replace r15 := Rep.mono _ g10 r15
    replace r11 := Rep.mono _ g10 r11
    replace r12 := Rep.mono _ g10 r12
    replace r13 := Rep.mono _ g10 r13
    replace r14 := Rep.mono _ g10 r14
    replace w := w10
    have r17 : pA.r _ (.ref p7) (An.l ((((cutT row1 none (some at1)).map anN) ++ [x3]) ++ ((cutT row1 (some at1) none).map anN))) := an_l.mpr r15
    have r18 : pA.r _ (.ref p8) (An.t (row1.map (fun n : Nat => An.i (n : Int)))) := (cv_TL cv_nat) r11
    have r19 : pA.r _ (.ref p12) (An.l ((cutT (row1 ++ ((List.replicate 41 [1]).flatten)) none (some (41 + (modN cell_here1 9)))).map (fun n : Nat => An.i (n : Int)))) := (cv_L cv_nat) r16
    refine n_lstX (e := pA) (xs := [(An.l ((((cutT row1 none (some at1)).map anN) ++ [x3]) ++ ((cutT row1 (some at1) none).map anN))), (An.t (row1.map (fun n : Nat => An.i (n : Int)))), An.n, (An.l ((cutT (row1 ++ ((List.replicate 41 [1]).flatten)) none (some (41 + (modN cell_here1 9)))).map (fun n : Nat => An.i (n : Int)))), (An.s (PySem.Str.ofString "01"))]) (vs := [(.ref p7), (.ref p8), .non, (.ref p12), (.str ((PySem.Str.ofString "01")))]) (show All pA _ [(.ref p7), (.ref p8), .non, (.ref p12), (.str ((PySem.Str.ofString "01")))] [(An.l ((((cutT row1 none (some at1)).map anN) ++ [x3]) ++ ((cutT row1 (some at1) none).map anN))), (An.t (row1.map (fun n : Nat => An.i (n : Int)))), An.n, (An.l ((cutT (row1 ++ ((List.replicate 41 [1]).flatten)) none (some (41 + (modN cell_here1 9)))).map (fun n : Nat => An.i (n : Int)))), (An.s (PySem.Str.ofString "01"))] from ⟨r17, ⟨r18, ⟨(show pA.r _ V.non An.n from rfl), ⟨r19, ⟨(show pA.r _ (.str ((PySem.Str.ofString "01"))) (An.s (PySem.Str.ofString "01")) from rfl), trivial⟩⟩⟩⟩⟩) (show 5 < 1000000 from by decide) w ?_
    intro p13 H15 hp12 s15 x13
    replace r1 := Rep.mono _ s15.g r1
    replace r4 := Rep.mono _ s15.g r4
    replace r5 := Rep.mono _ s15.g r5
    replace r7 := Rep.mono _ s15.g r7
    replace r6 := Rep.mono _ s15.g r6
    replace r10 := Rep.mono _ s15.g r10
    replace r8 := Rep.mono _ s15.g r8
    replace r9 := Rep.mono _ s15.g r9
    replace r15 := Rep.mono _ s15.g r15
    replace r11 := Rep.mono _ s15.g r11
    replace r12 := Rep.mono _ s15.g r12
    replace r13 := Rep.mono _ s15.g r13
    replace r14 := Rep.mono _ s15.g r14
    replace r16 := Rep.mono _ s15.g r16
    replace w := w.tr s15
    refine e_val (v := (.int ((modN cell_here1 5 : Nat) : Int))) (vm_mod (val_var rfl) val_c (by decide)) ?_
    obtain ⟨x14, hx14_1, hW⟩ := hW
    obtain ⟨v3, r20, ix2⟩ := ix_X (K := K) x13 hx14_1
    refine rv2 (z := v3) (ix2 val_c val_c) ?_
    refine hN3 _ _ ?_
    refine q_sq fun N4 hN4 => ?_
    refine a_asg (v := (.bl (false))) val_c ?_
    refine hN4 _ _ ?_
    refine q_jn (S := Bool) hW (fun refused_here1 σ' F' H' => Wf F0 H0 F' H' ∧ Ex F13 F' ∧ σ' = [some v1, some (.int (cell_here1)), some (.int ((at1 : Nat) : Int)), some v2, some v3, some (.bl (refused_here1))]) ?_ ?_
    · intro N5 hN5 hW
      have gx1 : Ex F13 F13 := Ex.rfl'
      refine a_tryI ?_
      refine a_dropE ?_
      refine e_callS ?_
      refine a_val (v := v3) (val_var rfl) ?_
      refine a_nil ?_
      refine ⟨F13, (v3), (x14), _, _, rfl, w.f, r20, hW, ?_, ?_⟩
      · intro hW F14 H16 s16
        replace r1 := Rep.mono _ s16.g r1
        replace r4 := Rep.mono _ s16.g r4
        replace r20 := Rep.mono _ s16.g r20
        replace w := w.tr s16
        replace gx1 := Ex.tr gx1 s16.g
        refine a_exc T.xm_BadRow_BadRow (fun a1 ha1 => ?_)
        refine a_asg (v := (.bl (true))) val_c ?_
        exact hN5 true _ _ _ ⟨w, gx1, rfl⟩ hW
      intro z3 hW v4 F15 H17 s17 r21
      replace r1 := Rep.mono _ s17.g r1
      replace r4 := Rep.mono _ s17.g r4
      replace r20 := Rep.mono _ s17.g r20
      replace w := w.tr s17
      replace gx1 := Ex.tr gx1 s17.g
      exact hN5 false _ _ _ ⟨w, gx1, rfl⟩ hW
    · intro refused_here1 σ' F16 H18 hI1 hW
      obtain ⟨w, gx2, rfl⟩ := hI1
      have r1 := Rep.mono _ gx2 r1
      have r4 := Rep.mono _ gx2 r4
      have r20 := Rep.mono _ gx2 r20
      refine a_ret (v := (.bl (refused_here1))) (val_var rfl) ?_
      exact hQ _ hW _ _ w
abbrev s_law : Stmt := topS 39
/-! law -/
def W_law (script1 : List Int) (R : Bool → Prop) : Prop := forW (cutT script1 none (some 8)) () (fun cell_here1 _ nx1 bk1 => jn (fun kk => W_drawn cell_here1 fun z1 => W_right z1 fun z2 => if z2 = true then (W_drawn cell_here1 fun z3 => W_refused (cutT z3 none (some 39)) cell_here1 fun z4 => kk (!z4)) else (kk true)) fun b1 => if b1 = true then (R false) else (nx1 ())) fun _ => W_cell script1 0 fun z5 => W_mix z5 5 fun z6 => jn (fun kk => W_drawn ((z6 : Nat) : Int) fun z7 => W_right z7 fun z8 => if z8 = true then (([0].length * (z6 % 41) < 1000000 ∧ z6 % 41 < 1000000) ∧ W_right ((List.replicate (z6 % 41) [0]).flatten) fun z9 => if z9 = true then (W_right ([] : List Nat) fun z10 => kk z10) else (kk false)) else (kk false)) fun b2 => R b2
def sp_law (K : PySem.W.Frag) (cc : Cz) : Sp := fun vs H Q _ => ∃ (F : Hp) (v1 : V) (script1 : List Int) (R : Bool → Prop), vs = [v1] ∧ Ex F H ∧ (pScr K).r F v1 script1 ∧ W_law script1 R ∧ ∀ z, R z → ∀ F' H', Wf F H F' H' → Q (.bl (z)) H'
abbrev N_law : List Str := ["_law_script", "_law_cell_here", "_law_one"]
theorem sc_law : FnScope N_law ["_law_script"] (defScope s_law) := ⟨rfl, rfl, rfl, by decide +kernel, rfl, by decide +kernel, by decide +kernel⟩
theorem ok_law {P : Program} {w0 : World} {K : PySem.W.Frag} {mg : Str → Option Value} {base : Heap} {f : Addr} {fd : FuncData} {cc : Cz} (T : Tz K mg cc) (FU : Fun K "law" "law" s_law f fd) (c_drawn : Fn P w0 K mg base CX0 2 "_law_drawn" ["_law_cell_here"] (sp_drawn K cc)) (c_right : Fn P w0 K mg base CX0 7 "_law_right" ["_law_row"] (sp_right K cc)) (c_refused : Fn P w0 K mg base CX0 7 "_law_refused" ["_law_row", "_law_cell_here"] (sp_refused K cc)) (c_cell : Fn P w0 K mg base CX0 1 "_law_cell" ["_law_script", "_law_k"] (sp_cell K cc)) (c_mix : Fn P w0 K mg base CX0 1 "_law_mix" ["_law_cell_here", "_law_k"] (sp_mix K cc)) : FnOk P w0 K mg base CX0 8 f fd ["_law_script"] (sp_law K cc) := by
  refine FU.ok sc_law (fun vs H Q E h => ?_) (fun cdv A outer s H0 vs Q E hr h => ?_)
  · obtain ⟨_, _, _, _, rfl, _⟩ := h; rfl
  · obtain ⟨F0, v1, script1, R, rfl, wf, r1, hW, hQ⟩ := h
    have nd := sc_law.nd
    refine ⟨(tSeq (tFor (iList K (tSl (rSlL K) (tVar 0) tNoPart (tPart (tC (.int 8))))) (gName 1) (tIfS (tOr (tNot (tB (tCall (sp_right K cc) [] E0 (tCons (tCall (sp_drawn K cc) [] E0 (tCons (tVar 1) tNil)) tNil)))) (tNot (tB (tCall (sp_refused K cc) [] E0 (tCons (tSl (rSlL K) (tCall (sp_drawn K cc) [] E0 (tCons (tVar 1) tNil)) tNoPart (tPart (tC (.int 39)))) (tCons (tVar 1) tNil)))))) (tRet (tC (.bl false))) tNext)) (tSeq (tAsg (tCall (sp_mix K cc) [] E0 (tCons (tCall (sp_cell K cc) [] E0 (tCons (tVar 0) (tCons (tC (.int 0)) tNil))) (tCons (tC (.int 5)) tNil))) (gName 2)) (tRet (tAndV (tCall (sp_right K cc) [] E0 (tCons (tCall (sp_drawn K cc) [] E0 (tCons (tVar 2) tNil)) tNil)) (tAndV (tCall (sp_right K cc) [] E0 (tCons (tOp L2.rRep (tLst (tCons (tC (.int 0)) tNil)) (tOp kMod (tVar 2) (tC (.int 41)))) tNil)) (tCall (sp_right K cc) [] E0 (tCons (tLst tNil) tNil))))))), (pss_cons (ps_for PassesOwn.never rfl (pi_list (pe_slice sl_list (pv 0) po_none (po_some pe_int))) (pg_name (i := 1) nd rfl (Or.inl rfl)) (pss_one (ps_if (PW.pt (pw_or (pt_not (pt_val (pe_fn c_right (hr.mono (by decide)) rfl (pa_cons (pe_fn c_drawn (hr.mono (by decide)) rfl (pa_cons (pv 1) pa_nil)) pa_nil)))) (pw_or1 (pt_not (pt_val (pe_fn c_refused (hr.mono (by decide)) rfl (pa_cons (pe_slice sl_list (pe_fn c_drawn (hr.mono (by decide)) rfl (pa_cons (pv 1) pa_nil)) po_none (po_some pe_int)) (pa_cons (pv 1) pa_nil)))))))) (pss_one (ps_ret pe_bl)) pss_nil))) (pss_cons (ps_set (i := 2) nd rfl (Or.inl rfl) (pe_fn c_mix (hr.mono (by decide)) rfl (pa_cons (pe_fn c_cell (hr.mono (by decide)) rfl (pa_cons (pv 0) (pa_cons pe_int pa_nil))) (pa_cons pe_int pa_nil)))) (pss_one (ps_ret (pe_and (pe_fn c_right (hr.mono (by decide)) rfl (pa_cons (pe_fn c_drawn (hr.mono (by decide)) rfl (pa_cons (pv 2) pa_nil)) pa_nil)) (pe_and (pe_fn c_right (hr.mono (by decide)) rfl (pa_cons (pe_op op_rep (pe_lst (pa_cons pe_int pa_nil)) (pe_op op_mod (pv 2) pe_int)) pa_nil)) (pe_one (pe_fn c_right (hr.mono (by decide)) rfl (pa_cons (pe_lst pa_nil) pa_nil))))))))), ?_⟩
    have w := Wf.id wf
    refine q_sq fun N1 hN1 => ?_
    refine f_LE ?_
    refine n_cutS (lo := none) (hi := (some 8)) r1 (val_var rfl) po_n (po_s (n := 8) val_c) w ?_
    intro p1 H1 hp1 s1 x1
    replace r1 := Rep.mono _ s1.g r1
    replace w := w.tr s1
    obtain ⟨F1, w1, g1, r2, fz1⟩ := x1.frzE w
    replace r1 := Rep.mono _ g1 r1
    replace w := w1
    refine w_forL (S := Unit) (fun _ σ' F' H' => ∃ (o1 : Option V), Wf F0 H0 F' H' ∧ Ex F1 F' ∧ σ' = [some v1, o1, none]) r2 hW ⟨_, w, Ex.rfl', rfl⟩ (fun s σ' F' H' hI => by obtain ⟨_, w', gx', _⟩ := hI; exact ⟨gx', w'.f⟩) w.f ?_ ?_
    · intro N2 Bk1 cell_here1 u1 s2 σ' F2 H2 nx1 bk1 hI1 hx1 ru1 hW hN2 hB1
      obtain ⟨o1, w, gx1, rfl⟩ := hI1
      have r1 := Rep.mono _ gx1 r1
      have r2 := Rep.mono _ gx1 r2
      obtain rfl : u1 = (.int (cell_here1)) := ru1
      refine g_name ?_
      refine a_ifE ?_
      refine e_jnT hW (fun b F' H' => b = b ∧ Wf F0 H0 F' H' ∧ Ex F2 F') ?_ ?_
      · intro N3 hN3 hW
        have gx2 : Ex F2 F2 := Ex.rfl'
        refine e_tOr ?_
        refine e_tNot ?_
        refine e_tB ?_
        refine e_call ?_
        refine a_cons ?_
        refine e_call ?_
        refine a_val (v := (.int (cell_here1))) (val_var rfl) ?_
        refine a_nil ?_
        refine ⟨F2, (cell_here1), _, rfl, w.f, hW, ?_⟩
        intro z1 hW p2 F3 H3 s3 x2
        replace x2 := x2.base w
        replace r1 := Rep.mono _ s3.g r1
        replace w := w.tr s3
        replace gx2 := Ex.tr gx2 s3.g
        replace gx1 := Ex.tr gx1 s3.g
        refine a_nil ?_
        obtain ⟨Fl1, lf1, lg1, lr1⟩ := x2.lend w
        refine ⟨Fl1, ((.ref p2)), (z1), _, rfl, lf1, lr1, hW, ?_⟩
        intro z2 hW F4 H4 s4
        replace s4 := Wf.grow w.f s4.h
        replace r1 := Rep.mono _ s4.g r1
        replace x2 := x2.step s4
        replace w := w.tr s4
        replace gx2 := Ex.tr gx2 s4.g
        replace gx1 := Ex.tr gx1 s4.g
        refine bl_v ?_
        refine bb_ifn (fun hc1 => ?_) (fun hc1 => ?_)
        · have hW := ifP hW hc1
          refine e_tNot ?_
          refine e_tB ?_
          refine e_call ?_
          refine a_cons ?_
          refine e_sl ?_
          refine e_call ?_
          refine a_val (v := (.int (cell_here1))) (val_var rfl) ?_
          refine a_nil ?_
          refine ⟨F3, (cell_here1), _, rfl, w.f, hW, ?_⟩
          intro z3 hW p3 F5 H5 s5 x3
          have ne1 := x2.ne x3.zero
          replace x3 := x3.base w
          replace r1 := Rep.mono _ s5.g r1
          replace x2 := x2.step s5
          replace w := w.tr s5
          replace gx2 := Ex.tr gx2 s5.g
          replace gx1 := Ex.tr gx1 s5.g
          obtain ⟨F6, w2, g2, r3, fz2⟩ := x3.frzE w
          replace r1 := Rep.mono _ g2 r1
          replace x2 := x2.frzO fz2 ne1 g2
          replace w := w2
          replace gx2 := Ex.tr gx2 g2
          replace gx1 := Ex.tr gx1 g2
          refine n_cutX (lo := none) (hi := (some 39)) r3 val_c po_n (po_s (n := 39) val_c) w ?_
          intro p4 H6 hp2 s6 x4
          have ne2 := x2.ne hp2
          replace r1 := Rep.mono _ s6.g r1
          replace x2 := x2.step s6
          replace r3 := Rep.mono _ s6.g r3
          replace w := w.tr s6
          replace gx2 := Ex.tr gx2 s6.g
          replace gx1 := Ex.tr gx1 s6.g
          refine a_val (v := (.int (cell_here1))) (val_var rfl) ?_
          refine a_nil ?_
          obtain ⟨Fl2, lf2, lg2, lr2⟩ := x4.lend w
          refine ⟨Fl2, ((.ref p4)), (cutT z3 none (some 39)), (cell_here1), _, rfl, lf2, lr2, hW, ?_⟩
          intro z4 hW F7 H7 s7
          replace s7 := Wf.grow w.f s7.h
          replace r1 := Rep.mono _ s7.g r1
          replace x2 := x2.step s7
          replace r3 := Rep.mono _ s7.g r3
          replace x4 := x4.step s7
          replace w := w.tr s7
          replace gx2 := Ex.tr gx2 s7.g
          replace gx1 := Ex.tr gx1 s7.g
          refine bl_v ?_
          exact hN3 (!z4) _ _ ⟨rfl, w, gx2⟩ hW
        · have hW := ifN hW hc1
          exact hN3 true _ _ ⟨rfl, w, gx2⟩ hW
      intro b1 F8 H8 hI2 hW
      obtain ⟨_, w, gx3⟩ := hI2
      have r1 := Rep.mono _ gx3 r1
      have gx1 := Ex.tr gx1 gx3
      refine bb_if (fun hc2 => ?_) (fun hc2 => ?_)
      · have hW := ifP hW hc2
        refine a_ret (v := (.bl (false))) val_c ?_
        exact hQ _ hW _ _ w
      · have hW := ifN hW hc2
        exact hN2 () _ _ _ ⟨_, w, gx1, rfl⟩ hW
    · intro s8 σ' F9 H9 hI3 hW
      obtain ⟨o1, w, gx4, rfl⟩ := hI3
      have r1 := Rep.mono _ gx4 r1
      have r2 := Rep.mono _ gx4 r2
      refine hN1 _ _ ?_
      refine q_sq fun N4 hN4 => ?_
      refine a_asgE ?_
      refine e_call ?_
      refine a_cons ?_
      refine e_call ?_
      refine a_val (v := v1) (val_var rfl) ?_
      refine a_val (v := (.int ((0 : Nat) : Int))) val_c ?_
      refine a_nil ?_
      refine ⟨F9, (v1), (script1), (0), _, rfl, w.f, r1, hW, ?_⟩
      intro z5 hW F10 H10 s9
      replace r1 := Rep.mono _ s9.g r1
      replace w := w.tr s9
      replace gx4 := Ex.tr gx4 s9.g
      refine a_val (v := (.int ((5 : Nat) : Int))) val_c ?_
      refine a_nil ?_
      refine ⟨F10, (z5), (5), _, rfl, w.f, hW, ?_⟩
      intro z6 hW F11 H11 s10
      replace r1 := Rep.mono _ s10.g r1
      replace w := w.tr s10
      replace gx4 := Ex.tr gx4 s10.g
      refine hN4 _ _ ?_
      refine a_retE ?_
      refine e_jnV hW (fun b F' H' => b = b ∧ Wf F0 H0 F' H' ∧ Ex F11 F') ?_ ?_
      · intro N5 hN5 hW
        have gx5 : Ex F11 F11 := Ex.rfl'
        refine e_AndV ?_
        refine e_call ?_
        refine a_cons ?_
        refine e_call ?_
        refine a_val (v := (.int (((z6 : Nat) : Int)))) (val_var rfl) ?_
        refine a_nil ?_
        refine ⟨F11, (((z6 : Nat) : Int)), _, rfl, w.f, hW, ?_⟩
        intro z7 hW p5 F12 H12 s11 x5
        replace x5 := x5.base w
        replace r1 := Rep.mono _ s11.g r1
        replace w := w.tr s11
        replace gx5 := Ex.tr gx5 s11.g
        replace gx4 := Ex.tr gx4 s11.g
        refine a_nil ?_
        obtain ⟨Fl3, lf3, lg3, lr3⟩ := x5.lend w
        refine ⟨Fl3, ((.ref p5)), (z7), _, rfl, lf3, lr3, hW, ?_⟩
        intro z8 hW F13 H13 s12
        replace s12 := Wf.grow w.f s12.h
        replace r1 := Rep.mono _ s12.g r1
        replace x5 := x5.step s12
        replace w := w.tr s12
        replace gx5 := Ex.tr gx5 s12.g
        replace gx4 := Ex.tr gx4 s12.g
        refine bl_if ?_
        refine bb_if (fun hc3 => ?_) (fun hc3 => ?_)
        · have hW := ifP hW hc3
          refine e_AndV ?_
          refine e_call ?_
          refine a_cons ?_
          refine e_op ?_
          refine e_lst ?_
          refine a_val (v := (.int ((0 : Nat) : Int))) val_c ?_
          refine a_nil ?_
          refine n_lstX (e := pN) (xs := [0]) (vs := [(.int ((0 : Nat) : Int))]) (show All pN _ [(.int ((0 : Nat) : Int))] [0] from ⟨rfl, trivial⟩) (show 1 < 1000000 from by decide) w ?_
          intro p6 H14 hp3 s13 x6
          have ne3 := x5.ne hp3
          replace r1 := Rep.mono _ s13.g r1
          replace x5 := x5.step s13
          replace w := w.tr s13
          replace gx5 := Ex.tr gx5 s13.g
          replace gx4 := Ex.tr gx4 s13.g
          refine e_val (v := (.int ((z6 % 41 : Nat) : Int))) (vn_mod (val_var rfl) val_c (by decide)) ?_
          obtain ⟨F14, w3, g3, r4, fz3⟩ := x6.frzE w
          replace r1 := Rep.mono _ g3 r1
          replace x5 := x5.frzO fz3 ne3 g3
          replace w := w3
          replace gx5 := Ex.tr gx5 g3
          replace gx4 := Ex.tr gx4 g3
          obtain ⟨c1, hW⟩ := hW
          refine n_rep (n := z6 % 41) r4 w c1.1 c1.2 ?_
          intro p7 H15 hp4 s14 x7
          have ne4 := x5.ne hp4
          replace r1 := Rep.mono _ s14.g r1
          replace x5 := x5.step s14
          replace r4 := Rep.mono _ s14.g r4
          replace w := w.tr s14
          replace gx5 := Ex.tr gx5 s14.g
          replace gx4 := Ex.tr gx4 s14.g
          refine a_nil ?_
          obtain ⟨Fl4, lf4, lg4, lr4⟩ := x7.lend w
          refine ⟨Fl4, ((.ref p7)), ((List.replicate (z6 % 41) [0]).flatten), _, rfl, lf4, lr4, hW, ?_⟩
          intro z9 hW F15 H16 s15
          replace s15 := Wf.grow w.f s15.h
          replace r1 := Rep.mono _ s15.g r1
          replace x5 := x5.step s15
          replace r4 := Rep.mono _ s15.g r4
          replace x7 := x7.step s15
          replace w := w.tr s15
          replace gx5 := Ex.tr gx5 s15.g
          replace gx4 := Ex.tr gx4 s15.g
          refine bl_if ?_
          refine bb_if (fun hc4 => ?_) (fun hc4 => ?_)
          · have hW := ifP hW hc4
            refine e_call ?_
            refine a_cons ?_
            refine e_lst ?_
            refine a_nil ?_
            refine n_lstX (e := pN) (xs := []) (vs := []) (show All pN _ [] [] from trivial) (show 0 < 1000000 from by decide) w ?_
            intro p8 H17 hp5 s16 x8
            have ne5 := x5.ne hp5
            have ne6 := x7.ne hp5
            replace r1 := Rep.mono _ s16.g r1
            replace x5 := x5.step s16
            replace r4 := Rep.mono _ s16.g r4
            replace x7 := x7.step s16
            replace w := w.tr s16
            replace gx5 := Ex.tr gx5 s16.g
            replace gx4 := Ex.tr gx4 s16.g
            refine a_nil ?_
            obtain ⟨Fl5, lf5, lg5, lr5⟩ := x8.lend w
            refine ⟨Fl5, ((.ref p8)), (([] : List Nat)), _, rfl, lf5, lr5, hW, ?_⟩
            intro z10 hW F16 H18 s17
            replace s17 := Wf.grow w.f s17.h
            replace r1 := Rep.mono _ s17.g r1
            replace x5 := x5.step s17
            replace r4 := Rep.mono _ s17.g r4
            replace x7 := x7.step s17
            replace x8 := x8.step s17
            replace w := w.tr s17
            replace gx5 := Ex.tr gx5 s17.g
            replace gx4 := Ex.tr gx4 s17.g
            exact hN5 z10 _ _ ⟨rfl, w, gx5⟩ hW
          · have hW := ifN hW hc4
            exact hN5 false _ _ ⟨rfl, w, gx5⟩ hW
        · have hW := ifN hW hc3
          exact hN5 false _ _ ⟨rfl, w, gx5⟩ hW
      intro b2 F17 H19 hI4 hW
      obtain ⟨_, w, gx6⟩ := hI4
      have r1 := Rep.mono _ gx6 r1
      have gx4 := Ex.tr gx4 gx6
      exact hQ _ hW _ _ w
end My
namespace My
open Wk
theorem w_even {n : Nat} {R : Bool → Prop} (h : R (!par n)) : W_even n R := by
  refine whileW_ind (fun s => s.1 ≤ 1 ∧ xor (decide (s.1 = 1)) (par s.2) = par n) (fun s => s.2) ⟨by show 0 ≤ 1; decide, by simp⟩ ?_
  rintro ⟨many, number⟩ nx ⟨h1, h2⟩ hn
  by_cases hp : 0 < number
  · show if decide (0 < number) = true then _ else _
    rw [if_pos (decide_eq_true hp)]
    rintro _ rfl _ rfl
    refine hn _ ⟨?_, ?_⟩ ?_
    · show many ^^^ (number &&& 1) ≤ 1
      rw [Nat.and_one_is_mod]
      have : many = 0 ∨ many = 1 := by simp at h1; omega
      rcases Nat.mod_two_eq_zero_or_one number with e | e <;> rcases this with f | f <;> rw [e, f] <;> decide
    · show xor (decide (many ^^^ (number &&& 1) = 1)) (par (number >>> 1)) = par n
      rw [← h2, Nat.and_one_is_mod, par_step number, Nat.shiftRight_eq_div_pow, Nat.testBit_zero]
      simp only [Nat.pow_one]
      have : many = 0 ∨ many = 1 := by simp at h1; omega
      rcases Nat.mod_two_eq_zero_or_one number with e | e <;> rcases this with f | f <;> simp [e, f]
    · show number >>> 1 < number
      rw [Nat.shiftRight_eq_div_pow]; omega
  · show if decide (0 < number) = true then _ else _
    rw [if_neg (by simpa using hp)]
    have : number = 0 := by omega
    subst this
    show R (decide (many = 0))
    simp [par_zero] at h2
    rw [← h2] at h
    have e : many = 0 ∨ many = 1 := by simp at h1; omega
    rcases e with f | f <;> subst f <;> simpa using h
end My
namespace My
open Wk
theorem w_bits_of {k n : Nat} {R : List Nat → Prop} (hk : k < 1000000) (hn : n < 2 ^ k) (h : R (bl k n)) : W_bits_of n R := by
  refine whileW_ind (fun s => s.2.1 = n >>> s.2.2 ∧ s.1 = bl s.2.2 n ∧ s.2.2 ≤ k) (fun s => k - s.2.2) ⟨rfl, rfl, Nat.zero_le _⟩ ?_
  rintro ⟨found, mask, place⟩ nx ⟨(rfl : mask = n >>> place), (rfl : found = bl place n), (h3 : place ≤ k)⟩ hx
  show if decide (0 < n >>> place) = true then _ else _
  by_cases hp : 0 < n >>> place
  · rw [if_pos (decide_eq_true hp)]
    have hl : place < k := by
      refine Nat.lt_of_not_le fun z => ?_
      rw [Nat.shiftRight_eq_div_pow, Nat.div_eq_of_lt (Nat.lt_of_lt_of_le hn (Nat.pow_le_pow_right (by decide) z))] at hp
      exact Nat.lt_irrefl _ hp
    have nxt : ∀ (s' : List Nat × Nat × Nat), s' = (bl (place + 1) n, n >>> (place + 1), place + 1) → nx s' := fun s' e => hx s' (by subst e; exact ⟨rfl, rfl, hl⟩) (by
      subst e
      show k - (place + 1) < k - place
      omega)
    have e1 : (n >>> place &&& 1 = 1) ↔ n.testBit place = true := by
      rw [Nat.and_one_is_mod, Nat.testBit_eq_decide_div_mod_eq, Nat.shiftRight_eq_div_pow, decide_eq_true_iff]
    have e2 : n >>> place >>> 1 = n >>> (place + 1) := (Nat.shiftRight_add ..).symm
    show if _ then _ else _
    by_cases hb : n.testBit place = true
    · rw [if_pos (e1.mpr hb)]
      refine ⟨Nat.lt_of_le_of_lt (bl_len _ _) (Nat.lt_of_le_of_lt h3 hk), ?_⟩
      rintro _ rfl _ rfl
      exact nxt _ (by rw [bl_snoc, if_pos hb, e2])
    · rw [if_neg (fun z => hb (e1.mp z))]
      rintro _ rfl _ rfl
      exact nxt _ (by rw [bl_snoc, if_neg hb, e2, List.append_nil])
  · rw [if_neg (by simpa using hp)]
    show R (bl place n)
    rw [← bl_more h3 (Nat.eq_zero_of_not_pos hp)]; exact h
end My
namespace My
open Wk
theorem w_mask_of {ps : List Nat} {R : Nat → Prop} (hp : ∀ p ∈ ps, p < 100000000) (h : R (mof ps)) : W_mask_of ps R :=
  forW_fold (fun m p => m ^^^ 2 ^ p) (fun x hx s nx bk hn => ⟨hp x hx, fun _ e => by subst e; exact hn⟩) h
end My
namespace My
open Wk
def cellV (s : List Int) (k : Nat) : Int := if h : k < s.length then s[k] else ((41 * k + 3 : Nat) : Int)
theorem w_cell {s : List Int} {k : Nat} {R : Int → Prop} (h : R (cellV s k)) : W_cell s k R := by
  unfold W_cell
  unfold cellV at h
  by_cases e : k < s.length
  · rw [dif_pos e] at h; rw [if_pos e]; exact ⟨_, List.getElem?_eq_getElem e, h⟩
  · rw [dif_neg e] at h; rw [if_neg e]; exact h
def mixN (c : Int) (k : Nat) : Nat := (((modN c 2147483647) * 48271) + (7919 * k) + 11) % 2147483647
def mixV (c : Int) (k : Nat) : Nat := ((mixN c k * mixN c k % 2147483629) * ((mixN c k * mixN c k % 2147483629 + 48271 * k) + 7)) % 2147483587
theorem w_mix {c : Int} {k : Nat} {R : Nat → Prop} (h : R (mixV c k)) : W_mix c k R := by
  rintro _ rfl
  have b : mixN c k < 2 ^ 64 := Nat.lt_trans (Nat.mod_lt _ (by decide)) (by decide)
  refine ⟨.inl b, ?_⟩
  rintro _ rfl
  exact ⟨.inl (Nat.lt_trans (Nat.mod_lt _ (by decide)) (by decide)), h⟩
end My
namespace My
open Wk
theorem fine_i {z : Int} : fineA (An.i z) := trivial
theorem w_is_whole {x : An} (hf : fineA x) {R : Bool → Prop} (h1 : ∀ z : Int, x = An.i z → R true) (h0 : (∀ z : Int, x ≠ An.i z) → R false) : W_is_whole x R := by
  show R (decide (_ ∧ _))
  by_cases h : ∃ z : Int, x = An.i z
  · rw [decide_eq_true ((isA_int x hf).mpr h)]
    obtain ⟨z, e⟩ := h
    exact h1 z e
  · rw [decide_eq_false (fun q => h ((isA_int x hf).mp q))]
    exact h0 fun z e => h ⟨z, e⟩
theorem w_is_mask {x : An} {w : Nat} (hf : fineA x) (hw : w < 100000000) {R : Bool → Prop} (h1 : okA x w → R true) (h0 : ¬ okA x w → R false) : W_is_mask x w R := by
  refine jnI (w_is_whole hf (fun z e => ?_) fun hn => ?_)
  · rw [if_pos rfl]
    refine ⟨z, e, hw, ?_⟩
    have hp : ((2 ^ w : Nat) : Int) = ((2 ^ w : Nat) : Int) := rfl
    by_cases h : ((0 : Nat) : Int) ≤ z ∧ z < ((2 ^ w : Nat) : Int)
    · rw [decide_eq_true h]
      refine h1 ⟨z.toNat, ?_, ?_⟩
      · rw [e, Int.toNat_of_nonneg (by have := h.1; omega)]
      · have := h.1; have := h.2; omega
    · rw [decide_eq_false h]
      refine h0 fun ⟨n, e2, hn⟩ => h ?_
      rw [e] at e2
      have e3 : z = (n : Int) := An.i.inj e2
      rw [e3]
      exact ⟨by omega, by omega⟩
  · rw [if_neg (by simp)]
    exact h0 fun ⟨n, e, _⟩ => hn _ e
theorem okA_nat {n w : Nat} : okA (An.i (n : Int)) w ↔ n < 2 ^ w := by
  constructor
  · rintro ⟨m, e, h⟩
    have e2 : (n : Int) = (m : Int) := An.i.inj e
    have : n = m := by omega
    rw [this]; exact h
  · exact fun h => ⟨n, rfl, h⟩
end My
namespace My
open Wk
theorem w_is_pairs {ps : List (Nat × Nat)} {most st inp : Nat} (hl : ps.length ≤ most) (hs : st < 100000000) (hi : inp < 100000000) (h : ∀ p ∈ ps, p.1 < 2 ^ st ∧ p.2 < 2 ^ inp) {R : Bool → Prop} (hR : R true) : W_is_pairs ps most st inp R := by
  unfold W_is_pairs
  rw [if_neg (by omega)]
  refine forW_unit (fun p hp nx bk hn => ?_) hR
  rw [if_neg (by simp)]
  refine jnI (w_is_mask fine_i hs (fun _ => ?_) fun q => absurd (okA_nat.mpr (h p hp).1) q)
  rw [if_pos rfl]
  refine w_is_mask fine_i hi (fun _ => ?_) fun q => absurd (okA_nat.mpr (h p hp).2) q
  show if (!true) = true then _ else _
  rw [if_neg (by simp)]; exact hn
theorem w_machine_init {M : Mach} (h : MOk M) {R : Mach → Prop} (hR : R M) : W_Machine___init__ M.1 M.2.1 M.2.2 R := by
  have h1 := h.i; have h2 := h.n; have h3 := h.o
  refine jnI (w_is_whole fine_i (fun z _ => ?_) fun q => absurd rfl (q _))
  rw [if_pos rfl, decide_eq_false (fun q => q ⟨Nat.zero_le _, h1⟩)]
  show if false = true then _ else _
  rw [if_neg (by simp)]
  refine jnI (w_is_pairs h2 (by omega) (by omega) h.mn ?_)
  rw [if_pos rfl]
  refine w_is_pairs h3 (by omega) (by omega) h.mo ?_
  show if (!true) = true then _ else _
  rw [if_neg (by simp)]; exact hR
theorem w_bit_of {p : Nat × Nat} {s r : Nat} {R : Nat → Prop} (h : R (bitf p s r).toNat) : W_bit_of p s r R := by
  refine w_even (w_even ?_)
  have e : decide ((!par (p.1 &&& s)) ≠ (!par (p.2 &&& r))) = bitf p s r := by
    unfold bitf
    cases par (p.1 &&& s) <;> cases par (p.2 &&& r) <;> decide
  rw [e]; exact h
theorem w_bits_by {ps : List (Nat × Nat)} {s r : Nat} (hl : ps.length ≤ 1000) {R : Nat → Prop} (h : R (bitsV ps s r)) : W_bits_by ps s r R := by
  refine w_bits (fun p => bitf p s r) (fun pre p post nx bk e hn => w_bit_of ?_) h
  have hp : pre.length < 1000000 := by rw [e, List.length_append] at hl; omega
  refine ⟨NShl_bit hp, ?_⟩
  rintro _ rfl
  rw [List.map_append] at hn
  have e2 := maskB_snoc (pre.map fun p => bitf p s r) (bitf p s r)
  rw [List.length_map] at e2
  rw [← e2]; exact hn
theorem w_need {M : Mach} {x : An} {w : Nat} {E : Prop} {R : Unit → Prop} (hf : fineA x) (hw : w < 100000000) (h1 : okA x w → R ()) (h0 : ¬ okA x w → E) : W_Machine_need M x w E R := by
  refine w_is_mask hf hw (fun q => ?_) fun q => ?_
  · rw [if_pos rfl]; exact h1 q
  · rw [if_neg (by simp)]; exact h0 q
/-- a turn -/
theorem w_step {M : Mach} (hM : MOk M) {x y : An} {E : Prop} {R : Nat × Nat → Prop} (fx : fineA x) (fy : fineA y) (h1 : ∀ s r : Nat, x = An.i (s : Int) → s < 2 ^ M.2.1.length → y = An.i (r : Int) → r < 2 ^ M.1 → R (outV M s r, nextV M s r)) (h0 : ¬ okA x M.2.1.length ∨ ¬ okA y M.1 → E) : W_Machine_step M x y E R := by
  have m1 := hM.i; have m2 := hM.n; have m3 := hM.o
  unfold W_Machine_step W_Machine_stores
  refine w_need fx (by omega) (fun ⟨s, ex, hs⟩ => ?_) fun q => h0 (.inl q)
  refine w_need fy (by omega) (fun ⟨r, ey, hr⟩ => ?_) fun q => h0 (.inr q)
  refine ⟨s, ex, r, ey, w_bits_by (by omega) ⟨s, ex, r, ey, w_bits_by (by omega) ?_⟩⟩
  exact h1 s r ex hs ey hr
theorem need_rows {M : Mach} (hM : MOk M) {E : Prop} {k : Unit → Prop} : ∀ {rows : List An}, (∀ r ∈ rows, fineA r) → ((∀ r ∈ rows, okA r M.1) → k ()) → ((∃ r ∈ rows, ¬ okA r M.1) → E) → forW rows () (fun row1 _ nx1 bk1 => W_Machine_need M row1 M.1 E fun z3 => nx1 ()) k
  | [], _, h1, _ => h1 (fun r hr => by cases hr)
  | r :: rows, hf, h1, h0 => by
    have m1 := hM.i
    show W_Machine_need M r M.1 E _
    refine w_need (hf r (List.mem_cons_self ..)) (by omega) (fun q => ?_) fun q => h0 ⟨r, List.mem_cons_self .., q⟩
    exact need_rows hM (fun x hx => hf x (List.mem_cons_of_mem _ hx)) (fun h => h1 fun x hx => (List.mem_cons.mp hx).elim (fun e => e ▸ q) (h x)) fun ⟨x, hx, hq⟩ => h0 ⟨x, List.mem_cons_of_mem _ hx, hq⟩
theorem rows_nat : ∀ {rows : List An} {w : Nat}, (∀ r ∈ rows, okA r w) → ∃ rs : List Nat, rows = rs.map anN ∧ ∀ r ∈ rs, r < 2 ^ w
  | [], _, _ => ⟨[], rfl, fun r hr => by cases hr⟩
  | r :: rows, w, h => by
    obtain ⟨n, e, hn⟩ := h r (List.mem_cons_self ..)
    obtain ⟨rs, e2, h2⟩ := rows_nat (rows := rows) fun x hx => h x (List.mem_cons_of_mem _ hx)
    exact ⟨n :: rs, by rw [e, e2]; rfl, fun x hx => (List.mem_cons.mp hx).elim (fun q => by rw [q]; exact hn) (h2 x)⟩
theorem map_anN_inj {rs qs : List Nat} (h : rs.map anN = qs.map anN) : rs = qs := by
  induction rs generalizing qs with
  | nil => cases qs with
    | nil => rfl
    | cons q qs => cases h
  | cons r rs ih =>
    cases qs with
    | nil => cases h
    | cons q qs =>
      rw [List.map_cons, List.map_cons] at h
      injection h with h1 h2
      have : (r : Int) = (q : Int) := An.i.inj h1
      rw [ih h2, show r = q by omega]
/-- a walk over rows -/
theorem w_walk {M : Mach} (hM : MOk M) {rows : List An} {x : An} {E : Prop} {R : List Nat × Nat → Prop} (hl : rows.length < 1000000) (fr : ∀ r ∈ rows, fineA r) (fx : fineA x)
    (h1 : ∀ (rs : List Nat) (s : Nat), rows = rs.map anN → (∀ r ∈ rs, r < 2 ^ M.1) → x = An.i (s : Int) → s < 2 ^ M.2.1.length → R (walkV M rs s)) (h0 : ¬ okA x M.2.1.length ∨ (∃ r ∈ rows, ¬ okA r M.1) → E) : W_Machine_walk M rows x E R := by
  have m1 := hM.i; have m2 := hM.n
  unfold W_Machine_walk W_Machine_stores
  refine w_need fx (by omega) (fun ⟨s, ex, hs⟩ => ?_) fun q => h0 (.inl q)
  refine need_rows hM fr (fun hr => ?_) fun q => h0 (.inr q)
  refine ⟨s, ex, ?_⟩
  obtain ⟨rs, er, hrs⟩ := rows_nat hr
  have fin := h1 rs s er hrs ex hs
  subst er
  rw [List.length_map] at hl
  refine forW_ind (fun pre (t : Nat × List Nat) => ∃ ps, pre = ps.map anN ∧ t = ((walkV M ps s).2, (walkV M ps s).1)) ⟨[], rfl, rfl⟩ (fun pre y post t nx bk e ⟨ps, ep, et⟩ hn _ => ?_) fun t ⟨ps, ep, et⟩ => ?_
  · subst ep et
    have hy : y ∈ rs.map anN := by rw [e]; simp
    obtain ⟨r, hr, ey⟩ := List.mem_map.mp hy
    have le : ps.length < rs.length := by
      have := congrArg List.length e
      rw [List.length_map, List.length_append, List.length_map, List.length_cons] at this; omega
    show W_Machine_step _ _ _ _ _
    refine w_step hM fine_i (by rw [← ey]; exact fine_i) (fun s' r' es hs' er' hr' => ?_) fun q => ?_
    · have es' : (((walkV M ps s).2 : Nat) : Int) = (s' : Int) := An.i.inj es
      have es2 : s' = (walkV M ps s).2 := by omega
      subst es2
      refine ⟨by show (walkV M ps s).1.length < 1000000; rw [walkV_len]; omega, hn _ ⟨ps ++ [r'], by rw [er', List.map_append]; rfl, ?_⟩⟩
      rw [walkV_snoc]
    · rcases q with q | q
      · exact absurd (okA_nat.mpr (walkV_lt hs)) q
      · rw [← ey] at q; exact absurd (okA_nat.mpr (hrs r hr)) q
  · subst et
    have : rs = ps := map_anN_inj ep
    subst this
    exact fin
theorem fine_nats (rs : List Nat) : ∀ r ∈ rs.map anN, fineA r := fun r hr => by
  obtain ⟨n, _, e⟩ := List.mem_map.mp hr
  rw [← e]; exact fine_i
/-- .. of numbers that are masks -/
theorem w_walkN {M : Mach} (hM : MOk M) {rs : List Nat} {s : Nat} {E : Prop} {R : List Nat × Nat → Prop} (hl : rs.length < 1000000) (hr : ∀ r ∈ rs, r < 2 ^ M.1) (hs : s < 2 ^ M.2.1.length) (h : R (walkV M rs s)) : W_Machine_walk M (rs.map anN) (An.i (s : Int)) E R := by
  refine w_walk hM (by rw [List.length_map]; exact hl) (fine_nats rs) fine_i (fun rs' s' e _ es _ => ?_) fun q => ?_
  · have e1 := map_anN_inj e
    have e2 : (s : Int) = (s' : Int) := An.i.inj es
    have e3 : s = s' := by omega
    subst e1 e3; exact h
  · rcases q with q | ⟨r, hr', q⟩
    · exact absurd (okA_nat.mpr hs) q
    · obtain ⟨n, hn, e⟩ := List.mem_map.mp hr'
      rw [← e] at q; exact absurd (okA_nat.mpr (hr n hn)) q
theorem w_stepN {M : Mach} (hM : MOk M) {s r : Nat} {E : Prop} {R : Nat × Nat → Prop} (hs : s < 2 ^ M.2.1.length) (hr : r < 2 ^ M.1) (h : R (outV M s r, nextV M s r)) : W_Machine_step M (An.i (s : Int)) (An.i (r : Int)) E R := by
  refine w_step hM fine_i fine_i (fun s' r' e1 _ e2 _ => ?_) fun q => ?_
  · have e3 : (s : Int) = (s' : Int) := An.i.inj e1
    have e4 : (r : Int) = (r' : Int) := An.i.inj e2
    have e5 : s = s' := by omega
    have e6 : r = r' := by omega
    subst e5 e6; exact h
  · rcases q with q | q
    · exact absurd (okA_nat.mpr hs) q
    · exact absurd (okA_nat.mpr hr) q
end My
namespace My
open Wk
def fineL : An → Prop
  | .o T => T ≠ "list"
  | .l xs => ∀ x ∈ xs, fineA x
  | _ => True
theorem need_rows2 {w : Nat} (hw : w ≤ 1000) {E : Prop} {k : Unit → Prop} : ∀ {rows : List An}, (∀ r ∈ rows, fineA r) → ((∀ r ∈ rows, okA r w) → k ()) → ((∃ r ∈ rows, ¬ okA r w) → E) → forW rows () (fun row1 _ nx1 bk1 => W_is_mask row1 w fun z1 => if z1 = true then (nx1 ()) else (E)) k
  | [], _, h1, _ => h1 (fun r hr => by cases hr)
  | r :: rows, hf, h1, h0 => by
    show W_is_mask r w _
    refine w_is_mask (hf r (List.mem_cons_self ..)) (by omega) (fun q => ?_) fun q => ?_
    · rw [if_pos rfl]
      exact need_rows2 hw (fun x hx => hf x (List.mem_cons_of_mem _ hx)) (fun h => h1 fun x hx => (List.mem_cons.mp hx).elim (fun e => e ▸ q) (h x)) fun ⟨x, hx, hq⟩ => h0 ⟨x, List.mem_cons_of_mem _ hx, hq⟩
    · rw [if_neg (by simp)]; exact h0 ⟨r, List.mem_cons_self .., q⟩
theorem isA_list (x : An) (h : fineL x) : isA "list" x = true ↔ ∃ xs, x = An.l xs := by
  cases x with
  | i z => exact ⟨fun q => by simp [isA, An.ty] at q, fun ⟨z, e⟩ => by cases e⟩
  | b z => exact ⟨fun q => by simp [isA, An.ty] at q, fun ⟨z, e⟩ => by cases e⟩
  | n => exact ⟨fun q => by simp [isA, An.ty] at q, fun ⟨z, e⟩ => by cases e⟩
  | s z => exact ⟨fun q => by simp [isA, An.ty] at q, fun ⟨z, e⟩ => by cases e⟩
  | o T =>
    have h : T ≠ "list" := h
    exact ⟨fun q => by simp [isA, An.ty, h] at q, fun ⟨z, e⟩ => by cases e⟩
  | l xs => exact ⟨fun _ => ⟨xs, rfl⟩, fun _ => by simp [isA, An.ty]⟩
  | t xs => exact ⟨fun q => by simp [isA, An.ty] at q, fun ⟨z, e⟩ => by cases e⟩
theorem fine_rows (ns : List Nat) : fineL (An.l (ns.map anN)) := fun x hx => fine_nats ns x hx
theorem flat_rep (n : Nat) : (List.replicate n [0]).flatten = List.replicate n (0 : Nat) := by
  induction n with
  | zero => rfl
  | succ n ih => rw [List.replicate_succ, List.flatten_cons, ih, List.replicate_succ]; rfl
end My
namespace My
open Wk
/-- what is kept, behind the rows pre -/
structure KI (pre : List Nat) (kept : List (Nat × (Nat × Nat))) : Prop where
  ent : ∀ t l p, valT kept t = some (l, p) → l ≠ 0 ∧ bits l = t ∧ comb pre p = l ∧ p < 2 ^ pre.length
  top : ∀ v, v ≠ 0 → Span pre v → hasT kept (bits v) = true
theorem KI.nil : KI [] [] := ⟨fun t l p h => (by cases h), fun v h s => absurd (Span.nil.mp s) h⟩
/-- behind lowered -/
structure Low (pre : List Nat) (kept : List (Nat × (Nat × Nat))) (row places left more : Nat) : Prop where
  no : hasT kept (bits left) = false
  by_ : ∃ D, D < 2 ^ pre.length ∧ left = row ^^^ comb pre D ∧ more = places ^^^ D
theorem xor4 (a b c : Nat) : (a ^^^ b) ^^^ c = a ^^^ (b ^^^ c) := Nat.xor_assoc a b c
theorem w_lowered {pre : List Nat} {kept : List (Nat × (Nat × Nat))} (K : KI pre kept) {row places : Nat} {R : Nat × Nat → Prop} (h : ∀ z : Nat × Nat, Low pre kept row places z.1 z.2 → R z) : W_Steps_lowered kept row places R := by
  refine whileW_ind (fun s => ∃ D, D < 2 ^ pre.length ∧ s.1 = row ^^^ comb pre D ∧ s.2 = places ^^^ D) (fun s => bits s.1) ⟨0, Nat.two_pow_pos _, by rw [comb_zero, Nat.xor_zero], by rw [Nat.xor_zero]⟩ ?_
  rintro ⟨r, p⟩ nx ⟨D, hD, (e1 : r = _), (e2 : p = _)⟩ hn
  show if decide (hasT kept (bits r) = true) = true then _ else _
  by_cases q : hasT kept (bits r) = true
  · rw [if_pos (decide_eq_true q)]
    obtain ⟨⟨l, pl⟩, hx⟩ : ∃ x, valT kept (bits r) = some x := by
      unfold hasT at q
      cases hv : valT kept (bits r) with
      | none => rw [hv] at q; cases q
      | some x => exact ⟨x, rfl⟩
    refine ⟨(l, pl), hx, ?_⟩
    rintro _ rfl _ rfl
    obtain ⟨h0, hb, hc, hp⟩ := K.ent _ _ _ hx
    have hr : r ≠ 0 := fun z => by rw [z, bits_zero] at hb; exact h0 (bits_eq_zero.mp hb)
    refine hn _ ⟨D ^^^ pl, Nat.xor_lt_two_pow hD hp, ?_, ?_⟩ (bits_xor_eq hb.symm hr)
    · show r ^^^ l = _
      rw [e1, comb_xor, hc, Nat.xor_assoc]
    · show p ^^^ pl = _
      rw [e2, Nat.xor_assoc]
  · rw [if_neg (by simpa using q)]
    exact h (r, p) ⟨by simpa using q, D, hD, e1, e2⟩
theorem Low.zero {pre : List Nat} {kept : List (Nat × (Nat × Nat))} {row places left more : Nat} (K : KI pre kept) (L : Low pre kept row places left more) : left = 0 ↔ Span pre row := by
  obtain ⟨D, hD, e1, e2⟩ := L.by_
  constructor
  · intro h
    rw [h] at e1
    exact ⟨D, (xor0 e1.symm).symm⟩
  · intro h
    refine Classical.byContradiction fun z => ?_
    have hs : Span pre left := by rw [e1]; exact h.xor ⟨D, rfl⟩
    have := K.top left z hs
    rw [L.no] at this; cases this
/-- what Steps(rows) holds -/
structure StepsOk (rows : List Nat) (z : List (Nat × (Nat × Nat)) × List Nat × List Nat) : Prop where
  ki : KI rows z.1
  nd : (z.1.map (·.1)).Nodup
  kl : z.1.length = z.2.1.length
  fnd : z.2.1 = fndP rows
  gon : ∀ g ∈ z.2.2, g ≠ 0 ∧ comb rows g = 0 ∧ g < 2 ^ rows.length
  inc : z.2.2.Pairwise (fun a b => bits a < bits b)
  len : z.2.1.length + z.2.2.length = rows.length
theorem KI.up {pre : List Nat} {kept : List (Nat × (Nat × Nat))} (K : KI pre kept) {x : Nat} : ∀ t l p, valT kept t = some (l, p) → l ≠ 0 ∧ bits l = t ∧ comb (pre ++ [x]) p = l ∧ p < 2 ^ (pre ++ [x]).length := fun t l p h => by
  obtain ⟨a, b, c, d⟩ := K.ent t l p h
  refine ⟨a, b, by rw [comb_snoc, testBit_big d (Nat.le_refl _), c]; simp, Nat.lt_of_lt_of_le d (Nat.pow_le_pow_right (by decide) (by simp))⟩
theorem keys_putT {κ α : Type} [DecidableEq κ] [KeyT κ] {m : List (κ × α)} {j : κ} {x : α} (hn : (m.map (·.1)).Nodup) : ((putT m j x).map (·.1)).Nodup := by
  unfold putT
  by_cases h : hasT m j = true
  · rw [if_pos h, List.map_map]
    have : ((fun q : κ × α => q.1) ∘ fun q => if q.1 = j then (q.1, x) else q) = fun q => q.1 := by
      funext q
      show (if q.1 = j then (q.1, x) else q).1 = q.1
      by_cases e : q.1 = j
      · rw [if_pos e]
      · rw [if_neg e]
    rw [this]; exact hn
  · rw [if_neg h, List.map_append]
    refine List.nodup_append.mpr ⟨hn, by simp, fun a ha b hb e => ?_⟩
    rw [List.mem_singleton.mp (show b ∈ [j] from hb)] at e
    subst e
    exact h (hasT_iff.mpr ha)
theorem w_Steps_init {rows : List Nat} (hl : rows.length < 1000000) {R : (List (Nat × (Nat × Nat)) × List Nat × List Nat) → Prop} (h : ∀ z, StepsOk rows z → R z) : W_Steps___init__ rows R := by
  refine forW_ind (fun pre (s : List Nat × List (Nat × (Nat × Nat)) × List Nat) => ∃ us, rows = us ++ rows.drop us.length ∧ us.length = pre.length ∧ StepsOk us (s.2.1, s.2.2, s.1)) ⟨[], rfl, rfl, ⟨KI.nil, List.nodup_nil, rfl, rfl, fun g hg => (by cases hg), List.Pairwise.nil, rfl⟩⟩ ?_ ?_
  · rintro pre ⟨i, x⟩ post ⟨gone, kept, found⟩ nx bk e ⟨us, hu, hul, S⟩ hn _
    have hget : (enumT rows)[pre.length]? = some (i, x) := by rw [e, List.getElem?_append_right (Nat.le_refl _), Nat.sub_self]; rfl
    rw [enumT_get] at hget
    obtain ⟨y, hy, ey⟩ := Option.map_eq_some_iff.mp hget
    obtain ⟨rfl, rfl⟩ := Prod.ext_iff.mp ey
    have hlt : pre.length < rows.length := (List.getElem?_eq_some_iff.mp hy).1
    have hus : us ++ [y] = rows.take (us.length + 1) := by
      have e1 : us = rows.take us.length := by
        conv => rhs; rw [hu]
        rw [List.take_append_of_le_length (Nat.le_refl _), List.take_length]
      have e2 : rows[us.length]'(by omega) = y := by
        have := (List.getElem?_eq_some_iff.mp hy).2
        simp only [hul]; exact this
      rw [List.take_succ_eq_append_getElem (by omega), e2, ← e1]
    have hnew : rows = (us ++ [y]) ++ rows.drop (us ++ [y]).length := by
      rw [hus, List.length_take, Nat.min_eq_left (by omega), List.take_append_drop]
    have hsl := S.len
    have hsk := S.kl
    have hi : (pre.length : Nat) = us.length := hul.symm
    show (pre.length < 100000000) ∧ _
    refine ⟨by omega, w_lowered S.ki fun z L => ?_⟩
    have hz := L.zero S.ki
    obtain ⟨D, hD, e1, e2⟩ := L.by_
    have hc : comb (us ++ [y]) z.2 = z.1 := by
      show comb (us ++ [y]) z.2 = z.1
      rw [e2, hi, comb_xor, comb_snoc, comb_pow_len, Nat.testBit_two_pow, decide_eq_true rfl, if_pos rfl, comb_snoc, testBit_big hD (Nat.le_refl _), if_neg (by simp), Nat.zero_xor, Nat.xor_zero, e1]
    have hzb : z.2.testBit us.length = true := by rw [e2, hi, Nat.testBit_xor, Nat.testBit_two_pow, decide_eq_true rfl, testBit_big hD (Nat.le_refl _)]; rfl
    have hzl : z.2 < 2 ^ (us.length + 1) := by
      rw [e2, hi]
      exact Nat.xor_lt_two_pow (Nat.pow_lt_pow_right (by decide) (Nat.lt_succ_self _)) (Nat.lt_of_lt_of_le hD (Nat.pow_le_pow_right (by decide) (Nat.le_succ _)))
    have hzz : bits z.2 = us.length + 1 := bits_of_bit hzb hzl
    have ll : (us ++ [y]).length = us.length + 1 := by simp
    by_cases q : z.1 = 0
    · rw [if_pos q]
      have hs := hz.mp q
      refine ⟨by simp only at hsl; omega, hn _ ⟨us ++ [y], hnew, by simp [hul], ?_⟩⟩
      refine ⟨⟨S.ki.up, fun v hv sv => ?_⟩, S.nd, S.kl, ?_, ?_, ?_, ?_⟩
      · rcases Span.snoc.mp sv with a | a
        · exact S.ki.top v hv a
        · refine S.ki.top v hv ?_
          have := a.xor hs
          rwa [Nat.xor_assoc, Nat.xor_self, Nat.xor_zero] at this
      · rw [fndP_snoc, if_pos hs, List.append_nil]; exact S.fnd
      · intro g hg
        rcases List.mem_append.mp hg with m | m
        · obtain ⟨a, b, c⟩ := S.gon g m
          exact ⟨a, by rw [comb_snoc, testBit_big c (Nat.le_refl _), b]; simp, Nat.lt_of_lt_of_le c (Nat.pow_le_pow_right (by decide) (by simp))⟩
        · rw [List.mem_singleton.mp m]
          exact ⟨fun z0 => by rw [z0, bits_zero] at hzz; omega, by rw [hc, q], by rw [ll]; exact hzl⟩
      · refine List.pairwise_append.mpr ⟨S.inc, List.pairwise_singleton _ _, fun a ha b hb => ?_⟩
        rw [List.mem_singleton.mp hb, hzz]
        exact Nat.lt_succ_of_le (bits_le.mpr (S.gon a ha).2.2)
      · simp only [List.length_append, List.length_singleton] at hsl ⊢; omega
    · rw [if_neg q]
      have hs : ¬ Span us y := fun z0 => q (hz.mpr z0)
      refine ⟨by simp only at hsk hsl; omega, by simp only at hsl; omega, hn _ ⟨us ++ [y], hnew, by simp [hul], ?_⟩⟩
      have hno := L.no
      refine ⟨⟨fun t l p hv => ?_, fun v hv sv => ?_⟩, keys_putT S.nd, ?_, ?_, ?_, S.inc, ?_⟩
      · rw [valT_putT] at hv
        by_cases e : bits z.1 = t
        · rw [if_pos e] at hv
          obtain ⟨rfl, rfl⟩ := Prod.ext_iff.mp (Option.some.inj hv)
          exact ⟨q, e, hc, by rw [ll]; exact hzl⟩
        · rw [if_neg e] at hv
          exact S.ki.up t l p hv
      · show hasT (putT kept (bits z.1) (z.1, z.2)) (bits v) = true
        rw [hasT_putT]
        have key : ∀ u, u ≠ 0 → Span us u → hasT kept (bits u) = true := S.ki.top
        rcases Span.snoc.mp sv with a | a
        · rw [key v hv a, Bool.or_true]
        · have a' : Span us (v ^^^ z.1) := by
            have := a.xor ⟨D, rfl⟩
            rw [e1]; rwa [Nat.xor_assoc] at this
          by_cases hu0 : v ^^^ z.1 = 0
          · rw [xor0 hu0, decide_eq_true rfl]; rfl
          · have hk := key _ hu0 a'
            have hne : bits (v ^^^ z.1) ≠ bits z.1 := fun e => by rw [e, hno] at hk; cases hk
            have hm : bits v = max (bits (v ^^^ z.1)) (bits z.1) := by
              rw [← bits_xor_max hne, Nat.xor_assoc, Nat.xor_self, Nat.xor_zero]
            rcases Nat.le_total (bits (v ^^^ z.1)) (bits z.1) with o | o
            · rw [hm, Nat.max_eq_right o, decide_eq_true rfl]; rfl
            · rw [hm, Nat.max_eq_left o, hk, Bool.or_true]
      · show (putT kept (bits z.1) (z.1, z.2)).length = (found ++ [pre.length]).length
        unfold putT
        rw [if_neg (by rw [hno]; simp), List.length_append, List.length_append]
        simp only at hsk
        rw [hsk]; rfl
      · show found ++ [pre.length] = _
        rw [fndP_snoc, if_neg hs, hi]
        have := S.fnd
        simp only at this
        rw [this]
      · intro g hg
        obtain ⟨a, b, c⟩ := S.gon g hg
        exact ⟨a, by rw [comb_snoc, testBit_big c (Nat.le_refl _), b]; simp, Nat.lt_of_lt_of_le c (Nat.pow_le_pow_right (by decide) (by simp))⟩
      · simp only [List.length_append, List.length_singleton] at hsl ⊢; omega
  · rintro ⟨gone, kept, found⟩ ⟨us, hu, hul, S⟩
    have : us = rows := by
      rw [enumT_len] at hul
      rw [hul, List.drop_length, List.append_nil] at hu
      exact hu.symm
    rw [this] at S
    exact h _ S
end My
namespace My
open Wk
theorem par_drop : ∀ n : Nat, 0 < n → par (n &&& (n - 1)) = !par n := by
  intro n
  induction n using Nat.strongRecOn with
  | ind n ih =>
    intro hn
    rw [par_step (n &&& (n - 1)), par_step n, half_and, Nat.testBit_and]
    rcases Nat.mod_two_eq_zero_or_one n with e | e
    · have e1 : (n - 1) / 2 = n / 2 - 1 := by omega
      have e2 : n.testBit 0 = false := by rw [Nat.testBit_zero, decide_eq_false (by omega)]
      rw [e1, ih (n / 2) (by omega) (by omega), e2]
      simp
    · have e1 : (n - 1) / 2 = n / 2 := by omega
      have e2 : n.testBit 0 = true := by rw [Nat.testBit_zero, decide_eq_true e]
      have e3 : (n - 1).testBit 0 = false := by rw [Nat.testBit_zero, decide_eq_false (by omega)]
      rw [e1, Nat.and_self, e2, e3]
      simp
theorem w_odd {n : Nat} {R : Bool → Prop} (h : R (par n)) : W_odd n R := by
  refine whileW_ind (fun s => xor s.2 (par s.1) = par n) (fun s => s.1) (by simp) ?_
  rintro ⟨m, o⟩ nx h1 hn
  show if decide (0 < m) = true then _ else _
  by_cases hp : 0 < m
  · rw [if_pos (decide_eq_true hp)]
    refine ⟨hp, ?_⟩
    rintro _ rfl _ rfl
    have hle : m &&& (m - 1) ≤ m - 1 := Nat.and_le_right
    refine hn _ ?_ (by show m &&& (m - 1) < m; omega)
    show xor (decide (¬ (o = true))) (par (m &&& (m - 1))) = par n
    rw [par_drop m hp, ← h1]
    cases o <;> cases par m <;> rfl
  · rw [if_neg (by simpa using hp)]
    have : m = 0 := by omega
    subst this
    show R o
    simp [par_zero] at h1
    rw [h1]; exact h
end My
namespace My
open Wk
/-- a mask that is even with all rows, and of the bits that no kept row has for its highest has bit alone -/
structure Crs (rows : List Nat) (kept : List (Nat × (Nat × Nat))) (bit m : Nat) : Prop where
  ev : ∀ v, Span rows v → par (v &&& m) = false
  own : ∀ b, hasT kept (b + 1) = false → (m.testBit b = true ↔ b = bit)
  lowz : ∀ j, j < bit → m.testBit j = false
  low : ∀ w, bit < w → (∀ t, hasT kept t = true → t ≤ w) → m < 2 ^ w
theorem and_xor (a b c : Nat) : (a ^^^ b) &&& c = (a &&& c) ^^^ (b &&& c) := Nat.eq_of_testBit_eq fun i => by
  rw [Nat.testBit_and, Nat.testBit_xor, Nat.testBit_xor, Nat.testBit_and, Nat.testBit_and]
  cases a.testBit i <;> cases b.testBit i <;> cases c.testBit i <;> rfl
theorem and_xor' (a b c : Nat) : a &&& (b ^^^ c) = (a &&& b) ^^^ (a &&& c) := by rw [Nat.and_comm, and_xor, Nat.and_comm b, Nat.and_comm c]
theorem and_pow {a k : Nat} : a &&& 2 ^ k = if a.testBit k = true then 2 ^ k else 0 := Nat.eq_of_testBit_eq fun i => by
  rw [Nat.testBit_and, Nat.testBit_two_pow]
  by_cases e : k = i
  · subst e
    by_cases q : a.testBit k = true
    · rw [if_pos q, q, Nat.testBit_two_pow]; simp
    · rw [if_neg q]; simp [q]
  · by_cases q : a.testBit k = true
    · rw [if_pos q, Nat.testBit_two_pow, decide_eq_false e]; simp
    · rw [if_neg q, decide_eq_false e]; simp
theorem w_crossing {rows : List Nat} {z : List (Nat × (Nat × Nat)) × List Nat × List Nat} (S : StepsOk rows z) {bit : Nat} (hb : bit < 100000000) (hbt : hasT z.1 (bit + 1) = false) (hk : z.1.length < 1000000) (ht : ∀ t, hasT z.1 t = true → t < 100000000) {R : Nat → Prop} (h : ∀ m, Crs rows z.1 bit m → R m) : W_Steps_crossing z bit R := by
  refine ⟨hb, ?_⟩
  rintro _ rfl
  refine ⟨hk, fun ys hp hs => ?_⟩
  have key : ∀ t, t ∈ ys ↔ hasT z.1 t = true := fun t => by rw [hp.mem_iff, hasT_iff]
  have nd : ys.Nodup := hp.nodup_iff.mpr S.nd
  refine forW_ind (fun pre (m : Nat) => (∀ t l p, t ∈ pre → valT z.1 t = some (l, p) → par (l &&& m) = false) ∧ (∀ b, m.testBit b = true → b = bit ∨ (b + 1) ∈ pre) ∧ m.testBit bit = true ∧ ∀ j, j < bit → m.testBit j = false) ⟨fun t l p ht => (by cases ht), fun b hb => .inl ?_, by rw [Nat.testBit_two_pow]; simp, fun j hj => by rw [Nat.testBit_two_pow, decide_eq_false (by omega)]⟩ ?_ ?_
  · rw [Nat.testBit_two_pow] at hb; exact (of_decide_eq_true hb).symm
  · rintro pre t post m nx bk e ⟨h1, h2, h3, h4⟩ hx _
    have tm : t ∈ ys := by rw [e]; exact List.mem_append_right _ (List.mem_cons_self ..)
    have tk := (key t).mp tm
    obtain ⟨⟨l, p⟩, hv⟩ : ∃ x, valT z.1 t = some x := by
      unfold hasT at tk
      cases hv : valT z.1 t with
      | none => rw [hv] at tk; cases tk
      | some x => exact ⟨x, rfl⟩
    obtain ⟨l0, lb, lc, lp⟩ := S.ki.ent t l p hv
    have tpos : 0 < t := by rw [← lb]; exact bits_pos l0
    have prelt : ∀ t' ∈ pre, t' < t := fun t' ht' => by
      rw [e, List.pairwise_append] at hs
      have a := hs.2.2 t' ht' t (List.mem_cons_self ..)
      rw [e, List.nodup_append] at nd
      have b := nd.2.2 t' ht' t (List.mem_cons_self ..)
      omega
    refine ⟨(l, p), hv, (l, p), hv, fun row1 erow => ?_⟩
    rw [show row1 = l from erow]
    refine w_even ?_
    have tlt : l.testBit (t - 1) = true := by rw [← lb]; exact bits_bit l0
    have mt : t ∈ pre ++ [t] := List.mem_append_right _ (List.mem_singleton_self _)
    by_cases q : par (l &&& m) = true
    · rw [q, if_neg (by simp)]
      refine ⟨tpos, by have := ht t tk; omega, ?_⟩
      rintro _ rfl
      have tge : bit ≤ t - 1 := by
        refine Nat.le_of_not_lt fun z0 => ?_
        have : l &&& m = 0 := Nat.eq_of_testBit_eq fun i => by
          rw [Nat.testBit_and, Nat.zero_testBit]
          by_cases o : i < bit
          · rw [h4 i o, Bool.and_false]
          · rw [testBit_big (lt_bits l) (by omega), Bool.false_and]
        rw [this, par_zero] at q; cases q
      refine hx _ ⟨fun t' l' p' ht' hv' => ?_, fun b hb' => ?_, ?_, fun j hj => by rw [Nat.testBit_xor, h4 j hj, Nat.testBit_two_pow, decide_eq_false (by omega)]; rfl⟩
      · rw [and_xor', par_xor, and_pow]
        rcases List.mem_append.mp ht' with g | g
        · obtain ⟨l0', lb', _, _⟩ := S.ki.ent t' l' p' hv'
          have := prelt t' g
          rw [h1 t' l' p' g hv', testBit_big (lt_bits l') (by omega), if_neg (by simp), par_zero]; rfl
        · rw [List.mem_singleton.mp g, hv] at hv'
          obtain ⟨rfl, rfl⟩ := Prod.ext_iff.mp (Option.some.inj hv')
          show xor (par (l &&& m)) (par (if l.testBit (t - 1) = true then 2 ^ (t - 1) else 0)) = false
          rw [q, tlt, if_pos rfl, par_two_pow]; rfl
      · rw [Nat.testBit_xor, Nat.testBit_two_pow] at hb'
        by_cases eb : t - 1 = b
        · right
          have : b + 1 = t := by omega
          rw [this]; exact mt
        · rw [decide_eq_false eb, Bool.xor_false] at hb'
          exact (h2 b hb').imp id fun g => List.mem_append_left _ g
      · rw [Nat.testBit_xor, h3, Nat.testBit_two_pow, decide_eq_false (fun eb => ?_)]; rfl
        have : bit + 1 = t := by omega
        rw [this, tk] at hbt; cases hbt
    · have q' : par (l &&& m) = false := by simpa using q
      rw [q', if_pos (by rfl)]
      refine hx _ ⟨fun t' l' p' ht' hv' => ?_, fun b hb' => (h2 b hb').imp id fun g => List.mem_append_left _ g, h3, h4⟩
      rcases List.mem_append.mp ht' with g | g
      · exact h1 t' l' p' g hv'
      · rw [List.mem_singleton.mp g, hv] at hv'
        obtain ⟨rfl, rfl⟩ := Prod.ext_iff.mp (Option.some.inj hv')
        exact q'
  · rintro m ⟨h1, h2, h3, h4⟩
    refine h m ⟨fun v => ?_, fun b hb' => ⟨fun hm => ?_, fun e => by subst e; exact h3⟩, h4, fun w hw hw2 => ?_⟩
    · -- each sum is taken down by what is kept
      induction hn : bits v using Nat.strongRecOn generalizing v with
      | ind n ih =>
        intro hs'
        by_cases v0 : v = 0
        · subst v0; rw [Nat.zero_and, par_zero]
        · have hk' := S.ki.top v v0 hs'
          obtain ⟨⟨l, p⟩, hv⟩ : ∃ x, valT z.1 (bits v) = some x := by
            unfold hasT at hk'
            cases hv : valT z.1 (bits v) with
            | none => rw [hv] at hk'; cases hk'
            | some x => exact ⟨x, rfl⟩
          obtain ⟨l0, lb, lc, lp⟩ := S.ki.ent _ l p hv
          have e : v = (v ^^^ l) ^^^ l := by rw [Nat.xor_assoc, Nat.xor_self, Nat.xor_zero]
          have := ih (bits (v ^^^ l)) (by rw [← hn]; exact bits_xor_eq lb.symm v0) _ rfl (hs'.xor ⟨p, lc⟩)
          rw [e, and_xor, par_xor, this, h1 _ l p ((key _).mpr hk') hv]; rfl
    · rcases h2 b hm with g | g
      · exact g
      · rw [(key _).mp g] at hb'; cases hb'
    · refine Nat.lt_pow_two_of_testBit _ fun j hj => ?_
      refine Bool.eq_false_iff.mpr fun hm => ?_
      rcases h2 j hm with g | g
      · omega
      · have := hw2 _ ((key _).mp g); omega
end My
namespace My
open Wk
theorem kept_has {kept : List (Nat × (Nat × Nat))} {t : Nat} (h : hasT kept t = true) : ∃ l p, valT kept t = some (l, p) := by
  unfold hasT at h
  cases hv : valT kept t with
  | none => rw [hv] at h; cases h
  | some x => exact ⟨x.1, x.2, rfl⟩
theorem Span.mem {rows : List Nat} {r : Nat} (hr : r ∈ rows) : Span rows r := by
  obtain ⟨us, vs, er⟩ := List.append_of_mem hr
  rw [er]
  have : ∀ (vs us : List Nat), Span us r → Span (us ++ vs) r := by
    intro vs
    induction vs with
    | nil => intro us h; rwa [List.append_nil]
    | cons v vs ih => intro us h; rw [show us ++ v :: vs = (us ++ [v]) ++ vs by simp]; exact ih _ (Span.snoc.mpr (.inl h))
  rw [show us ++ r :: vs = (us ++ [r]) ++ vs by simp]
  exact this vs _ (Span.snoc.mpr (.inr (by rw [Nat.xor_self]; exact Span.zero _)))
end My
namespace My
open Wk
theorem w_sum_for {rows : List Nat} {wish w : Nat} (hl : rows.length < 1000000) (hw : w < 1000000) (hr : ∀ r ∈ rows, r < 2 ^ w) (hwi : wish < 2 ^ w) {R : PySem.Str × (Sum (List Nat) Nat) → Prop}
    (hs : Span rows wish → ∀ D, D < 2 ^ rows.length → comb rows D = wish → R (PySem.Str.ofString "sum", Sum.inl (bl rows.length D)))
    (hn : ¬ Span rows wish → ∀ m, (∀ v, Span rows v → par (v &&& m) = false) → par (wish &&& m) = true → m < 2 ^ w → R (PySem.Str.ofString "no", Sum.inr m)) : W_sum_for rows wish R := by
  refine w_Steps_init hl fun z S => w_lowered S.ki fun y L => ?_
  have hz := L.zero S.ki
  obtain ⟨D, hD, e1, e2⟩ := L.by_
  rw [Nat.zero_xor] at e2
  by_cases q : y.1 = 0
  · rw [if_pos q]
    rw [e2]
    have hc : comb rows D = wish := (xor0 (by rw [← e1]; exact q)).symm
    exact w_bits_of hl hD (hs (hz.mp q) D hD hc)
  · rw [if_neg q]
    have bp := bits_pos q
    have tw : ∀ t, hasT z.1 t = true → t ≤ w := fun t ht => by
      obtain ⟨l, p, hv⟩ := kept_has ht
      obtain ⟨l0, lb, lc, lp⟩ := S.ki.ent t l p hv
      rw [← lb]
      exact bits_le.mpr (by rw [← lc]; exact comb_lt hr)
    have yl : y.1 < 2 ^ w := by rw [e1]; exact Nat.xor_lt_two_pow hwi (comb_lt hr)
    have yb : bits y.1 ≤ w := bits_le.mpr yl
    have no := L.no
    refine ⟨bp, w_crossing S (by omega) (by rw [Nat.sub_add_cancel bp]; exact no) (by have := S.kl; have := S.len; omega) (fun t ht => by have := tw t ht; omega) fun m C => hn (fun z0 => q (hz.mpr z0)) m C.ev ?_ (C.low w (by omega) tw)⟩
    have e3 : wish = y.1 ^^^ comb rows D := by rw [e1, Nat.xor_assoc, Nat.xor_self, Nat.xor_zero]
    rw [e3, and_xor, par_xor, C.ev _ ⟨D, rfl⟩, Bool.xor_false]
    have e4 : y.1 &&& m = 2 ^ (bits y.1 - 1) := Nat.eq_of_testBit_eq fun i => by
      rw [Nat.testBit_and, Nat.testBit_two_pow]
      rcases Nat.lt_trichotomy i (bits y.1 - 1) with o | o | o
      · rw [C.lowz i o, Bool.and_false, decide_eq_false (by omega)]
      · subst o
        rw [bits_bit q, (C.own _ (by rw [Nat.sub_add_cancel bp]; exact no)).mpr rfl, decide_eq_true rfl]; rfl
      · rw [testBit_big (lt_bits y.1) (by omega), Bool.false_and, decide_eq_false (by omega)]
    rw [e4, par_two_pow]
end My
namespace My
open Wk
/-- the bits of a row -/
def rb (row : List Nat) (j : Nat) : Bool := decide (row.getD j 0 = 1)
/-- a part of a row as a mask -/
def win (row : List Nat) (b n : Nat) : Nat := mof ((List.range n).filter fun p => rb row (b + p))
theorem count_fr {p : Nat → Bool} {n j : Nat} : ((List.range n).filter p).count j = if j < n ∧ p j = true then 1 else 0 := by
  have nd : ((List.range n).filter p).Nodup := (List.nodup_range).filter _
  have hm : j ∈ (List.range n).filter p ↔ j < n ∧ p j = true := by simp [List.mem_filter, List.mem_range]
  by_cases q : j < n ∧ p j = true
  · rw [if_pos q, nd.count, if_pos (hm.mpr q)]
  · rw [if_neg q, nd.count, if_neg (fun z => q (hm.mp z))]
theorem win_bit (row : List Nat) (b n j : Nat) : (win row b n).testBit j = (decide (j < n) && rb row (b + j)) := by
  show (mof _).testBit j = _
  rw [mof_bit, count_fr]
  by_cases q : j < n
  · by_cases r : rb row (b + j) = true
    · rw [if_pos ⟨q, r⟩, decide_eq_true q, r]; rfl
    · rw [if_neg (fun z => r z.2), decide_eq_true q]; simpa using r
  · rw [if_neg (fun z => q z.1), decide_eq_false q]; rfl
theorem win_lt (row : List Nat) (b n : Nat) : win row b n < 2 ^ n := Nat.lt_pow_two_of_testBit _ fun j hj => by
  rw [win_bit, decide_eq_false (by omega)]; rfl
theorem w_part {row : List Nat} {b n : Nat} (h : b + n ≤ row.length) (hn : n < 1000000) {R : Nat → Prop} (hR : R (win row b n)) : W_part row b n R := by
  refine ⟨hn, compW_filter (fun p => rb row (b + p)) (fun p hp kk h1 h0 => ?_) ?_⟩
  · have hp' := List.mem_range.mp hp
    have lt : b + p < row.length := by omega
    have e : row.getD (b + p) 0 = row[b + p] := by rw [List.getD_eq_getElem?_getD, List.getElem?_eq_getElem lt]; rfl
    refine ⟨row[b + p], List.getElem?_eq_getElem lt, ?_⟩
    by_cases q : row[b + p] = 1
    · rw [if_pos q]; exact h1 (decide_eq_true (by rw [e, q]))
    · rw [if_neg q]; exact h0 (decide_eq_false (by rw [e]; exact q))
  · refine w_mask_of (fun p hp => ?_) hR
    have := List.mem_range.mp (List.mem_filter.mp hp).1
    omega
/-- a rule by which the row goes on -/
def Rule (row : List Nat) (D m : Nat) : Prop := D < 2 ^ m ∧ ∀ t, t + m < row.length → rb row (t + m) = dot D (fun j => rb row (t + j)) m
theorem comb_bit (w : Nat) : ∀ (vs : List Nat) (S : Nat), (comb vs S).testBit w = dot S (fun j => (vs.getD j 0).testBit w) vs.length := by
  intro vs
  suffices h : ∀ k, k ≤ vs.length → ∀ S, (comb (vs.take k) S).testBit w = dot S (fun j => (vs.getD j 0).testBit w) k by
    intro S
    have := h vs.length (Nat.le_refl _) S
    rwa [List.take_length] at this
  intro k
  induction k with
  | zero => intro _ S; show (0 : Nat).testBit w = false; rw [Nat.zero_testBit]
  | succ k ih =>
    intro hk S
    have e2 : vs.take (k + 1) = vs.take k ++ [vs[k]'(by omega)] := List.take_succ_eq_append_getElem (by omega)
    have el : (vs.take k).length = k := by rw [List.length_take]; omega
    have eg : vs.getD k 0 = vs[k]'(by omega) := by rw [List.getD_eq_getElem?_getD, List.getElem?_eq_getElem (by omega)]; rfl
    rw [e2, comb_snoc, el, Nat.testBit_xor, ih (by omega)]
    show _ = xor (dot S _ k) (S.testBit k && (vs.getD k 0).testBit w)
    congr 1
    rw [eg]
    by_cases q : S.testBit k = true
    · rw [if_pos q, q]; simp
    · rw [if_neg q, Nat.zero_testBit]
      have : S.testBit k = false := by simpa using q
      rw [this]; rfl
def cols (row : List Nat) (m : Nat) : List Nat := (List.range m).map fun p => win row p (row.length - m)
theorem cols_len (row : List Nat) (m : Nat) : (cols row m).length = m := by unfold cols; rw [List.length_map, List.length_range]
theorem rule_iff {row : List Nat} {D m : Nat} (hD : D < 2 ^ m) : Rule row D m ↔ comb (cols row m) D = win row m (row.length - m) := by
  have key : ∀ w, w < row.length - m → (comb (cols row m) D).testBit w = dot D (fun j => rb row (w + j)) m := fun w hw => by
    rw [comb_bit, cols_len]
    refine dot_congr fun j hj => ?_
    have : (cols row m).getD j 0 = win row j (row.length - m) := by
      unfold cols
      rw [List.getD_eq_getElem?_getD, List.getElem?_map, List.getElem?_range hj]; rfl
    rw [this, win_bit, decide_eq_true hw, Nat.add_comm]; rfl
  constructor
  · intro h
    refine Nat.eq_of_testBit_eq fun w => ?_
    by_cases q : w < row.length - m
    · rw [key w q, win_bit, decide_eq_true q, ← h.2 w (by omega), Nat.add_comm]; rfl
    · have : comb (cols row m) D < 2 ^ (row.length - m) := comb_lt fun r hr => by
        obtain ⟨p, _, rfl⟩ := List.mem_map.mp (show r ∈ List.map _ _ from hr)
        exact win_lt ..
      rw [testBit_big this (by omega), testBit_big (win_lt ..) (by omega)]
  · intro h
    refine ⟨hD, fun t ht => ?_⟩
    have q : t < row.length - m := by omega
    rw [← key t q, h, win_bit, decide_eq_true q, Nat.add_comm]; rfl
/-- the machine that is told -/
def hdN (D m : Nat) : List (Nat × Nat) := if 0 < m then (List.range (m - 1)).map (fun p => (2 <<< p, 0)) ++ [(D, 0)] else []
def hdO (m : Nat) : List (Nat × Nat) := [(if 0 < m then 1 else 0, 0)]
theorem hdN_len (D m : Nat) : (hdN D m).length = m := by
  unfold hdN
  by_cases h : 0 < m
  · rw [if_pos h, List.length_append, List.length_map, List.length_range, List.length_singleton]; omega
  · rw [if_neg h]; show 0 = m; omega
theorem shl2 (p : Nat) : 2 <<< p = 2 ^ (p + 1) := by rw [Nat.shiftLeft_eq, Nat.pow_succ, Nat.mul_comm]
theorem hdN_mem {D m : Nat} (hD : D < 2 ^ m) : ∀ p ∈ hdN D m, p.1 < 2 ^ m ∧ p.2 < 2 ^ 0 := by
  intro p hp
  unfold hdN at hp
  by_cases h : 0 < m
  · rw [if_pos h] at hp
    rcases List.mem_append.mp hp with g | g
    · obtain ⟨q, hq, rfl⟩ := List.mem_map.mp g
      have := List.mem_range.mp hq
      refine ⟨?_, by show 0 < 2 ^ 0; decide⟩
      show 2 <<< q < 2 ^ m
      rw [shl2]
      exact Nat.pow_lt_pow_right (by decide) (by omega)
    · rw [List.mem_singleton.mp g]; exact ⟨hD, by show 0 < 2 ^ 0; decide⟩
  · rw [if_neg h] at hp; cases hp
theorem sum_ne : ¬ (PySem.Str.ofString "sum" = PySem.Str.ofString "no") := by decide +kernel
/-- one turn of a machine without inputs -/
def turnV (nx : List (Nat × Nat)) (s : Nat) : Nat := (enumT nx).foldl (fun f it => f ||| (Bool.toNat (par (it.2.1 &&& s)) <<< it.1)) 0
theorem b2n_bit (b : Bool) (k j : Nat) : (Bool.toNat b <<< k).testBit j = (decide (j = k) && b) := by
  rw [Nat.testBit_shiftLeft]
  by_cases q : j = k
  · subst q
    rw [Nat.sub_self]
    cases b <;> simp
  · rw [decide_eq_false q]
    by_cases r : j ≥ k
    · obtain ⟨d, rfl⟩ : ∃ d, j = k + (d + 1) := ⟨j - k - 1, by omega⟩
      have : k + (d + 1) - k = d + 1 := by omega
      rw [this]
      cases b
      · show (decide _ && (0 : Nat).testBit _) = _
        rw [Nat.zero_testBit]; simp
      · show (decide _ && (1 : Nat).testBit (d + 1)) = _
        rw [Nat.testBit_add_one, show 1 / 2 = 0 from rfl, Nat.zero_testBit]; simp
    · rw [decide_eq_false r]; rfl
theorem turnV_bit (nx : List (Nat × Nat)) (s j : Nat) : (turnV nx s).testBit j = (decide (j < nx.length) && par ((nx.getD j (0, 0)).1 &&& s)) := by
  have key : ∀ (l : List (Nat × (Nat × Nat))) (f : Nat), (l.foldl (fun f it => f ||| (Bool.toNat (par (it.2.1 &&& s)) <<< it.1)) f).testBit j = (f.testBit j || l.any fun it => decide (j = it.1) && par (it.2.1 &&& s)) := by
    intro l
    induction l with
    | nil => intro f; simp
    | cons a l ih => intro f; rw [List.foldl_cons, ih, Nat.testBit_or, b2n_bit, List.any_cons, Bool.or_assoc]
  unfold turnV
  rw [key, Nat.zero_testBit, Bool.false_or]
  by_cases q : j < nx.length
  · rw [decide_eq_true q, Bool.true_and, List.getD_eq_getElem?_getD, List.getElem?_eq_getElem q]
    show _ = par (nx[j].1 &&& s)
    have mem : (j, nx[j]) ∈ enumT nx := by
      refine List.mem_of_getElem? (i := j) ?_
      rw [enumT_get, List.getElem?_eq_getElem q]; rfl
    by_cases r : par (nx[j].1 &&& s) = true
    · rw [r]
      exact List.any_eq_true.mpr ⟨_, mem, by simp [r]⟩
    · have r' : par (nx[j].1 &&& s) = false := by simpa using r
      rw [r']
      refine Bool.eq_false_iff.mpr fun z => ?_
      obtain ⟨⟨i, x⟩, hm, hz⟩ := List.any_eq_true.mp z
      obtain ⟨k, hk⟩ := List.getElem?_of_mem hm
      rw [enumT_get] at hk
      obtain ⟨y, hy, ey⟩ := Option.map_eq_some_iff.mp hk
      obtain ⟨rfl, rfl⟩ := Prod.ext_iff.mp ey
      have hz' : (decide (j = k) && par (y.1 &&& s)) = true := hz
      rw [Bool.and_eq_true, decide_eq_true_iff] at hz'
      obtain ⟨rfl, hp⟩ := hz'
      rw [List.getElem?_eq_getElem q] at hy
      rw [← Option.some.inj hy, r'] at hp
      cases hp
  · rw [decide_eq_false q, Bool.false_and]
    refine Bool.eq_false_iff.mpr fun z => ?_
    obtain ⟨⟨i, x⟩, hm, hz⟩ := List.any_eq_true.mp z
    obtain ⟨k, hk⟩ := List.getElem?_of_mem hm
    rw [enumT_get] at hk
    obtain ⟨y, hy, ey⟩ := Option.map_eq_some_iff.mp hk
    obtain ⟨rfl, rfl⟩ := Prod.ext_iff.mp ey
    have hz' : (decide (j = k) && par (y.1 &&& s)) = true := hz
    rw [Bool.and_eq_true, decide_eq_true_iff] at hz'
    have := (List.getElem?_eq_some_iff.mp hy).1
    omega
theorem turnV_lt (nx : List (Nat × Nat)) (s : Nat) : turnV nx s < 2 ^ nx.length := Nat.lt_pow_two_of_testBit _ fun j hj => by
  rw [turnV_bit, decide_eq_false (by omega)]; rfl
theorem w_turn {nx : List (Nat × Nat)} {s : Nat} (hl : nx.length < 1000000) {R : Nat → Prop} (h : R (turnV nx s)) : W_turn nx s R := by
  refine forW_fold (fun f (it : Nat × (Nat × Nat)) => f ||| (Bool.toNat (par (it.2.1 &&& s)) <<< it.1)) (fun it hi f nx' bk hn => w_odd ⟨?_, ?_⟩) h
  · obtain ⟨k, hk⟩ := List.getElem?_of_mem hi
    rw [enumT_get] at hk
    obtain ⟨y, hy, ey⟩ := Option.map_eq_some_iff.mp hk
    have e1 : k = it.1 := (Prod.ext_iff.mp ey).1
    have := (List.getElem?_eq_some_iff.mp hy).1
    have lg : (Bool.toNat (par (it.2.1 &&& s))).log2 = 0 := by cases par (it.2.1 &&& s) <;> decide
    show (Bool.toNat (par (it.2.1 &&& s))).log2 + it.1 < 100000000
    rw [lg]; omega
  · rintro _ rfl
    exact hn
def iterV (nx : List (Nat × Nat)) (s : Nat) : Nat → Nat
  | 0 => s
  | t + 1 => turnV nx (iterV nx s t)
def ansV (nx : List (Nat × Nat)) (o s t : Nat) : Bool := par (o &&& iterV nx s t)
/-- the told machine answers the row, as far as the rule goes -/
theorem told_ans {a : Nat → Bool} {D m L s : Nat} (hD : D < 2 ^ m) (hr : ∀ t, t + m < L → a (t + m) = dot D (fun j => a (t + j)) m) (h0 : ∀ j, j < m → j < L → s.testBit j = a j) (hs : s < 2 ^ m) : ∀ t, t < L → ansV (hdN D m) (if 0 < m then 1 else 0) s t = a t := by
  have hl := hdN_len D m
  have key : ∀ t, iterV (hdN D m) s t < 2 ^ m ∧ ∀ j, j < m → t + j < L → (iterV (hdN D m) s t).testBit j = a (t + j) := by
    intro t
    induction t with
    | zero => exact ⟨hs, fun j hj hL => by rw [Nat.zero_add] at hL ⊢; exact h0 j hj hL⟩
    | succ t ih =>
      refine ⟨by show turnV _ _ < _; have := turnV_lt (hdN D m) (iterV (hdN D m) s t); rwa [hl] at this, fun j hj hL => ?_⟩
      show (turnV _ _).testBit j = _
      have mpos : 0 < m := by omega
      rw [turnV_bit, hl, decide_eq_true hj, Bool.true_and]
      by_cases q : j < m - 1
      · have e : (hdN D m).getD j (0, 0) = (2 <<< j, 0) := by
          unfold hdN
          rw [if_pos mpos, List.getD_eq_getElem?_getD, List.getElem?_append_left (by rw [List.length_map, List.length_range]; exact q), List.getElem?_map, List.getElem?_range q]; rfl
        rw [e]
        show par (2 <<< j &&& _) = _
        rw [shl2, Nat.and_comm, and_pow]
        have := ih.2 (j + 1) (by omega) (by omega)
        rw [this, show t + 1 + j = t + (j + 1) by omega]
        cases a (t + (j + 1))
        · rw [if_neg (by simp), par_zero]
        · rw [if_pos rfl, par_two_pow]
      · have jm : j = m - 1 := by omega
        have e : (hdN D m).getD j (0, 0) = (D, 0) := by
          unfold hdN
          rw [if_pos mpos, List.getD_eq_getElem?_getD, List.getElem?_append_right (by rw [List.length_map, List.length_range]; omega), List.length_map, List.length_range, jm, Nat.sub_self]; rfl
        rw [e]
        show par (D &&& _) = _
        rw [par_dot hD, show t + 1 + j = t + m by omega, hr t (by omega)]
        exact dot_congr fun i hi => ih.2 i hi (by omega)
  intro t ht
  show par (_ &&& iterV _ _ t) = _
  by_cases q : 0 < m
  · rw [if_pos q, Nat.and_comm, show (1 : Nat) = 2 ^ 0 from rfl, and_pow, (key t).2 0 q (by omega), Nat.add_zero]
    cases a t
    · rw [if_neg (by simp), par_zero]
    · rw [if_pos rfl, par_two_pow]
  · rw [if_neg q, Nat.zero_and, par_zero]
    have m0 : m = 0 := by omega
    subst m0
    have := hr t (by omega)
    rw [Nat.add_zero] at this
    rw [this]; rfl
end My
namespace My
open Wk
theorem ite_no {p : Prop} [Decidable p] {a b : Prop} (h : ¬ p) (hb : b) : if p then a else b := by rw [if_neg h]; exact hb
def okRow (x : An) : Prop := ∃ ns : List Nat, x = An.l (ns.map anN) ∧ ns.length ≤ 40 ∧ ∀ r ∈ ns, r < 2 ^ 1
theorem w_need_row {x : An} (fx : fineL x) {E : Prop} {R : Unit → Prop} (h1 : ∀ ns : List Nat, x = An.l (ns.map anN) → ns.length ≤ 40 → (∀ r ∈ ns, r < 2 ^ 1) → R ()) (h0 : ¬ okRow x → E) : W_need_row x E R := by
  refine jnI ?_
  by_cases q : isA "list" x = true
  · rw [if_neg (fun z => z q)]
    obtain ⟨xs, ex⟩ := (isA_list x fx).mp q
    refine ⟨xs, ex, ?_⟩
    by_cases q2 : 40 < xs.length
    · rw [decide_eq_true q2]
      show if true = true then _ else _
      rw [if_pos rfl]
      refine h0 fun ⟨ns, e, hn, _⟩ => ?_
      rw [ex] at e
      have := congrArg List.length (An.l.inj e)
      rw [List.length_map] at this; omega
    · rw [decide_eq_false q2]
      show if false = true then _ else _
      rw [if_neg (by simp)]
      refine ⟨xs, ex, need_rows2 (by decide) (by subst ex; exact fx) (fun hr => ?_) fun ⟨r, hr, hq⟩ => ?_⟩
      · obtain ⟨rs, er, hrs⟩ := rows_nat hr
        refine h1 rs (by rw [ex, er]) ?_ hrs
        have := congrArg List.length er
        rw [List.length_map] at this; omega
      · refine h0 fun ⟨ns, e, _, hn⟩ => hq ?_
        rw [ex] at e
        rw [An.l.inj e] at hr
        obtain ⟨n, hn2, e2⟩ := List.mem_map.mp hr
        rw [← e2]; exact okA_nat.mpr (hn n hn2)
  · rw [if_pos q]
    show if true = true then _ else _
    rw [if_pos rfl]
    exact h0 fun ⟨ns, e, _⟩ => q ((isA_list x fx).mpr ⟨_, e⟩)
theorem comb_one : ∀ (vs : List Nat) {p : Nat}, p < vs.length → comb vs (2 ^ p) = vs.getD p 0
  | [], p, h => absurd h (Nat.not_lt_zero _)
  | r :: rs, 0, _ => by
    show (if (2 ^ 0).testBit 0 = true then r else 0) ^^^ comb rs (2 ^ 0 / 2) = r
    rw [if_pos (by decide), show 2 ^ 0 / 2 = 0 by decide, comb_zero, Nat.xor_zero]
  | r :: rs, p + 1, h => by
    have e1 : (2 ^ (p + 1)).testBit 0 = false := by rw [Nat.testBit_two_pow]; exact decide_eq_false (by omega)
    have e2 : 2 ^ (p + 1) / 2 = 2 ^ p := by rw [Nat.pow_succ]; omega
    show (if (2 ^ (p + 1)).testBit 0 = true then r else 0) ^^^ comb rs (2 ^ (p + 1) / 2) = rs.getD p 0
    rw [e1, e2, if_neg (by simp), Nat.zero_xor]
    exact comb_one rs (by simpa using h)
/-- windows that bar a rule of m bits -/
structure Bars (row : List Nat) (m y : Nat) : Prop where
  lt : y < 2 ^ (row.length - m)
  ev : ∀ p, p < m → par (win row p (row.length - m) &&& y) = false
  od : par (win row m (row.length - m) &&& y) = true
theorem w_told_by {row : List Nat} {m : Nat} (hl : row.length ≤ 40) (hm : m ≤ row.length) {R : PySem.Str × (Sum (List Nat) Nat) → Prop} (h1 : ∀ D, Rule row D m → R (PySem.Str.ofString "sum", Sum.inl (bl m D))) (h2 : (∀ D, ¬ Rule row D m) → ∀ y, Bars row m y → R (PySem.Str.ofString "no", Sum.inr y)) : W_told_by row m R := by
  refine ⟨hm, ?_⟩
  rintro _ rfl
  refine ⟨by omega, compW_map (fun p => win row p (row.length - m)) (fun p hp kk hk => ?_) ?_⟩
  · have := List.mem_range.mp hp
    exact w_part (by omega) (by omega) hk
  · refine w_part (by omega) (by omega) ?_
    show W_sum_for (cols row m) _ _
    have cl := cols_len row m
    refine w_sum_for (w := row.length - m) (by omega) (by omega) (fun r hr => ?_) (win_lt ..) (fun _ D hD hc => ?_) fun hs y hy1 hy2 hy => ?_
    · obtain ⟨p, _, rfl⟩ := List.mem_map.mp (show r ∈ List.map _ _ from hr)
      exact win_lt ..
    · rw [cl] at hD ⊢
      exact h1 D ((rule_iff hD).mpr hc)
    · refine h2 (fun D hR => hs ⟨D, (rule_iff hR.1).mp hR⟩) y ⟨hy, fun p hp => hy1 _ ?_, hy2⟩
      refine ⟨2 ^ p, ?_⟩
      have ee := comb_one (cols row m) (p := p) (by rw [cl]; exact hp)
      rw [ee]
      unfold cols
      rw [List.getD_eq_getElem?_getD, List.getElem?_map, List.getElem?_range hp]; rfl
def Told (row : List Nat) (s : List Nat × Nat × (PySem.Str × (Sum (List Nat) Nat))) : Prop :=
  s.2.1 ≤ row.length ∧ (∀ m', m' < s.2.1 → ∀ D, ¬ Rule row D m') ∧ (s.2.1 = 0 → s.1 = []) ∧ (∀ m', s.2.1 = m' + 1 → ∃ y, Bars row m' y ∧ s.1 = bl (row.length - m') y) ∧
    ((∃ D, Rule row D s.2.1 ∧ s.2.2 = (PySem.Str.ofString "sum", Sum.inl (bl s.2.1 D))) ∨ ((∀ D, ¬ Rule row D s.2.1) ∧ ∃ y, Bars row s.2.1 y ∧ s.2.2 = (PySem.Str.ofString "no", Sum.inr y)))
theorem hd_ok {D m : Nat} (hm : m ≤ 40) (hD : D < 2 ^ m) : MOk (0, hdN D m, hdO m) := by
  have hl := hdN_len D m
  refine { i := by show 0 ≤ 6; decide, n := by show (hdN D m).length ≤ 120; omega, o := by show 1 ≤ 6; decide, mn := by show ∀ p ∈ hdN D m, p.1 < 2 ^ (hdN D m).length ∧ p.2 < 2 ^ 0; rw [hl]; exact hdN_mem hD, mo := ?_ }
  show ∀ p ∈ hdO m, p.1 < 2 ^ (hdN D m).length ∧ p.2 < 2 ^ 0
  rw [hl]
  intro p hp
  rw [List.mem_singleton.mp (show p ∈ [_] from hp)]
  refine ⟨?_, by show 0 < 2 ^ 0; decide⟩
  show (if 0 < m then 1 else 0) < 2 ^ m
  by_cases q : 0 < m
  · rw [if_pos q]; exact Nat.one_lt_two_pow (by omega)
  · rw [if_neg q]; exact Nat.two_pow_pos m
theorem w_heard {x : An} (fx : fineL x) {E : Prop} {R : (Mach × Nat × List Nat) → Prop}
    (h : ∀ row : List Nat, x = An.l (row.map anN) → row.length ≤ 40 → (∀ r ∈ row, r < 2 ^ 1) → ∀ z D m, m ≤ row.length → Rule row D m → (m = 0 → z = []) → (∀ m', m = m' + 1 → ∃ y, Bars row m' y ∧ z = bl (row.length - m') y) → R ((0, hdN D m, hdO m), win row 0 m, z)) (h0 : ¬ okRow x → E) : W_heard x E R := by
  refine w_need_row fx (fun row ex hl hb => ?_) h0
  have fin0 := h row ex hl hb
  refine ⟨row, ex, ?_⟩
  have toldI : ∀ (m : Nat) (z : List Nat), m ≤ row.length → (∀ m', m' < m → ∀ D, ¬ Rule row D m') → (m = 0 → z = []) → (∀ m', m = m' + 1 → ∃ y, Bars row m' y ∧ z = bl (row.length - m') y) → ∀ K : (PySem.Str × (Sum (List Nat) Nat)) → Prop, (∀ t, Told row (z, m, t) → K t) → W_told_by row m K := fun m z hm hno hz hz2 K hK =>
    w_told_by hl hm (fun D hD => hK _ ⟨hm, hno, hz, hz2, .inl ⟨D, hD, rfl⟩⟩) fun hn y hy => hK _ ⟨hm, hno, hz, hz2, .inr ⟨hn, y, hy, rfl⟩⟩
  refine toldI 0 [] (Nat.zero_le _) (fun m' hm' => absurd hm' (Nat.not_lt_zero _)) (fun _ => rfl) (fun m' hm' => by omega) _ fun t0 ht0 => ?_
  refine whileW_ind (Told row) (fun s => row.length - s.2.1) ht0 ?_
  rintro ⟨z, m, t⟩ nx ⟨(hm : m ≤ _), (hno : ∀ m', m' < m → _), (hz : m = 0 → z = []), (hz2 : ∀ m', m = m' + 1 → _), ht⟩ hn
  show if decide (t.1 = PySem.Str.ofString "no") = true then _ else _
  rcases ht with ⟨D, hD, et⟩ | ⟨hnr, y, hy, et⟩
  · have et' : t = (PySem.Str.ofString "sum", Sum.inl (bl m D)) := et
    subst et'
    have hD : Rule row D m := hD
    rw [if_neg (by rw [decide_eq_true_iff]; exact sum_ne)]
    show _ ∧ _
    have et : Int.toNat (((m : Nat) : Int) - ((1 : Nat) : Int)) = m - 1 := by omega
    rw [et]
    refine ⟨by omega, by omega, compW_map (fun p => (2 <<< p, 0)) (fun p hp kk hk => ?_) ?_⟩
    · have := List.mem_range.mp hp
      refine ⟨?_, hk⟩
      have e2 : (2 : Nat).log2 = 1 := by decide
      show (2 : Nat).log2 + p < 100000000
      rw [e2]; omega
    · have fin : W_Machine___init__ 0 (hdN D m) (hdO m) fun z6 => W_part row 0 m fun z7 => R (z6, z7, z) :=
        w_machine_init (M := (0, hdN D m, hdO m)) (hd_ok (by omega) hD.1) (w_part (by omega) (by omega) (fin0 z D m hm hD hz hz2))
      refine jnI ?_
      by_cases q : 0 < m
      · rw [if_pos q]
        refine ⟨bl m D, rfl, w_mask_of (fun p hp => ?_) ?_⟩
        · have := (mem_bl.mp hp).1
          omega
        · refine ⟨by rw [List.length_map, List.length_range]; omega, ?_⟩
          rw [mof_bl hD.1]
          unfold hdN hdO at fin
          rw [if_pos q, if_pos q] at fin
          exact fin
      · rw [if_neg q]
        unfold hdN hdO at fin
        rw [if_neg q, if_neg q] at fin
        have m0 : m - 1 = 0 := by omega
        rw [m0]
        exact fin
  · have et' : t = (PySem.Str.ofString "no", Sum.inr y) := et
    subst et'
    have hnr : ∀ D, ¬ Rule row D m := hnr
    have hy : Bars row m y := hy
    rw [if_pos (decide_eq_true rfl)]
    refine ⟨y, rfl, w_bits_of (k := row.length - m) (by omega) hy.lt ?_⟩
    rintro _ rfl
    have lt : m < row.length := by
      refine Nat.lt_of_le_of_ne hm fun z => hnr 0 ⟨Nat.two_pow_pos m, fun t ht => by omega⟩
    have hno2 : ∀ m', m' < m + 1 → ∀ D, ¬ Rule row D m' := fun m' hm' => by
      by_cases q : m' = m
      · subst q; exact hnr
      · exact hno m' (by omega)
    exact toldI (m + 1) _ lt hno2 (fun q => by omega) (fun m' hm' => by
      have : m' = m := by omega
      subst this; exact ⟨y, hy, rfl⟩) _ fun t' ht' => hn _ ht' (by show row.length - (m + 1) < row.length - m; omega)
/-- sums of bits at places -/
theorem sum_bl {row : List Nat} (hb : ∀ r ∈ row, r < 2 ^ 1) (y k : Nat) : ∀ W, ((bl W y).map fun p => row.getD (k + p) 0).sum % 2 = (dot y (fun p => rb row (k + p)) W).toNat
  | 0 => rfl
  | W + 1 => by
    have ih := sum_bl hb y k W
    rw [bl_snoc]
    show _ = (xor (dot y (fun p => rb row (k + p)) W) (y.testBit W && rb row (k + W))).toNat
    by_cases q : y.testBit W = true
    · rw [if_pos q, List.map_append, List.sum_append, q]
      have e1 : ([W].map fun p => row.getD (k + p) 0).sum = row.getD (k + W) 0 := by show _ + 0 = _; rfl
      have e2 : row.getD (k + W) 0 = (rb row (k + W)).toNat := by
        unfold rb
        have : row.getD (k + W) 0 < 2 := by
          rw [List.getD_eq_getElem?_getD]
          cases c : row[k + W]? with
          | none => show 0 < 2; decide
          | some r => exact hb r (List.mem_of_getElem? c)
        generalize row.getD (k + W) 0 = v at *
        have : v = 0 ∨ v = 1 := by omega
        rcases this with e | e <;> subst e <;> rfl
      rw [e1, e2, Nat.add_mod, ih]
      cases dot y (fun p => rb row (k + p)) W <;> cases rb row (k + W) <;> rfl
    · rw [if_neg q, List.append_nil]
      have q2 : y.testBit W = false := by simpa using q
      rw [q2, Bool.false_and, Bool.xor_false]; exact ih
theorem par_win {row : List Nat} {y k W : Nat} (hy : y < 2 ^ W) : par (win row k W &&& y) = dot y (fun p => rb row (k + p)) W := by
  rw [Nat.and_comm, par_dot hy]
  exact dot_congr fun p hp => by rw [win_bit, decide_eq_true hp, Bool.true_and]
theorem w_bars {row : List Nat} (hb : ∀ r ∈ row, r < 2 ^ 1) (hl : row.length ≤ 40) {z : List Nat} {m : Nat} (hm : m ≤ row.length) (hz : m = 0 → z = []) (hz2 : ∀ m', m = m' + 1 → ∃ y, Bars row m' y ∧ z = bl (row.length - m') y) {R : Bool → Prop} (h : R true) : W_bars row z m R := by
  unfold W_bars
  by_cases q : m = 0
  · rw [if_pos q, hz q, decide_eq_true rfl]; exact h
  · rw [if_neg q]
    obtain ⟨m', em⟩ : ∃ m', m = m' + 1 := ⟨m - 1, by omega⟩
    obtain ⟨y, hy, ez⟩ := hz2 m' em
    subst em ez
    have wl : (bl (row.length - m') y).length ≤ 40 := Nat.le_trans (bl_len _ _) (by omega)
    have inside : ∀ p ∈ bl (row.length - m') y, p + m' < row.length := fun p hp => by
      have := (mem_bl.mp hp).1; omega
    have sorted : (bl (row.length - m') y).Pairwise (· < ·) := (List.pairwise_lt_range).filter _
    rintro _ rfl
    refine forW_ind (fun pre (a : Int) => (pre = [] ∧ a = -1) ∨ ∃ q ps, pre = ps ++ [q] ∧ a = ((q : Nat) : Int)) (.inl ⟨rfl, rfl⟩) (fun pre p post a nx bk e ha hn _ => ?_) fun a _ => ?_
    · have hp := inside p (by rw [e]; simp)
      have lt : a < ((p : Nat) : Int) := by
        rcases ha with ⟨_, ea⟩ | ⟨q, ps, ep, ea⟩
        · omega
        · rw [e, ep, List.append_assoc] at sorted
          have := (List.pairwise_append.mp sorted).2.1
          have := (List.pairwise_cons.mp this).1 p (by simp)
          omega
      rw [if_neg (fun z => z ⟨lt, by omega⟩)]
      rintro _ rfl
      exact hn _ (.inr ⟨p, pre, rfl, rfl⟩)
    · have get : ∀ p k, p ∈ bl (row.length - m') y → k ≤ m' → row[p + k]? = some (row.getD (k + p) 0) := fun p k hp hk => by
        have := inside p hp
        rw [List.getD_eq_getElem?_getD, Nat.add_comm k p, List.getElem?_eq_getElem (by omega)]; rfl
      refine ⟨by omega, by omega, forW_unit (fun k hk nx bk hn => ?_) ?_⟩
      · have hk : k < m' + 1 - 1 := List.mem_range.mp hk
        refine ⟨by omega, compW_map (fun p => row.getD (k + p) 0) (fun p hp kk hkk => ⟨_, get p k hp (by omega), hkk⟩) ?_⟩
        rw [sum_bl hb, ← par_win hy.lt, hy.ev k (by omega), if_neg (by decide)]
        exact hn
      · refine ⟨by omega, compW_map (fun p => row.getD (m' + p) 0) (fun p hp kk hkk => ⟨by omega, _, ?_, hkk⟩) ?_⟩
        · have e : p + (m' + 1) - 1 = p + m' := by omega
          rw [e]; exact get p m' hp (Nat.le_refl _)
        · rw [sum_bl hb, ← par_win hy.lt, hy.od, decide_eq_true (by decide)]; exact h
/-- a machine's run with rows 0 -/
theorem turn_bits (nx : List (Nat × Nat)) (s : Nat) : bitsV nx s 0 = turnV nx s := Nat.eq_of_testBit_eq fun j => by
  rw [bitsV_bit, turnV_bit]
  unfold bitf
  rw [Nat.and_zero, par_zero, Bool.xor_false]
theorem run_zero {nx : List (Nat × Nat)} {o s : Nat} {M : Mach} (h1 : M.2.1 = nx) (h2 : M.2.2 = [(o, 0)]) : ∀ n, walkV M (List.replicate n 0) s = ((List.range n).map fun t => (ansV nx o s t).toNat, iterV nx s n)
  | 0 => rfl
  | n + 1 => by
    have e : List.replicate (n + 1) 0 = List.replicate n 0 ++ [0] := List.replicate_succ'
    rw [e, walkV_snoc, run_zero h1 h2 n, List.range_succ, List.map_append]
    have o1 : outV M (iterV nx s n) 0 = (ansV nx o s n).toNat := by
      unfold outV
      rw [h2]
      show (bitf (o, 0) (iterV nx s n) 0).toNat + 2 * 0 = _
      unfold bitf ansV
      rw [Nat.zero_and, par_zero, Bool.xor_false]; rfl
    have n1 : nextV M (iterV nx s n) 0 = iterV nx s (n + 1) := by
      unfold nextV
      rw [h1, turn_bits]; rfl
    show (_ ++ [outV M (iterV nx s n) 0], nextV M (iterV nx s n) 0) = _
    rw [o1, n1]; rfl
theorem w_answers {M : Mach} {nx : List (Nat × Nat)} {o s m : Nat} (h1 : M.2.1 = nx) (h2 : M.2.2 = [(o, 0)]) (hl : nx.length < 1000000) (hm : m < 1000000) {R : List Nat → Prop} (h : R ((List.range m).map fun t => Bool.toNat (ansV nx o s t))) : W_answers M s m R := by
  refine ⟨hm, ?_⟩
  refine forW_ind (fun pre (st : List Nat × Nat) => st.1 = (List.range pre.length).map (fun t => Bool.toNat (ansV nx o s t)) ∧ st.2 = iterV nx s pre.length) ⟨rfl, rfl⟩ ?_ ?_
  · rintro pre x post ⟨f, st⟩ nx' bk e ⟨g1, g2⟩ hn _
    have h1' : f = (List.range pre.length).map (fun t => Bool.toNat (ansV nx o s t)) := g1
    have h2' : st = iterV nx s pre.length := g2
    have hlen : pre.length < m := by
      have := congrArg List.length e
      rw [List.length_range, List.length_append, List.length_cons] at this
      omega
    subst h2'
    refine ⟨(o, 0), by rw [h2]; rfl, (o, 0), by rw [h2]; rfl, w_odd ⟨by rw [h1', List.length_map, List.length_range]; omega, ?_⟩⟩
    rw [h1]
    refine w_turn hl (hn _ ⟨?_, ?_⟩)
    · show f ++ [_] = _
      rw [List.length_append, List.length_singleton, List.range_succ, List.map_append, ← h1']; rfl
    · show turnV nx (iterV nx s pre.length) = _
      rw [List.length_append, List.length_singleton]; rfl
  · rintro ⟨f, st⟩ ⟨g1, _⟩
    rw [List.length_range] at g1
    have h1' : f = (List.range m).map (fun t => Bool.toNat (ansV nx o s t)) := g1
    subst h1'; exact h
theorem w_right {row : List Nat} (hl : row.length ≤ 40) (hb : ∀ r ∈ row, r < 2 ^ 1) {R : Bool → Prop} (h : R true) : W_right row R := by
  refine w_heard (fine_rows row) (fun row' e _ _ z D m hm hR hz hz2 => ?_) fun q => absurd ⟨row, rfl, hl, hb⟩ q
  have er : row = row' := map_anN_inj (An.l.inj e)
  subst er
  refine jnI ?_
  rw [if_neg (by decide), if_neg (by simp)]
  show if false = true then _ else _
  rw [if_neg (by simp)]
  have hln := hdN_len D m
  have ok := hd_ok (D := D) (m := m) (by omega) hR.1
  unfold W_Machine_stores
  refine jnI ?_
  show if (0 : Nat) ≠ 0 then _ else _
  rw [if_neg (by decide)]
  unfold W_Machine_outputs
  refine ite_no (fun z => z rfl) ?_
  rw [decide_eq_false (by show ¬ row.length < (hdN D m).length; omega)]
  show if false = true then _ else _
  rw [if_neg (by simp)]
  refine jnI ⟨by show (hdN D m).length < 100000000; omega, ?_⟩
  rw [decide_eq_false (fun q => q ⟨Nat.zero_le _, by show win row 0 m < 2 ^ (hdN D m).length; rw [hln]; exact win_lt ..⟩)]
  show if false = true then _ else _
  rw [if_neg (by simp)]
  have ans : ((List.range row.length).map fun t => Bool.toNat (ansV (hdN D m) (if 0 < m then 1 else 0) (win row 0 m) t)) = row := by
    refine List.ext_getElem (by simp) fun t h1 h2 => ?_
    rw [List.getElem_map, List.getElem_range]
    have := told_ans (a := rb row) (L := row.length) hR.1 (fun t ht => hR.2 t ht) (fun j hj hL => by rw [win_bit, decide_eq_true hj, Nat.zero_add]; rfl) (win_lt row 0 m) t h2
    rw [this]
    unfold rb
    have hg : row.getD t 0 = row[t] := by rw [List.getD_eq_getElem?_getD, List.getElem?_eq_getElem h2]; rfl
    have hlt : row[t] < 2 := hb _ (List.getElem_mem h2)
    rw [hg]
    generalize row[t] = v at *
    have : v = 0 ∨ v = 1 := by omega
    rcases this with e | e <;> subst e <;> rfl
  refine jnI ⟨(if 0 < m then 1 else 0, 0), rfl, ?_⟩
  rw [if_neg (by simp)]
  refine w_answers (nx := hdN D m) (o := if 0 < m then 1 else 0) rfl rfl (by omega) (by omega) ?_
  rw [ans, decide_eq_false (by simp)]
  show if false = true then _ else _
  rw [if_neg (by simp)]
  refine jnI ?_
  show W_bars row z (hdN D m).length _
  rw [hln]
  refine w_bars hb hl hm hz hz2 ?_
  rw [if_pos rfl]
  refine ⟨⟨by show 1 * row.length < 1000000; omega, by omega⟩, ?_⟩
  rw [flat_rep]
  refine w_walkN ok (by rw [List.length_replicate]; omega) (fun r hr => by rw [List.eq_of_mem_replicate hr]; exact Nat.two_pow_pos _) (by show win row 0 m < 2 ^ (hdN D m).length; rw [hln]; exact win_lt ..) ?_
  rw [run_zero (nx := hdN D m) (o := if 0 < m then 1 else 0) rfl rfl]
  show R (decide (_ = row))
  rw [ans, decide_eq_true rfl]; exact h
theorem w_refused {row : List Nat} {c : Int} (hl : row.length ≤ 39) {R : Bool → Prop} (h : R true) : W_refused row c R := by
  refine w_mix ⟨by omega, ?_⟩
  rintro at1 hat
  have hat : at1 < row.length + 1 := by rw [hat]; exact Nat.mod_lt _ (by omega)
  refine w_mix ?_
  have fin : ∀ x, fineL x → ¬ okRow x → jn (fun kk => W_heard x (kk true) fun z3 => kk false) fun r => R r := fun x fx hx => jnI (w_heard fx (fun row e a b => absurd ⟨row, e, a, b⟩ hx) fun _ => h)
  have cl : ∀ lo hi, (cutT row lo hi).length ≤ row.length := fun lo hi => by
    cases lo <;> cases hi
    · exact Nat.le_refl _
    · show (row.take _).length ≤ _; rw [List.length_take]; omega
    · show (row.drop _).length ≤ _; rw [List.length_drop]; omega
    · show ((row.drop _).take _).length ≤ _; rw [List.length_take, List.length_drop]; omega
  have go : ∀ x3, fineA x3 → ¬ okA x3 1 → (((cutT row none (some at1)).map anN).length + [x3].length < 1000000) ∧ ((((cutT row none (some at1)).map anN) ++ [x3]).length + ((cutT row (some at1) none).map anN).length < 1000000) ∧ ([1].length * 41 < 1000000 ∧ 41 < 1000000) ∧ (row.length + ((List.replicate 41 [1]).flatten).length < 1000000) ∧ ∃ x14, [(An.l ((((cutT row none (some at1)).map anN) ++ [x3]) ++ ((cutT row (some at1) none).map anN))), (An.t (row.map (fun n : Nat => An.i (n : Int)))), An.n, (An.l ((cutT (row ++ ((List.replicate 41 [1]).flatten)) none (some (41 + (modN c 9)))).map (fun n : Nat => An.i (n : Int)))), (An.s (PySem.Str.ofString "01"))][modN c 5]? = some x14 ∧ jn (fun kk => W_heard x14 (kk true) fun z3 => kk false) fun r => R r := by
    intro x3 f3 b3
    have c1 := cl none (some at1); have c2 := cl (some at1) none
    have l1 : ((List.replicate 41 [1]).flatten : List Nat).length = 41 := by decide
    have l2 : [x3].length = 1 := rfl
    refine ⟨by rw [List.length_map]; omega, by rw [List.length_append, List.length_map, List.length_map]; omega, ⟨by decide, by decide⟩, by omega, ?_⟩
    have hj : modN c 5 < 5 := modN_lt (by decide)
    generalize modN c 5 = j at *
    have : j = 0 ∨ j = 1 ∨ j = 2 ∨ j = 3 ∨ j = 4 := by omega
    rcases this with q | q | q | q | q <;> subst q
    · refine ⟨_, rfl, fin _ (fun x hx => ?_) fun ⟨ns, e, _, hns⟩ => b3 ?_⟩
      · rcases List.mem_append.mp hx with g | g
        · rcases List.mem_append.mp g with g | g
          · exact fine_nats _ x g
          · rw [List.mem_singleton.mp g]; exact f3
        · exact fine_nats _ x g
      · have hm : x3 ∈ ns.map anN := by rw [← An.l.inj e]; simp
        obtain ⟨n, hn, e2⟩ := List.mem_map.mp hm
        rw [← e2]; exact okA_nat.mpr (hns n hn)
    · exact ⟨_, rfl, fin _ trivial fun ⟨ns, e, _⟩ => by cases e⟩
    · exact ⟨_, rfl, fin _ trivial fun ⟨ns, e, _⟩ => by cases e⟩
    · refine ⟨_, rfl, fin _ (fine_rows _) fun ⟨ns, e, hn, _⟩ => ?_⟩
      have e1 : _ = ns := map_anN_inj (An.l.inj e)
      have e2 := congrArg List.length e1
      have e3 : (cutT (row ++ (List.replicate 41 [1]).flatten) none (some (41 + modN c 9))).length = min (41 + modN c 9) (row.length + 41) := by
        show (List.take _ _).length = _
        rw [List.length_take, List.length_append, l1]
      rw [e3] at e2
      omega
    · exact ⟨_, rfl, fin _ trivial fun ⟨ns, e, _⟩ => by cases e⟩
  have neg : ¬ okA (An.i (-1)) 1 := fun ⟨n, e, _⟩ => by
    have : (-1 : Int) = (n : Int) := An.i.inj e
    omega
  have hi : mixV c 7 % 7 < 7 := Nat.mod_lt _ (by decide)
  generalize mixV c 7 % 7 = i at *
  have : i = 0 ∨ i = 1 ∨ i = 2 ∨ i = 3 ∨ i = 4 ∨ i = 5 ∨ i = 6 := by omega
  rcases this with q | q | q | q | q | q | q <;> subst q
  · exact ⟨_, rfl, go _ fine_i fun q => by have := okA_nat.mp q; omega⟩
  · exact ⟨_, rfl, go _ fine_i neg⟩
  · exact ⟨_, rfl, go _ trivial fun ⟨n, e, _⟩ => by cases e⟩
  · exact ⟨_, rfl, go _ trivial fun ⟨n, e, _⟩ => by cases e⟩
  · exact ⟨_, rfl, go _ trivial fun ⟨n, e, _⟩ => by cases e⟩
  · exact ⟨_, rfl, go _ trivial fun ⟨n, e, _⟩ => by cases e⟩
  · exact ⟨_, rfl, go _ fine_i fun q => by have := okA_nat.mp q; omega⟩
theorem w_drawn {c : Int} {R : List Nat → Prop} (h : ∀ row : List Nat, row.length ≤ 40 → (∀ r ∈ row, r < 2 ^ 1) → R row) : W_drawn c R := by
  rintro size hs
  have hs : size < 41 := by rw [hs]; exact modN_lt (by decide)
  have m2 : ∀ z : Nat, z % 2 < 2 ^ 1 := fun z => Nat.mod_lt z (by decide)
  show if (modN c 2) = 0 then _ else _
  by_cases q : modN c 2 = 0
  · rw [if_pos q]
    refine ⟨by omega, compW_map (fun k => modN ((c / ((82 : Nat) : Int)) / 2 ^ k) 2) (fun k _ kk hk => hk) (h _ (by rw [List.length_map, List.length_range]; omega) fun r hr => ?_)⟩
    obtain ⟨k, _, e⟩ := List.mem_map.mp hr
    rw [← e]; exact modN_lt (by decide)
  · rw [if_neg q]
    refine w_mix ?_
    rintro many hm
    have hm : many < 7 := by rw [hm]; exact Nat.mod_lt _ (by decide)
    refine w_mix ⟨by omega, ?_⟩
    rintro rule _
    refine ⟨by omega, compW_map (fun k => mixV c (10 + k) % 2) (fun k _ kk hk => w_mix hk) ?_⟩
    refine whileW_ind (fun row => many ≤ row.length ∧ row.length ≤ 41 ∧ ∀ r ∈ row, r < 2 ^ 1) (fun row => 50 - row.length) ⟨by rw [List.length_map, List.length_range]; exact Nat.le_refl _, by rw [List.length_map, List.length_range]; omega, fun r hr => by
      obtain ⟨k, _, e⟩ := List.mem_map.mp hr
      rw [← e]; exact m2 _⟩ ?_
    rintro row nx ⟨i1, i2, i3⟩ hn
    show if decide (row.length < size) = true then _ else _
    by_cases c1 : row.length < size
    · rw [if_pos (decide_eq_true c1)]
      refine ⟨by omega, compW_map (fun k => row.getD (row.length - many + k) 0 * ((rule >>> k) &&& 1)) (fun k hk kk hkk => ?_) ?_⟩
      · have hk := List.mem_range.mp hk
        have lt : row.length - many + k < row.length := by omega
        have e : row[row.length - many + k]? = some (row.getD (row.length - many + k) 0) := by rw [List.getD_eq_getElem?_getD, List.getElem?_eq_getElem lt]; rfl
        have := i3 _ (List.mem_of_getElem? e)
        exact ⟨i1, _, e, .inl (by omega), hkk⟩
      · refine ⟨by omega, hn _ ⟨by rw [List.length_append]; omega, by rw [List.length_append]; show row.length + 1 ≤ 41; omega, fun r hr => ?_⟩ (by rw [List.length_append]; show 50 - (row.length + 1) < 50 - row.length; omega)⟩
        rcases List.mem_append.mp hr with g | g
        · exact i3 r g
        · rw [List.mem_singleton.mp g]; exact m2 _
    · rw [if_neg (by simpa using c1)]
      show jn _ _
      have tl : (cutT row none (some size)).length = size := by
        show (row.take size).length = size
        rw [List.length_take]; omega
      have tm : ∀ r ∈ cutT row none (some size), r < 2 ^ 1 := fun r hr => i3 r (List.mem_of_mem_take (show r ∈ row.take size from hr))
      have plain : R (cutT row none (some size)) := h _ (by omega) tm
      have flip : 0 < size → W_mix c 4 fun z5 => (0 < size) ∧ ∀ at1 : Nat, at1 = z5 % size → ∃ x10, (cutT row none (some size))[at1]? = some x10 ∧ (x10 ≤ 1) ∧ (at1 < (cutT row none (some size)).length) ∧ R ((cutT row none (some size)).set at1 (1 - x10)) := by
        intro hp
        refine w_mix ⟨hp, ?_⟩
        rintro at1 hat
        have hat : at1 < size := by rw [hat]; exact Nat.mod_lt _ hp
        have e : (cutT row none (some size))[at1]? = some ((cutT row none (some size)).getD at1 0) := by rw [List.getD_eq_getElem?_getD, List.getElem?_eq_getElem (by omega)]; rfl
        have h1 := tm _ (List.mem_of_getElem? e)
        refine ⟨_, e, by omega, by omega, h _ (by rw [List.length_set]; omega) fun r hr => ?_⟩
        rcases List.mem_or_eq_of_mem_set hr with g | g
        · exact tm r g
        · rw [g]; show _ < 2; omega
      refine jnI (jnI ?_)
      by_cases c2 : 0 < size
      · rw [if_pos c2]
        refine w_mix ?_
        show if decide _ = true then _ else _
        by_cases c3 : mixV c 3 % 3 = 0
        · rw [if_pos (decide_eq_true c3)]; exact flip c2
        · rw [if_neg (by simpa using c3)]; exact plain
      · rw [if_neg c2]
        show if false = true then _ else _
        rw [if_neg (by simp)]; exact plain
theorem w_law {s : List Int} (hl : s.length ≤ 63) {R : Bool → Prop} (h : R true) : W_law s R := by
  refine forW_unit (fun c _ nx bk hn => ?_) ?_
  · refine jnI (w_drawn fun row l1 b1 => w_right l1 b1 ?_)
    rw [if_pos rfl]
    refine w_drawn fun row2 l2 b2 => w_refused ?_ ?_
    · show (row2.take 39).length ≤ 39
      rw [List.length_take]; omega
    · show if (!true) = true then _ else _
      rw [if_neg (by simp)]; exact hn
  · refine w_cell (w_mix (jnI (w_drawn fun row l1 b1 => w_right l1 b1 ?_)))
    rw [if_pos rfl]
    have hm : mixV (cellV s 0) 5 % 41 < 41 := Nat.mod_lt _ (by decide)
    generalize mixV (cellV s 0) 5 % 41 = n at *
    refine ⟨⟨by show 1 * n < 1000000; omega, by omega⟩, ?_⟩
    rw [flat_rep]
    refine w_right (by rw [List.length_replicate]; omega) (fun r hr => by rw [List.eq_of_mem_replicate hr]; decide) ?_
    rw [if_pos rfl]
    exact w_right (by decide) (fun r hr => by cases hr) h
end My
namespace My
open PySem L2 Wk
theorem all_mk {l : PySem.W.OpenLaw} {w : World} {K : PySem.W.Frag} {h : Heap} {mg : Str → Option Value} {fa f_is_whole f_is_mask f_even f_bits_of f_mask_of f_is_pairs f_bit_of f_bits_by f_Machine___init__ f_Machine_stores f_Machine_outputs f_Machine_told f_Machine_need f_Machine_step f_Machine_walk f_Machine_run f_Steps_lowered f_Steps_crossing f_Steps___init__ f_sum_for f_need_row f_part f_told_by f_heard f_cell f_mix f_odd f_turn f_drawn f_answers f_bars f_right f_refused f_law C_Steps C_Machine C_BadMask C_BadRow : Addr} (X : K.In h) (G : h.Ns mainGlobals mg) (hfa : mg "law" = some (.ref fa))
    {oc_is_whole kV_is_whole dc_is_whole pm_is_whole cd_is_whole ct_is_whole : Value} {od_is_whole an_is_whole : Option Addr} {sl_is_whole : Array (Option Value)} {oc_is_mask kV_is_mask dc_is_mask pm_is_mask cd_is_mask ct_is_mask : Value} {od_is_mask an_is_mask : Option Addr} {sl_is_mask : Array (Option Value)} {oc_even kV_even dc_even pm_even cd_even ct_even : Value} {od_even an_even : Option Addr} {sl_even : Array (Option Value)} {oc_bits_of kV_bits_of dc_bits_of pm_bits_of cd_bits_of ct_bits_of : Value} {od_bits_of an_bits_of : Option Addr} {sl_bits_of : Array (Option Value)} {oc_mask_of kV_mask_of dc_mask_of pm_mask_of cd_mask_of ct_mask_of : Value} {od_mask_of an_mask_of : Option Addr} {sl_mask_of : Array (Option Value)} {oc_is_pairs kV_is_pairs dc_is_pairs pm_is_pairs cd_is_pairs ct_is_pairs : Value} {od_is_pairs an_is_pairs : Option Addr} {sl_is_pairs : Array (Option Value)} {oc_bit_of kV_bit_of dc_bit_of pm_bit_of cd_bit_of ct_bit_of : Value} {od_bit_of an_bit_of : Option Addr} {sl_bit_of : Array (Option Value)} {oc_bits_by kV_bits_by dc_bits_by pm_bits_by cd_bits_by ct_bits_by : Value} {od_bits_by an_bits_by : Option Addr} {sl_bits_by : Array (Option Value)} {oc_Machine___init__ kV_Machine___init__ dc_Machine___init__ pm_Machine___init__ cd_Machine___init__ ct_Machine___init__ : Value} {od_Machine___init__ an_Machine___init__ : Option Addr} {sl_Machine___init__ : Array (Option Value)} {oc_Machine_stores kV_Machine_stores dc_Machine_stores pm_Machine_stores cd_Machine_stores ct_Machine_stores : Value} {od_Machine_stores an_Machine_stores : Option Addr} {sl_Machine_stores : Array (Option Value)} {oc_Machine_outputs kV_Machine_outputs dc_Machine_outputs pm_Machine_outputs cd_Machine_outputs ct_Machine_outputs : Value} {od_Machine_outputs an_Machine_outputs : Option Addr} {sl_Machine_outputs : Array (Option Value)} {oc_Machine_told kV_Machine_told dc_Machine_told pm_Machine_told cd_Machine_told ct_Machine_told : Value} {od_Machine_told an_Machine_told : Option Addr} {sl_Machine_told : Array (Option Value)} {oc_Machine_need kV_Machine_need dc_Machine_need pm_Machine_need cd_Machine_need ct_Machine_need : Value} {od_Machine_need an_Machine_need : Option Addr} {sl_Machine_need : Array (Option Value)} {oc_Machine_step kV_Machine_step dc_Machine_step pm_Machine_step cd_Machine_step ct_Machine_step : Value} {od_Machine_step an_Machine_step : Option Addr} {sl_Machine_step : Array (Option Value)} {oc_Machine_walk kV_Machine_walk dc_Machine_walk pm_Machine_walk cd_Machine_walk ct_Machine_walk : Value} {od_Machine_walk an_Machine_walk : Option Addr} {sl_Machine_walk : Array (Option Value)} {oc_Machine_run kV_Machine_run dc_Machine_run pm_Machine_run cd_Machine_run ct_Machine_run : Value} {od_Machine_run an_Machine_run : Option Addr} {sl_Machine_run : Array (Option Value)} {oc_Steps_lowered kV_Steps_lowered dc_Steps_lowered pm_Steps_lowered cd_Steps_lowered ct_Steps_lowered : Value} {od_Steps_lowered an_Steps_lowered : Option Addr} {sl_Steps_lowered : Array (Option Value)} {oc_Steps_crossing kV_Steps_crossing dc_Steps_crossing pm_Steps_crossing cd_Steps_crossing ct_Steps_crossing : Value} {od_Steps_crossing an_Steps_crossing : Option Addr} {sl_Steps_crossing : Array (Option Value)} {oc_Steps___init__ kV_Steps___init__ dc_Steps___init__ pm_Steps___init__ cd_Steps___init__ ct_Steps___init__ : Value} {od_Steps___init__ an_Steps___init__ : Option Addr} {sl_Steps___init__ : Array (Option Value)} {oc_sum_for kV_sum_for dc_sum_for pm_sum_for cd_sum_for ct_sum_for : Value} {od_sum_for an_sum_for : Option Addr} {sl_sum_for : Array (Option Value)} {oc_need_row kV_need_row dc_need_row pm_need_row cd_need_row ct_need_row : Value} {od_need_row an_need_row : Option Addr} {sl_need_row : Array (Option Value)} {oc_part kV_part dc_part pm_part cd_part ct_part : Value} {od_part an_part : Option Addr} {sl_part : Array (Option Value)} {oc_told_by kV_told_by dc_told_by pm_told_by cd_told_by ct_told_by : Value} {od_told_by an_told_by : Option Addr} {sl_told_by : Array (Option Value)} {oc_heard kV_heard dc_heard pm_heard cd_heard ct_heard : Value} {od_heard an_heard : Option Addr} {sl_heard : Array (Option Value)} {oc_cell kV_cell dc_cell pm_cell cd_cell ct_cell : Value} {od_cell an_cell : Option Addr} {sl_cell : Array (Option Value)} {oc_mix kV_mix dc_mix pm_mix cd_mix ct_mix : Value} {od_mix an_mix : Option Addr} {sl_mix : Array (Option Value)} {oc_odd kV_odd dc_odd pm_odd cd_odd ct_odd : Value} {od_odd an_odd : Option Addr} {sl_odd : Array (Option Value)} {oc_turn kV_turn dc_turn pm_turn cd_turn ct_turn : Value} {od_turn an_turn : Option Addr} {sl_turn : Array (Option Value)} {oc_drawn kV_drawn dc_drawn pm_drawn cd_drawn ct_drawn : Value} {od_drawn an_drawn : Option Addr} {sl_drawn : Array (Option Value)} {oc_answers kV_answers dc_answers pm_answers cd_answers ct_answers : Value} {od_answers an_answers : Option Addr} {sl_answers : Array (Option Value)} {oc_bars kV_bars dc_bars pm_bars cd_bars ct_bars : Value} {od_bars an_bars : Option Addr} {sl_bars : Array (Option Value)} {oc_right kV_right dc_right pm_right cd_right ct_right : Value} {od_right an_right : Option Addr} {sl_right : Array (Option Value)} {oc_refused kV_refused dc_refused pm_refused cd_refused ct_refused : Value} {od_refused an_refused : Option Addr} {sl_refused : Array (Option Value)} {oc_law kV_law dc_law pm_law cd_law ct_law : Value} {od_law an_law : Option Addr} {sl_law : Array (Option Value)}
    (aC_Steps : PySem.W.nsIn K mainGlobals "Steps" = some (some (.ref C_Steps))) (pg_Steps : PySem.W.plainGet K C_Steps Str.empty = true) (hd_Steps : PySem.W.hasDictIn K C_Steps = true) (po_Steps : PySem.W.plainOver K C_Steps = true) (sa_Steps : PySem.W.findIn K (.ref C_Steps) "__setattr__" = some (some (.builtin "object.__setattr__"))) (mk_Steps : PySem.W.makesIn K C_Steps = true) (kc_Steps : PySem.W.keepIn K (.ref C_Steps) = true)
    (na_Steps_kept : PySem.W.findIn K (.ref C_Steps) "kept" = some none)
    (na_Steps_found : PySem.W.findIn K (.ref C_Steps) "found" = some none)
    (na_Steps_gone : PySem.W.findIn K (.ref C_Steps) "gone" = some none)
    (aC_Machine : PySem.W.nsIn K mainGlobals "Machine" = some (some (.ref C_Machine))) (pg_Machine : PySem.W.plainGet K C_Machine Str.empty = true) (hd_Machine : PySem.W.hasDictIn K C_Machine = true) (po_Machine : PySem.W.plainOver K C_Machine = true) (sa_Machine : PySem.W.findIn K (.ref C_Machine) "__setattr__" = some (some (.builtin "object.__setattr__"))) (mk_Machine : PySem.W.makesIn K C_Machine = true) (kc_Machine : PySem.W.keepIn K (.ref C_Machine) = true)
    (na_Machine_inputs : PySem.W.findIn K (.ref C_Machine) "inputs" = some none)
    (na_Machine_nexts : PySem.W.findIn K (.ref C_Machine) "nexts" = some none)
    (na_Machine_outs : PySem.W.findIn K (.ref C_Machine) "outs" = some none)
    (aC_BadMask : PySem.W.nsIn K mainGlobals "BadMask" = some (some (.ref C_BadMask))) (xX_BadMask : PySem.W.excIn K C_BadMask [.type "ValueError", .type "Exception", .type "BaseException", .type "object"] "ValueError.__new__" = true) (kX_BadMask : PySem.W.keepIn K (.ref C_BadMask) = true) (bX_BadMask : PySem.W.subIn K (.ref C_BadMask) (.type "BaseException") = some true) (tX_BadMask : PySem.W.typeIn K (.ref C_BadMask) = some (.type "type")) (iX_BadMask : PySem.W.isClsIn K C_BadMask = true)
    (aC_BadRow : PySem.W.nsIn K mainGlobals "BadRow" = some (some (.ref C_BadRow))) (xX_BadRow : PySem.W.excIn K C_BadRow [.type "ValueError", .type "Exception", .type "BaseException", .type "object"] "ValueError.__new__" = true) (kX_BadRow : PySem.W.keepIn K (.ref C_BadRow) = true) (bX_BadRow : PySem.W.subIn K (.ref C_BadRow) (.type "BaseException") = some true) (tX_BadRow : PySem.W.typeIn K (.ref C_BadRow) = some (.type "type")) (iX_BadRow : PySem.W.isClsIn K C_BadRow = true)
    {t_MOST_HEARD : Tok} (u_MOST_HEARD : PySem.W.nsIn K mainGlobals "MOST_HEARD" = some (some (.int 40 t_MOST_HEARD)))
    {t_MOST_INPUTS : Tok} (u_MOST_INPUTS : PySem.W.nsIn K mainGlobals "MOST_INPUTS" = some (some (.int 6 t_MOST_INPUTS)))
    {t_MOST_OUTS : Tok} (u_MOST_OUTS : PySem.W.nsIn K mainGlobals "MOST_OUTS" = some (some (.int 6 t_MOST_OUTS)))
    {t_MOST_STORES : Tok} (u_MOST_STORES : PySem.W.nsIn K mainGlobals "MOST_STORES" = some (some (.int 120 t_MOST_STORES)))
    (ea_Machine : PySem.W.findIn K (.ref C_Machine) "__class__" = some (some (.builtin "object.__class__"))) (em_Machine : PySem.W.mroIn K C_Machine (.type "object") = some true)
    (eN : PySem.W.specialIn K (.builtin "object.__class__") "__get__" = some (some (.builtin "getset_descriptor.__get__"))) (eT : PySem.W.takesIn K (.builtin "object.__class__") = some true)
    (sX_BadRow_BadRow : PySem.W.subIn K (.ref C_BadRow) (.ref C_BadRow) = some true)
    (a_is_whole : PySem.W.nsIn K mainGlobals "is_whole" = some (some (.ref f_is_whole)))
    (l_is_whole : K.lookup f_is_whole = some ⟨oc_is_whole, od_is_whole, .func (PySem.W.fnOf "is_whole" "is_whole" (defArgs s_is_whole) (defBody s_is_whole) (defScope s_is_whole) .none kV_is_whole dc_is_whole pm_is_whole an_is_whole cd_is_whole ct_is_whole), sl_is_whole⟩) (c_is_whole : PySem.W.codeIn K cd_is_whole "is_whole" = true) (k_is_whole : PySem.W.keepIn K (.ref f_is_whole) = true)
    (a_is_mask : PySem.W.nsIn K mainGlobals "is_mask" = some (some (.ref f_is_mask)))
    (l_is_mask : K.lookup f_is_mask = some ⟨oc_is_mask, od_is_mask, .func (PySem.W.fnOf "is_mask" "is_mask" (defArgs s_is_mask) (defBody s_is_mask) (defScope s_is_mask) .none kV_is_mask dc_is_mask pm_is_mask an_is_mask cd_is_mask ct_is_mask), sl_is_mask⟩) (c_is_mask : PySem.W.codeIn K cd_is_mask "is_mask" = true) (k_is_mask : PySem.W.keepIn K (.ref f_is_mask) = true)
    (a_even : PySem.W.nsIn K mainGlobals "even" = some (some (.ref f_even)))
    (l_even : K.lookup f_even = some ⟨oc_even, od_even, .func (PySem.W.fnOf "even" "even" (defArgs s_even) (defBody s_even) (defScope s_even) .none kV_even dc_even pm_even an_even cd_even ct_even), sl_even⟩) (c_even : PySem.W.codeIn K cd_even "even" = true) (k_even : PySem.W.keepIn K (.ref f_even) = true)
    (a_bits_of : PySem.W.nsIn K mainGlobals "bits_of" = some (some (.ref f_bits_of)))
    (l_bits_of : K.lookup f_bits_of = some ⟨oc_bits_of, od_bits_of, .func (PySem.W.fnOf "bits_of" "bits_of" (defArgs s_bits_of) (defBody s_bits_of) (defScope s_bits_of) .none kV_bits_of dc_bits_of pm_bits_of an_bits_of cd_bits_of ct_bits_of), sl_bits_of⟩) (c_bits_of : PySem.W.codeIn K cd_bits_of "bits_of" = true) (k_bits_of : PySem.W.keepIn K (.ref f_bits_of) = true)
    (a_mask_of : PySem.W.nsIn K mainGlobals "mask_of" = some (some (.ref f_mask_of)))
    (l_mask_of : K.lookup f_mask_of = some ⟨oc_mask_of, od_mask_of, .func (PySem.W.fnOf "mask_of" "mask_of" (defArgs s_mask_of) (defBody s_mask_of) (defScope s_mask_of) .none kV_mask_of dc_mask_of pm_mask_of an_mask_of cd_mask_of ct_mask_of), sl_mask_of⟩) (c_mask_of : PySem.W.codeIn K cd_mask_of "mask_of" = true) (k_mask_of : PySem.W.keepIn K (.ref f_mask_of) = true)
    (a_is_pairs : PySem.W.nsIn K mainGlobals "is_pairs" = some (some (.ref f_is_pairs)))
    (l_is_pairs : K.lookup f_is_pairs = some ⟨oc_is_pairs, od_is_pairs, .func (PySem.W.fnOf "is_pairs" "is_pairs" (defArgs s_is_pairs) (defBody s_is_pairs) (defScope s_is_pairs) .none kV_is_pairs dc_is_pairs pm_is_pairs an_is_pairs cd_is_pairs ct_is_pairs), sl_is_pairs⟩) (c_is_pairs : PySem.W.codeIn K cd_is_pairs "is_pairs" = true) (k_is_pairs : PySem.W.keepIn K (.ref f_is_pairs) = true)
    (a_bit_of : PySem.W.nsIn K mainGlobals "bit_of" = some (some (.ref f_bit_of)))
    (l_bit_of : K.lookup f_bit_of = some ⟨oc_bit_of, od_bit_of, .func (PySem.W.fnOf "bit_of" "bit_of" (defArgs s_bit_of) (defBody s_bit_of) (defScope s_bit_of) .none kV_bit_of dc_bit_of pm_bit_of an_bit_of cd_bit_of ct_bit_of), sl_bit_of⟩) (c_bit_of : PySem.W.codeIn K cd_bit_of "bit_of" = true) (k_bit_of : PySem.W.keepIn K (.ref f_bit_of) = true)
    (a_bits_by : PySem.W.nsIn K mainGlobals "bits_by" = some (some (.ref f_bits_by)))
    (l_bits_by : K.lookup f_bits_by = some ⟨oc_bits_by, od_bits_by, .func (PySem.W.fnOf "bits_by" "bits_by" (defArgs s_bits_by) (defBody s_bits_by) (defScope s_bits_by) .none kV_bits_by dc_bits_by pm_bits_by an_bits_by cd_bits_by ct_bits_by), sl_bits_by⟩) (c_bits_by : PySem.W.codeIn K cd_bits_by "bits_by" = true) (k_bits_by : PySem.W.keepIn K (.ref f_bits_by) = true)
    (a_Machine___init__ : PySem.W.findIn K (.ref C_Machine) "__init__" = some (some (.ref f_Machine___init__))) (i_Machine___init__ : PySem.W.isFn K (.ref f_Machine___init__) = true)
    (l_Machine___init__ : K.lookup f_Machine___init__ = some ⟨oc_Machine___init__, od_Machine___init__, .func (PySem.W.fnOf "__init__" "Machine.__init__" (defArgs s_Machine___init__) (defBody s_Machine___init__) (defScope s_Machine___init__) .none kV_Machine___init__ dc_Machine___init__ pm_Machine___init__ an_Machine___init__ cd_Machine___init__ ct_Machine___init__), sl_Machine___init__⟩) (c_Machine___init__ : PySem.W.codeIn K cd_Machine___init__ "Machine.__init__" = true) (k_Machine___init__ : PySem.W.keepIn K (.ref f_Machine___init__) = true)
    (a_Machine_stores : PySem.W.findIn K (.ref C_Machine) "stores" = some (some (.ref f_Machine_stores))) (i_Machine_stores : PySem.W.isFn K (.ref f_Machine_stores) = true)
    (l_Machine_stores : K.lookup f_Machine_stores = some ⟨oc_Machine_stores, od_Machine_stores, .func (PySem.W.fnOf "stores" "Machine.stores" (defArgs s_Machine_stores) (defBody s_Machine_stores) (defScope s_Machine_stores) .none kV_Machine_stores dc_Machine_stores pm_Machine_stores an_Machine_stores cd_Machine_stores ct_Machine_stores), sl_Machine_stores⟩) (c_Machine_stores : PySem.W.codeIn K cd_Machine_stores "Machine.stores" = true) (k_Machine_stores : PySem.W.keepIn K (.ref f_Machine_stores) = true)
    (a_Machine_outputs : PySem.W.findIn K (.ref C_Machine) "outputs" = some (some (.ref f_Machine_outputs))) (i_Machine_outputs : PySem.W.isFn K (.ref f_Machine_outputs) = true)
    (l_Machine_outputs : K.lookup f_Machine_outputs = some ⟨oc_Machine_outputs, od_Machine_outputs, .func (PySem.W.fnOf "outputs" "Machine.outputs" (defArgs s_Machine_outputs) (defBody s_Machine_outputs) (defScope s_Machine_outputs) .none kV_Machine_outputs dc_Machine_outputs pm_Machine_outputs an_Machine_outputs cd_Machine_outputs ct_Machine_outputs), sl_Machine_outputs⟩) (c_Machine_outputs : PySem.W.codeIn K cd_Machine_outputs "Machine.outputs" = true) (k_Machine_outputs : PySem.W.keepIn K (.ref f_Machine_outputs) = true)
    (a_Machine_told : PySem.W.findIn K (.ref C_Machine) "told" = some (some (.ref f_Machine_told))) (i_Machine_told : PySem.W.isFn K (.ref f_Machine_told) = true)
    (l_Machine_told : K.lookup f_Machine_told = some ⟨oc_Machine_told, od_Machine_told, .func (PySem.W.fnOf "told" "Machine.told" (defArgs s_Machine_told) (defBody s_Machine_told) (defScope s_Machine_told) .none kV_Machine_told dc_Machine_told pm_Machine_told an_Machine_told cd_Machine_told ct_Machine_told), sl_Machine_told⟩) (c_Machine_told : PySem.W.codeIn K cd_Machine_told "Machine.told" = true) (k_Machine_told : PySem.W.keepIn K (.ref f_Machine_told) = true)
    (a_Machine_need : PySem.W.findIn K (.ref C_Machine) "need" = some (some (.ref f_Machine_need))) (i_Machine_need : PySem.W.isFn K (.ref f_Machine_need) = true)
    (l_Machine_need : K.lookup f_Machine_need = some ⟨oc_Machine_need, od_Machine_need, .func (PySem.W.fnOf "need" "Machine.need" (defArgs s_Machine_need) (defBody s_Machine_need) (defScope s_Machine_need) .none kV_Machine_need dc_Machine_need pm_Machine_need an_Machine_need cd_Machine_need ct_Machine_need), sl_Machine_need⟩) (c_Machine_need : PySem.W.codeIn K cd_Machine_need "Machine.need" = true) (k_Machine_need : PySem.W.keepIn K (.ref f_Machine_need) = true)
    (a_Machine_step : PySem.W.findIn K (.ref C_Machine) "step" = some (some (.ref f_Machine_step))) (i_Machine_step : PySem.W.isFn K (.ref f_Machine_step) = true)
    (l_Machine_step : K.lookup f_Machine_step = some ⟨oc_Machine_step, od_Machine_step, .func (PySem.W.fnOf "step" "Machine.step" (defArgs s_Machine_step) (defBody s_Machine_step) (defScope s_Machine_step) .none kV_Machine_step dc_Machine_step pm_Machine_step an_Machine_step cd_Machine_step ct_Machine_step), sl_Machine_step⟩) (c_Machine_step : PySem.W.codeIn K cd_Machine_step "Machine.step" = true) (k_Machine_step : PySem.W.keepIn K (.ref f_Machine_step) = true)
    (a_Machine_walk : PySem.W.findIn K (.ref C_Machine) "walk" = some (some (.ref f_Machine_walk))) (i_Machine_walk : PySem.W.isFn K (.ref f_Machine_walk) = true)
    (l_Machine_walk : K.lookup f_Machine_walk = some ⟨oc_Machine_walk, od_Machine_walk, .func (PySem.W.fnOf "walk" "Machine.walk" (defArgs s_Machine_walk) (defBody s_Machine_walk) (defScope s_Machine_walk) .none kV_Machine_walk dc_Machine_walk pm_Machine_walk an_Machine_walk cd_Machine_walk ct_Machine_walk), sl_Machine_walk⟩) (c_Machine_walk : PySem.W.codeIn K cd_Machine_walk "Machine.walk" = true) (k_Machine_walk : PySem.W.keepIn K (.ref f_Machine_walk) = true)
    (a_Machine_run : PySem.W.findIn K (.ref C_Machine) "run" = some (some (.ref f_Machine_run))) (i_Machine_run : PySem.W.isFn K (.ref f_Machine_run) = true)
    {dT_Machine_run : Addr} {da_Machine_run : Value} {db_Machine_run : Option Addr} {dn_Machine_run : Nat} {ds_Machine_run : Array (Option Value)} {dt0_Machine_run : Tok}
    (l_Machine_run : K.lookup f_Machine_run = some ⟨oc_Machine_run, od_Machine_run, .func (PySem.W.fnOf "run" "Machine.run" (defArgs s_Machine_run) (defBody s_Machine_run) (defScope s_Machine_run) (.ref dT_Machine_run) kV_Machine_run dc_Machine_run pm_Machine_run an_Machine_run cd_Machine_run ct_Machine_run), sl_Machine_run⟩) (d_Machine_run : K.lookup dT_Machine_run = some ⟨da_Machine_run, db_Machine_run, .seq #[.int 0 dt0_Machine_run] dn_Machine_run, ds_Machine_run⟩) (c_Machine_run : PySem.W.codeIn K cd_Machine_run "Machine.run" = true) (k_Machine_run : PySem.W.keepIn K (.ref f_Machine_run) = true)
    (a_Steps_lowered : PySem.W.findIn K (.ref C_Steps) "lowered" = some (some (.ref f_Steps_lowered))) (i_Steps_lowered : PySem.W.isFn K (.ref f_Steps_lowered) = true)
    (l_Steps_lowered : K.lookup f_Steps_lowered = some ⟨oc_Steps_lowered, od_Steps_lowered, .func (PySem.W.fnOf "lowered" "Steps.lowered" (defArgs s_Steps_lowered) (defBody s_Steps_lowered) (defScope s_Steps_lowered) .none kV_Steps_lowered dc_Steps_lowered pm_Steps_lowered an_Steps_lowered cd_Steps_lowered ct_Steps_lowered), sl_Steps_lowered⟩) (c_Steps_lowered : PySem.W.codeIn K cd_Steps_lowered "Steps.lowered" = true) (k_Steps_lowered : PySem.W.keepIn K (.ref f_Steps_lowered) = true)
    (a_Steps_crossing : PySem.W.findIn K (.ref C_Steps) "crossing" = some (some (.ref f_Steps_crossing))) (i_Steps_crossing : PySem.W.isFn K (.ref f_Steps_crossing) = true)
    (l_Steps_crossing : K.lookup f_Steps_crossing = some ⟨oc_Steps_crossing, od_Steps_crossing, .func (PySem.W.fnOf "crossing" "Steps.crossing" (defArgs s_Steps_crossing) (defBody s_Steps_crossing) (defScope s_Steps_crossing) .none kV_Steps_crossing dc_Steps_crossing pm_Steps_crossing an_Steps_crossing cd_Steps_crossing ct_Steps_crossing), sl_Steps_crossing⟩) (c_Steps_crossing : PySem.W.codeIn K cd_Steps_crossing "Steps.crossing" = true) (k_Steps_crossing : PySem.W.keepIn K (.ref f_Steps_crossing) = true)
    (a_Steps___init__ : PySem.W.findIn K (.ref C_Steps) "__init__" = some (some (.ref f_Steps___init__))) (i_Steps___init__ : PySem.W.isFn K (.ref f_Steps___init__) = true)
    (l_Steps___init__ : K.lookup f_Steps___init__ = some ⟨oc_Steps___init__, od_Steps___init__, .func (PySem.W.fnOf "__init__" "Steps.__init__" (defArgs s_Steps___init__) (defBody s_Steps___init__) (defScope s_Steps___init__) .none kV_Steps___init__ dc_Steps___init__ pm_Steps___init__ an_Steps___init__ cd_Steps___init__ ct_Steps___init__), sl_Steps___init__⟩) (c_Steps___init__ : PySem.W.codeIn K cd_Steps___init__ "Steps.__init__" = true) (k_Steps___init__ : PySem.W.keepIn K (.ref f_Steps___init__) = true)
    (a_sum_for : PySem.W.nsIn K mainGlobals "sum_for" = some (some (.ref f_sum_for)))
    (l_sum_for : K.lookup f_sum_for = some ⟨oc_sum_for, od_sum_for, .func (PySem.W.fnOf "sum_for" "sum_for" (defArgs s_sum_for) (defBody s_sum_for) (defScope s_sum_for) .none kV_sum_for dc_sum_for pm_sum_for an_sum_for cd_sum_for ct_sum_for), sl_sum_for⟩) (c_sum_for : PySem.W.codeIn K cd_sum_for "sum_for" = true) (k_sum_for : PySem.W.keepIn K (.ref f_sum_for) = true)
    (a_need_row : PySem.W.nsIn K mainGlobals "need_row" = some (some (.ref f_need_row)))
    (l_need_row : K.lookup f_need_row = some ⟨oc_need_row, od_need_row, .func (PySem.W.fnOf "need_row" "need_row" (defArgs s_need_row) (defBody s_need_row) (defScope s_need_row) .none kV_need_row dc_need_row pm_need_row an_need_row cd_need_row ct_need_row), sl_need_row⟩) (c_need_row : PySem.W.codeIn K cd_need_row "need_row" = true) (k_need_row : PySem.W.keepIn K (.ref f_need_row) = true)
    (a_part : PySem.W.nsIn K mainGlobals "part" = some (some (.ref f_part)))
    (l_part : K.lookup f_part = some ⟨oc_part, od_part, .func (PySem.W.fnOf "part" "part" (defArgs s_part) (defBody s_part) (defScope s_part) .none kV_part dc_part pm_part an_part cd_part ct_part), sl_part⟩) (c_part : PySem.W.codeIn K cd_part "part" = true) (k_part : PySem.W.keepIn K (.ref f_part) = true)
    (a_told_by : PySem.W.nsIn K mainGlobals "told_by" = some (some (.ref f_told_by)))
    (l_told_by : K.lookup f_told_by = some ⟨oc_told_by, od_told_by, .func (PySem.W.fnOf "told_by" "told_by" (defArgs s_told_by) (defBody s_told_by) (defScope s_told_by) .none kV_told_by dc_told_by pm_told_by an_told_by cd_told_by ct_told_by), sl_told_by⟩) (c_told_by : PySem.W.codeIn K cd_told_by "told_by" = true) (k_told_by : PySem.W.keepIn K (.ref f_told_by) = true)
    (a_heard : PySem.W.nsIn K mainGlobals "heard" = some (some (.ref f_heard)))
    (l_heard : K.lookup f_heard = some ⟨oc_heard, od_heard, .func (PySem.W.fnOf "heard" "heard" (defArgs s_heard) (defBody s_heard) (defScope s_heard) .none kV_heard dc_heard pm_heard an_heard cd_heard ct_heard), sl_heard⟩) (c_heard : PySem.W.codeIn K cd_heard "heard" = true) (k_heard : PySem.W.keepIn K (.ref f_heard) = true)
    (a_cell : PySem.W.nsIn K mainGlobals "_law_cell" = some (some (.ref f_cell)))
    (l_cell : K.lookup f_cell = some ⟨oc_cell, od_cell, .func (PySem.W.fnOf "_law_cell" "_law_cell" (defArgs s_cell) (defBody s_cell) (defScope s_cell) .none kV_cell dc_cell pm_cell an_cell cd_cell ct_cell), sl_cell⟩) (c_cell : PySem.W.codeIn K cd_cell "_law_cell" = true) (k_cell : PySem.W.keepIn K (.ref f_cell) = true)
    (a_mix : PySem.W.nsIn K mainGlobals "_law_mix" = some (some (.ref f_mix)))
    (l_mix : K.lookup f_mix = some ⟨oc_mix, od_mix, .func (PySem.W.fnOf "_law_mix" "_law_mix" (defArgs s_mix) (defBody s_mix) (defScope s_mix) .none kV_mix dc_mix pm_mix an_mix cd_mix ct_mix), sl_mix⟩) (c_mix : PySem.W.codeIn K cd_mix "_law_mix" = true) (k_mix : PySem.W.keepIn K (.ref f_mix) = true)
    (a_odd : PySem.W.nsIn K mainGlobals "_law_odd" = some (some (.ref f_odd)))
    (l_odd : K.lookup f_odd = some ⟨oc_odd, od_odd, .func (PySem.W.fnOf "_law_odd" "_law_odd" (defArgs s_odd) (defBody s_odd) (defScope s_odd) .none kV_odd dc_odd pm_odd an_odd cd_odd ct_odd), sl_odd⟩) (c_odd : PySem.W.codeIn K cd_odd "_law_odd" = true) (k_odd : PySem.W.keepIn K (.ref f_odd) = true)
    (a_turn : PySem.W.nsIn K mainGlobals "_law_turn" = some (some (.ref f_turn)))
    (l_turn : K.lookup f_turn = some ⟨oc_turn, od_turn, .func (PySem.W.fnOf "_law_turn" "_law_turn" (defArgs s_turn) (defBody s_turn) (defScope s_turn) .none kV_turn dc_turn pm_turn an_turn cd_turn ct_turn), sl_turn⟩) (c_turn : PySem.W.codeIn K cd_turn "_law_turn" = true) (k_turn : PySem.W.keepIn K (.ref f_turn) = true)
    (a_drawn : PySem.W.nsIn K mainGlobals "_law_drawn" = some (some (.ref f_drawn)))
    (l_drawn : K.lookup f_drawn = some ⟨oc_drawn, od_drawn, .func (PySem.W.fnOf "_law_drawn" "_law_drawn" (defArgs s_drawn) (defBody s_drawn) (defScope s_drawn) .none kV_drawn dc_drawn pm_drawn an_drawn cd_drawn ct_drawn), sl_drawn⟩) (c_drawn : PySem.W.codeIn K cd_drawn "_law_drawn" = true) (k_drawn : PySem.W.keepIn K (.ref f_drawn) = true)
    (a_answers : PySem.W.nsIn K mainGlobals "_law_answers" = some (some (.ref f_answers)))
    (l_answers : K.lookup f_answers = some ⟨oc_answers, od_answers, .func (PySem.W.fnOf "_law_answers" "_law_answers" (defArgs s_answers) (defBody s_answers) (defScope s_answers) .none kV_answers dc_answers pm_answers an_answers cd_answers ct_answers), sl_answers⟩) (c_answers : PySem.W.codeIn K cd_answers "_law_answers" = true) (k_answers : PySem.W.keepIn K (.ref f_answers) = true)
    (a_bars : PySem.W.nsIn K mainGlobals "_law_bars" = some (some (.ref f_bars)))
    (l_bars : K.lookup f_bars = some ⟨oc_bars, od_bars, .func (PySem.W.fnOf "_law_bars" "_law_bars" (defArgs s_bars) (defBody s_bars) (defScope s_bars) .none kV_bars dc_bars pm_bars an_bars cd_bars ct_bars), sl_bars⟩) (c_bars : PySem.W.codeIn K cd_bars "_law_bars" = true) (k_bars : PySem.W.keepIn K (.ref f_bars) = true)
    (a_right : PySem.W.nsIn K mainGlobals "_law_right" = some (some (.ref f_right)))
    (l_right : K.lookup f_right = some ⟨oc_right, od_right, .func (PySem.W.fnOf "_law_right" "_law_right" (defArgs s_right) (defBody s_right) (defScope s_right) .none kV_right dc_right pm_right an_right cd_right ct_right), sl_right⟩) (c_right : PySem.W.codeIn K cd_right "_law_right" = true) (k_right : PySem.W.keepIn K (.ref f_right) = true)
    (a_refused : PySem.W.nsIn K mainGlobals "_law_refused" = some (some (.ref f_refused)))
    (l_refused : K.lookup f_refused = some ⟨oc_refused, od_refused, .func (PySem.W.fnOf "_law_refused" "_law_refused" (defArgs s_refused) (defBody s_refused) (defScope s_refused) .none kV_refused dc_refused pm_refused an_refused cd_refused ct_refused), sl_refused⟩) (c_refused : PySem.W.codeIn K cd_refused "_law_refused" = true) (k_refused : PySem.W.keepIn K (.ref f_refused) = true)
    (a_law : PySem.W.nsIn K mainGlobals "law" = some (some (.ref f_law)))
    (l_law : K.lookup f_law = some ⟨oc_law, od_law, .func (PySem.W.fnOf "law" "law" (defArgs s_law) (defBody s_law) (defScope s_law) .none kV_law dc_law pm_law an_law cd_law ct_law), sl_law⟩) (c_law : PySem.W.codeIn K cd_law "law" = true) (k_law : PySem.W.keepIn K (.ref f_law) = true)
    (z_bool : PySem.W.nsIn K mainGlobals "bool" = some none)
    (z_enumerate : PySem.W.nsIn K mainGlobals "enumerate" = some none)
    (z_int : PySem.W.nsIn K mainGlobals "int" = some none)
    (z_isinstance : PySem.W.nsIn K mainGlobals "isinstance" = some none)
    (z_len : PySem.W.nsIn K mainGlobals "len" = some none)
    (z_list : PySem.W.nsIn K mainGlobals "list" = some none)
    (z_range : PySem.W.nsIn K mainGlobals "range" = some none)
    (z_sorted : PySem.W.nsIn K mainGlobals "sorted" = some none)
    (z_sum : PySem.W.nsIn K mainGlobals "sum" = some none)
    (z_tuple : PySem.W.nsIn K mainGlobals "tuple" = some none)
    : ∃ (fd : FuncData) (sp : Sp), (∀ (s : Shared) (v : Value), BindsTo s fd ⟨[v], []⟩ [("_law_script", v)]) ∧ (∀ (H : Hp) (a : Addr) (ns : List Int), ns.length ≤ 63 → SqL K H a (ns.map V.int) → sp [.ref a] H (fun v _ => v = .bl true) fun _ _ _ => False) ∧ ∀ base : Heap, K.In base → base.Ns mainGlobals mg → FnOk l.prog w K mg base CX0 8 fa fd ["_law_script"] sp := by
  have e := hfa.symm.trans (PySem.W.mg_of X G a_law)
  cases e
  have F_is_whole := fun_mk (st := s_is_whole) l_is_whole c_is_whole k_is_whole
  have b_is_whole := F_is_whole.binds (ps := ["thing"]) fun _ _ _ _ _ _ us hl => match us, hl with | [_], _ => rfl
  have F_is_mask := fun_mk (st := s_is_mask) l_is_mask c_is_mask k_is_mask
  have b_is_mask := F_is_mask.binds (ps := ["thing", "width"]) fun _ _ _ _ _ _ us hl => match us, hl with | [_, _], _ => rfl
  have F_even := fun_mk (st := s_even) l_even c_even k_even
  have b_even := F_even.binds (ps := ["number"]) fun _ _ _ _ _ _ us hl => match us, hl with | [_], _ => rfl
  have F_bits_of := fun_mk (st := s_bits_of) l_bits_of c_bits_of k_bits_of
  have b_bits_of := F_bits_of.binds (ps := ["mask"]) fun _ _ _ _ _ _ us hl => match us, hl with | [_], _ => rfl
  have F_mask_of := fun_mk (st := s_mask_of) l_mask_of c_mask_of k_mask_of
  have b_mask_of := F_mask_of.binds (ps := ["places"]) fun _ _ _ _ _ _ us hl => match us, hl with | [_], _ => rfl
  have F_is_pairs := fun_mk (st := s_is_pairs) l_is_pairs c_is_pairs k_is_pairs
  have b_is_pairs := F_is_pairs.binds (ps := ["thing", "most", "stores", "inputs"]) fun _ _ _ _ _ _ us hl => match us, hl with | [_, _, _, _], _ => rfl
  have F_bit_of := fun_mk (st := s_bit_of) l_bit_of c_bit_of k_bit_of
  have b_bit_of := F_bit_of.binds (ps := ["pair", "state", "row"]) fun _ _ _ _ _ _ us hl => match us, hl with | [_, _, _], _ => rfl
  have F_bits_by := fun_mk (st := s_bits_by) l_bits_by c_bits_by k_bits_by
  have b_bits_by := F_bits_by.binds (ps := ["pairs", "state", "row"]) fun _ _ _ _ _ _ us hl => match us, hl with | [_, _, _], _ => rfl
  have F_Machine___init__ := fun_mk (st := s_Machine___init__) l_Machine___init__ c_Machine___init__ k_Machine___init__
  have b_Machine___init__ := F_Machine___init__.binds (ps := ["self", "inputs", "nexts", "outs"]) fun _ _ _ _ _ _ us hl => match us, hl with | [_, _, _, _], _ => rfl
  have F_Machine_stores := fun_mk (st := s_Machine_stores) l_Machine_stores c_Machine_stores k_Machine_stores
  have b_Machine_stores := F_Machine_stores.binds (ps := ["self"]) fun _ _ _ _ _ _ us hl => match us, hl with | [_], _ => rfl
  have F_Machine_outputs := fun_mk (st := s_Machine_outputs) l_Machine_outputs c_Machine_outputs k_Machine_outputs
  have b_Machine_outputs := F_Machine_outputs.binds (ps := ["self"]) fun _ _ _ _ _ _ us hl => match us, hl with | [_], _ => rfl
  have F_Machine_told := fun_mk (st := s_Machine_told) l_Machine_told c_Machine_told k_Machine_told
  have b_Machine_told := F_Machine_told.binds (ps := ["self"]) fun _ _ _ _ _ _ us hl => match us, hl with | [_], _ => rfl
  have F_Machine_need := fun_mk (st := s_Machine_need) l_Machine_need c_Machine_need k_Machine_need
  have b_Machine_need := F_Machine_need.binds (ps := ["self", "thing", "width"]) fun _ _ _ _ _ _ us hl => match us, hl with | [_, _, _], _ => rfl
  have F_Machine_step := fun_mk (st := s_Machine_step) l_Machine_step c_Machine_step k_Machine_step
  have b_Machine_step := F_Machine_step.binds (ps := ["self", "state", "row"]) fun _ _ _ _ _ _ us hl => match us, hl with | [_, _, _], _ => rfl
  have F_Machine_walk := fun_mk (st := s_Machine_walk) l_Machine_walk c_Machine_walk k_Machine_walk
  have b_Machine_walk := F_Machine_walk.binds (ps := ["self", "rows", "state"]) fun _ _ _ _ _ _ us hl => match us, hl with | [_, _, _], _ => rfl
  have F_Machine_run := funD_mk (st := s_Machine_run) (dvs := [.int 0]) l_Machine_run c_Machine_run k_Machine_run d_Machine_run (.cons ⟨_, rfl⟩ .nil) (by simp)
  have b_Machine_run := FunD.full (ps := ["self", "rows", "state"]) F_Machine_run (by simp) fun _ _ _ _ _ _ _ us its h1 h2 => match us, its, h1, h2 with | [_, _, _], [_], _, _ => ⟨_, rfl, rfl⟩
  have B_Machine_run := FunD.binds1 (ps := ["self", "rows", "state"]) F_Machine_run 2 0 (by simp) rfl fun _ _ _ _ _ _ _ us its h1 h2 => match us, its, h1, h2 with | [_, _], [_], _, _ => ⟨_, rfl, rfl⟩
  have F_Steps_lowered := fun_mk (st := s_Steps_lowered) l_Steps_lowered c_Steps_lowered k_Steps_lowered
  have b_Steps_lowered := F_Steps_lowered.binds (ps := ["self", "row", "places"]) fun _ _ _ _ _ _ us hl => match us, hl with | [_, _, _], _ => rfl
  have F_Steps_crossing := fun_mk (st := s_Steps_crossing) l_Steps_crossing c_Steps_crossing k_Steps_crossing
  have b_Steps_crossing := F_Steps_crossing.binds (ps := ["self", "bit"]) fun _ _ _ _ _ _ us hl => match us, hl with | [_, _], _ => rfl
  have F_Steps___init__ := fun_mk (st := s_Steps___init__) l_Steps___init__ c_Steps___init__ k_Steps___init__
  have b_Steps___init__ := F_Steps___init__.binds (ps := ["self", "rows"]) fun _ _ _ _ _ _ us hl => match us, hl with | [_, _], _ => rfl
  have F_sum_for := fun_mk (st := s_sum_for) l_sum_for c_sum_for k_sum_for
  have b_sum_for := F_sum_for.binds (ps := ["rows", "wish"]) fun _ _ _ _ _ _ us hl => match us, hl with | [_, _], _ => rfl
  have F_need_row := fun_mk (st := s_need_row) l_need_row c_need_row k_need_row
  have b_need_row := F_need_row.binds (ps := ["row"]) fun _ _ _ _ _ _ us hl => match us, hl with | [_], _ => rfl
  have F_part := fun_mk (st := s_part) l_part c_part k_part
  have b_part := F_part.binds (ps := ["row", "begin", "many"]) fun _ _ _ _ _ _ us hl => match us, hl with | [_, _, _], _ => rfl
  have F_told_by := fun_mk (st := s_told_by) l_told_by c_told_by k_told_by
  have b_told_by := F_told_by.binds (ps := ["row", "many"]) fun _ _ _ _ _ _ us hl => match us, hl with | [_, _], _ => rfl
  have F_heard := fun_mk (st := s_heard) l_heard c_heard k_heard
  have b_heard := F_heard.binds (ps := ["row"]) fun _ _ _ _ _ _ us hl => match us, hl with | [_], _ => rfl
  have F_cell := fun_mk (st := s_cell) l_cell c_cell k_cell
  have b_cell := F_cell.binds (ps := ["_law_script", "_law_k"]) fun _ _ _ _ _ _ us hl => match us, hl with | [_, _], _ => rfl
  have F_mix := fun_mk (st := s_mix) l_mix c_mix k_mix
  have b_mix := F_mix.binds (ps := ["_law_cell_here", "_law_k"]) fun _ _ _ _ _ _ us hl => match us, hl with | [_, _], _ => rfl
  have F_odd := fun_mk (st := s_odd) l_odd c_odd k_odd
  have b_odd := F_odd.binds (ps := ["_law_mask"]) fun _ _ _ _ _ _ us hl => match us, hl with | [_], _ => rfl
  have F_turn := fun_mk (st := s_turn) l_turn c_turn k_turn
  have b_turn := F_turn.binds (ps := ["_law_nexts", "_law_state"]) fun _ _ _ _ _ _ us hl => match us, hl with | [_, _], _ => rfl
  have F_drawn := fun_mk (st := s_drawn) l_drawn c_drawn k_drawn
  have b_drawn := F_drawn.binds (ps := ["_law_cell_here"]) fun _ _ _ _ _ _ us hl => match us, hl with | [_], _ => rfl
  have F_answers := fun_mk (st := s_answers) l_answers c_answers k_answers
  have b_answers := F_answers.binds (ps := ["_law_other", "_law_state", "_law_many"]) fun _ _ _ _ _ _ us hl => match us, hl with | [_, _, _], _ => rfl
  have F_bars := fun_mk (st := s_bars) l_bars c_bars k_bars
  have b_bars := F_bars.binds (ps := ["_law_row", "_law_places", "_law_many"]) fun _ _ _ _ _ _ us hl => match us, hl with | [_, _, _], _ => rfl
  have F_right := fun_mk (st := s_right) l_right c_right k_right
  have b_right := F_right.binds (ps := ["_law_row"]) fun _ _ _ _ _ _ us hl => match us, hl with | [_], _ => rfl
  have F_refused := fun_mk (st := s_refused) l_refused c_refused k_refused
  have b_refused := F_refused.binds (ps := ["_law_row", "_law_cell_here"]) fun _ _ _ _ _ _ us hl => match us, hl with | [_, _], _ => rfl
  have F_law := fun_mk (st := s_law) l_law c_law k_law
  refine ⟨PySem.W.fnOf "law" "law" (defArgs s_law) (defBody s_law) (defScope s_law) .none kV_law dc_law pm_law an_law cd_law ct_law, sp_law K ⟨C_Steps, C_Machine, C_BadMask, C_BadRow⟩, fun s v => .of_eq rfl, fun H a ns hl  hS => ⟨H, .ref a, ns, fun b => b = true, rfl, Ex.rfl', ⟨a, rfl, hS⟩, w_law hl  rfl, fun z hz _ _ _ => by subst hz; rfl⟩, fun base _ _ => ?_⟩
  have T : Tz K mg ⟨C_Steps, C_Machine, C_BadMask, C_BadRow⟩ := ⟨⟨pg_Steps, hd_Steps, po_Steps, sa_Steps⟩, na_Steps_kept, na_Steps_found, na_Steps_gone, ⟨pg_Machine, hd_Machine, po_Machine, sa_Machine⟩, na_Machine_inputs, na_Machine_nexts, na_Machine_outs, ⟨xX_BadMask, PySem.W.mg_of X G aC_BadMask, kX_BadMask, bX_BadMask, tX_BadMask⟩, ⟨xX_BadRow, PySem.W.mg_of X G aC_BadRow, kX_BadRow, bX_BadRow, tX_BadRow⟩, ⟨_, PySem.W.mg_of X G u_MOST_HEARD, _, rfl⟩, ⟨_, PySem.W.mg_of X G u_MOST_INPUTS, _, rfl⟩, ⟨_, PySem.W.mg_of X G u_MOST_OUTS, _, rfl⟩, ⟨_, PySem.W.mg_of X G u_MOST_STORES, _, rfl⟩, ⟨ea_Machine, eN, eT, em_Machine, PySem.W.mg_of X G aC_Machine⟩, exm_of bX_BadRow iX_BadRow tX_BadRow sX_BadRow_BadRow⟩
  have C_is_whole := ok_is_whole (P := l.prog) (w0 := w) (base := base) T F_is_whole (PySem.W.mg_of X G a_is_whole) b_is_whole (PySem.W.mg_none_of X G z_bool) (PySem.W.mg_none_of X G z_int) (PySem.W.mg_none_of X G z_isinstance)
  have C_is_mask := ok_is_mask (P := l.prog) (w0 := w) (base := base) T F_is_mask (PySem.W.mg_of X G a_is_mask) b_is_mask C_is_whole
  have C_even := ok_even (P := l.prog) (w0 := w) (base := base) T F_even (PySem.W.mg_of X G a_even) b_even
  have C_bits_of := ok_bits_of (P := l.prog) (w0 := w) (base := base) T F_bits_of (PySem.W.mg_of X G a_bits_of) b_bits_of
  have C_mask_of := ok_mask_of (P := l.prog) (w0 := w) (base := base) T F_mask_of (PySem.W.mg_of X G a_mask_of) b_mask_of
  have C_is_pairs := ok_is_pairs (P := l.prog) (w0 := w) (base := base) T F_is_pairs (PySem.W.mg_of X G a_is_pairs) b_is_pairs C_is_mask (PySem.W.mg_none_of X G z_isinstance) (PySem.W.mg_none_of X G z_len) (PySem.W.mg_none_of X G z_list) (PySem.W.mg_none_of X G z_tuple)
  have C_bit_of := ok_bit_of (P := l.prog) (w0 := w) (base := base) T F_bit_of (PySem.W.mg_of X G a_bit_of) b_bit_of C_even (PySem.W.mg_none_of X G z_int)
  have C_bits_by := ok_bits_by (P := l.prog) (w0 := w) (base := base) T F_bits_by (PySem.W.mg_of X G a_bits_by) b_bits_by C_bit_of (PySem.W.mg_none_of X G z_enumerate)
  have C_Machine___init__ := ok_Machine___init__ (P := l.prog) (w0 := w) (base := base) T F_Machine___init__ ⟨mk_Machine, a_Machine___init__, i_Machine___init__, kc_Machine⟩ (PySem.W.mg_of X G aC_Machine) b_Machine___init__ C_is_whole C_is_pairs (PySem.W.mg_none_of X G z_isinstance) (PySem.W.mg_none_of X G z_len) (PySem.W.mg_none_of X G z_list) (PySem.W.mg_none_of X G z_tuple)
  have C_Machine_stores := ok_Machine_stores (P := l.prog) (w0 := w) (base := base) T F_Machine_stores ⟨a_Machine_stores, i_Machine_stores, k_Machine_stores⟩ b_Machine_stores (PySem.W.mg_none_of X G z_len)
  have C_Machine_outputs := ok_Machine_outputs (P := l.prog) (w0 := w) (base := base) T F_Machine_outputs ⟨a_Machine_outputs, i_Machine_outputs, k_Machine_outputs⟩ b_Machine_outputs (PySem.W.mg_none_of X G z_len)
  have C_Machine_told := ok_Machine_told (P := l.prog) (w0 := w) (base := base) T F_Machine_told ⟨a_Machine_told, i_Machine_told, k_Machine_told⟩ b_Machine_told (PySem.W.mg_none_of X G z_list)
  have C_Machine_need := ok_Machine_need (P := l.prog) (w0 := w) (base := base) T F_Machine_need ⟨a_Machine_need, i_Machine_need, k_Machine_need⟩ b_Machine_need C_is_mask
  have C_Machine_step := ok_Machine_step (P := l.prog) (w0 := w) (base := base) T F_Machine_step ⟨a_Machine_step, i_Machine_step, k_Machine_step⟩ b_Machine_step C_Machine_stores C_Machine_need C_bits_by
  have C_Machine_walk := ok_Machine_walk (P := l.prog) (w0 := w) (base := base) T F_Machine_walk ⟨a_Machine_walk, i_Machine_walk, k_Machine_walk⟩ b_Machine_walk C_Machine_stores C_Machine_need C_Machine_step
  have C_Machine_run := ok_Machine_run (P := l.prog) (w0 := w) (base := base) T F_Machine_run ⟨a_Machine_run, i_Machine_run, k_Machine_run⟩ b_Machine_run B_Machine_run C_Machine_walk
  have C_Steps_lowered := ok_Steps_lowered (P := l.prog) (w0 := w) (base := base) T F_Steps_lowered ⟨a_Steps_lowered, i_Steps_lowered, k_Steps_lowered⟩ b_Steps_lowered
  have C_Steps_crossing := ok_Steps_crossing (P := l.prog) (w0 := w) (base := base) T F_Steps_crossing ⟨a_Steps_crossing, i_Steps_crossing, k_Steps_crossing⟩ b_Steps_crossing C_even (PySem.W.mg_none_of X G z_sorted)
  have C_Steps___init__ := ok_Steps___init__ (P := l.prog) (w0 := w) (base := base) T F_Steps___init__ ⟨mk_Steps, a_Steps___init__, i_Steps___init__, kc_Steps⟩ (PySem.W.mg_of X G aC_Steps) b_Steps___init__ C_Steps_lowered (PySem.W.mg_none_of X G z_enumerate)
  have C_sum_for := ok_sum_for (P := l.prog) (w0 := w) (base := base) T F_sum_for (PySem.W.mg_of X G a_sum_for) b_sum_for C_Steps___init__ C_Steps_lowered C_bits_of C_Steps_crossing
  have C_need_row := ok_need_row (P := l.prog) (w0 := w) (base := base) T F_need_row (PySem.W.mg_of X G a_need_row) b_need_row C_is_mask (PySem.W.mg_none_of X G z_isinstance) (PySem.W.mg_none_of X G z_len) (PySem.W.mg_none_of X G z_list)
  have C_part := ok_part (P := l.prog) (w0 := w) (base := base) T F_part (PySem.W.mg_of X G a_part) b_part C_mask_of (PySem.W.mg_none_of X G z_range)
  have C_told_by := ok_told_by (P := l.prog) (w0 := w) (base := base) T F_told_by (PySem.W.mg_of X G a_told_by) b_told_by C_part C_sum_for (PySem.W.mg_none_of X G z_len) (PySem.W.mg_none_of X G z_range)
  have C_heard := ok_heard (P := l.prog) (w0 := w) (base := base) T F_heard (PySem.W.mg_of X G a_heard) b_heard C_need_row C_told_by C_bits_of C_mask_of C_Machine___init__ C_part (PySem.W.mg_none_of X G z_range)
  have C_cell := ok_cell (P := l.prog) (w0 := w) (base := base) T F_cell (PySem.W.mg_of X G a_cell) b_cell (PySem.W.mg_none_of X G z_len)
  have C_mix := ok_mix (P := l.prog) (w0 := w) (base := base) T F_mix (PySem.W.mg_of X G a_mix) b_mix
  have C_odd := ok_odd (P := l.prog) (w0 := w) (base := base) T F_odd (PySem.W.mg_of X G a_odd) b_odd
  have C_turn := ok_turn (P := l.prog) (w0 := w) (base := base) T F_turn (PySem.W.mg_of X G a_turn) b_turn C_odd (PySem.W.mg_none_of X G z_enumerate) (PySem.W.mg_none_of X G z_int)
  have C_drawn := ok_drawn (P := l.prog) (w0 := w) (base := base) T F_drawn (PySem.W.mg_of X G a_drawn) b_drawn C_mix (PySem.W.mg_none_of X G z_len) (PySem.W.mg_none_of X G z_range) (PySem.W.mg_none_of X G z_sum)
  have C_answers := ok_answers (P := l.prog) (w0 := w) (base := base) T F_answers (PySem.W.mg_of X G a_answers) b_answers C_odd C_turn (PySem.W.mg_none_of X G z_int) (PySem.W.mg_none_of X G z_range)
  have C_bars := ok_bars (P := l.prog) (w0 := w) (base := base) T F_bars (PySem.W.mg_of X G a_bars) b_bars (PySem.W.mg_none_of X G z_bool) (PySem.W.mg_none_of X G z_int) (PySem.W.mg_none_of X G z_isinstance) (PySem.W.mg_none_of X G z_len) (PySem.W.mg_none_of X G z_range) (PySem.W.mg_none_of X G z_sum)
  have C_right := ok_right (P := l.prog) (w0 := w) (base := base) T F_right (PySem.W.mg_of X G a_right) b_right C_heard C_Machine_stores C_Machine_outputs C_Machine_told C_answers C_bars C_Machine_run (PySem.W.mg_none_of X G z_bool) (PySem.W.mg_none_of X G z_int) (PySem.W.mg_none_of X G z_isinstance) (PySem.W.mg_none_of X G z_len) (PySem.W.mg_none_of X G z_list) (PySem.W.mg_none_of X G z_tuple)
  have C_refused := ok_refused (P := l.prog) (w0 := w) (base := base) T F_refused (PySem.W.mg_of X G a_refused) b_refused C_mix C_heard (PySem.W.mg_none_of X G z_len) (PySem.W.mg_none_of X G z_tuple)
  exact ok_law T F_law C_drawn C_right C_refused C_cell C_mix
theorem walk {l : PySem.W.OpenLaw} {q : Program} {loose : List Str} {XP : (Str → Option Value) → Heap → Prop} {YP : World → Heap → Prop} {d : DefRec} {K : Params → PySem.W.Frag} (hn : l.most = some 63) (hdf : d.params.defaults = [])
    (hY : ∀ (w : World) (h : Heap), YP w h → (K w.params).In h)
    (F : ∀ (w : World) (mg : Str → Option Value) (fa : Addr) (h : Heap), (K w.params).In h → h.Ns mainGlobals mg → mg d.name = some (.ref fa) → ∃ (fd : FuncData) (sp : Sp), (∀ (s : Shared) (u : Value), BindsTo s fd ⟨[u], []⟩ [("_law_script", u)]) ∧ (∀ (H : Hp) (a : Addr) (ns : List Int), ns.length ≤ 63 → SqL (K w.params) H a (ns.map V.int) → sp [.ref a] H (fun v _ => v = .bl true) fun _ _ _ => False) ∧ ∀ base : Heap, (K w.params).In base → base.Ns mainGlobals mg → FnOk l.prog w (K w.params) mg base CX0 8 fa fd ["_law_script"] sp) :
    PySem.W.WalkO q loose XP YP l.row.toRowW d [] (fun f vs => PySem.call f vs) := by
  refine Att.attach_call hn hdf fun w s₀ s₁ mg mb fa o pm cd doc a vs ns G Y ho hd hcd hmg hobj hints hlen hg => ?_
  have KX := hY w _ Y
  obtain ⟨fd, sp, hb, hsp, hF⟩ := F w mg fa _ KX G.T.g hmg
  exact law_call (k := 8) (x := "_law_script") (CX := CX0) KX G.T.g G.T.b G.T.builtins G.T.nolimit hg hobj hints (Nat.le_trans hlen (by decide)) ⟨rfl, by decide, by decide⟩ hF hb (fun H hO hS => hsp H a ns hlen hS) fun H e s' z => z
end My
open PySem PySem.W PyProof.Rows
set_option maxRecDepth 100000 in
set_option maxHeartbeats 0 in
theorem PySem.Challenge.cw_sumwires_k76_heard_rows_and_what_bars_le_holds : PySem.Challenge.rw_sumwires_k76_heard_rows_and_what_bars_le.Holds := by
  w_on; o_law; k_head; (case hw => w_witness2)
  k_fill
  refine My.walk (l := PySem.Challenge.rw_sumwires_k76_heard_rows_and_what_bars_le) rfl rfl (fun w h Y => PySem.W.kIn_of Y) ?F
  case F =>
    intro w mg fa h KX G hmg
    refine' My.all_mk KX G hmg ?aC_Steps ?pg_Steps ?hd_Steps ?po_Steps ?sa_Steps ?mk_Steps ?kc_Steps ?na_Steps_kept ?na_Steps_found ?na_Steps_gone ?aC_Machine ?pg_Machine ?hd_Machine ?po_Machine ?sa_Machine ?mk_Machine ?kc_Machine ?na_Machine_inputs ?na_Machine_nexts ?na_Machine_outs ?aC_BadMask ?xX_BadMask ?kX_BadMask ?bX_BadMask ?tX_BadMask ?iX_BadMask ?aC_BadRow ?xX_BadRow ?kX_BadRow ?bX_BadRow ?tX_BadRow ?iX_BadRow ?u_MOST_HEARD ?u_MOST_INPUTS ?u_MOST_OUTS ?u_MOST_STORES ?ea_Machine ?em_Machine ?eN ?eT ?sX_BadRow_BadRow ?a_is_whole ?l_is_whole ?c_is_whole ?k_is_whole ?a_is_mask ?l_is_mask ?c_is_mask ?k_is_mask ?a_even ?l_even ?c_even ?k_even ?a_bits_of ?l_bits_of ?c_bits_of ?k_bits_of ?a_mask_of ?l_mask_of ?c_mask_of ?k_mask_of ?a_is_pairs ?l_is_pairs ?c_is_pairs ?k_is_pairs ?a_bit_of ?l_bit_of ?c_bit_of ?k_bit_of ?a_bits_by ?l_bits_by ?c_bits_by ?k_bits_by ?a_Machine___init__ ?i_Machine___init__ ?l_Machine___init__ ?c_Machine___init__ ?k_Machine___init__ ?a_Machine_stores ?i_Machine_stores ?l_Machine_stores ?c_Machine_stores ?k_Machine_stores ?a_Machine_outputs ?i_Machine_outputs ?l_Machine_outputs ?c_Machine_outputs ?k_Machine_outputs ?a_Machine_told ?i_Machine_told ?l_Machine_told ?c_Machine_told ?k_Machine_told ?a_Machine_need ?i_Machine_need ?l_Machine_need ?c_Machine_need ?k_Machine_need ?a_Machine_step ?i_Machine_step ?l_Machine_step ?c_Machine_step ?k_Machine_step ?a_Machine_walk ?i_Machine_walk ?l_Machine_walk ?c_Machine_walk ?k_Machine_walk ?a_Machine_run ?i_Machine_run ?l_Machine_run ?d_Machine_run ?c_Machine_run ?k_Machine_run ?a_Steps_lowered ?i_Steps_lowered ?l_Steps_lowered ?c_Steps_lowered ?k_Steps_lowered ?a_Steps_crossing ?i_Steps_crossing ?l_Steps_crossing ?c_Steps_crossing ?k_Steps_crossing ?a_Steps___init__ ?i_Steps___init__ ?l_Steps___init__ ?c_Steps___init__ ?k_Steps___init__ ?a_sum_for ?l_sum_for ?c_sum_for ?k_sum_for ?a_need_row ?l_need_row ?c_need_row ?k_need_row ?a_part ?l_part ?c_part ?k_part ?a_told_by ?l_told_by ?c_told_by ?k_told_by ?a_heard ?l_heard ?c_heard ?k_heard ?a_cell ?l_cell ?c_cell ?k_cell ?a_mix ?l_mix ?c_mix ?k_mix ?a_odd ?l_odd ?c_odd ?k_odd ?a_turn ?l_turn ?c_turn ?k_turn ?a_drawn ?l_drawn ?c_drawn ?k_drawn ?a_answers ?l_answers ?c_answers ?k_answers ?a_bars ?l_bars ?c_bars ?k_bars ?a_right ?l_right ?c_right ?k_right ?a_refused ?l_refused ?c_refused ?k_refused ?a_law ?l_law ?c_law ?k_law ?z_bool ?z_enumerate ?z_int ?z_isinstance ?z_len ?z_list ?z_range ?z_sorted ?z_sum ?z_tuple
    (case aC_Steps => k_is); (case pg_Steps => k_is); (case hd_Steps => k_is); (case po_Steps => k_is)
    (case sa_Steps => k_is); (case mk_Steps => k_is); (case kc_Steps => k_is); (case na_Steps_kept => k_is)
    (case na_Steps_found => k_is); (case na_Steps_gone => k_is); (case aC_Machine => k_is); (case pg_Machine => k_is)
    (case hd_Machine => k_is); (case po_Machine => k_is); (case sa_Machine => k_is); (case mk_Machine => k_is)
    (case kc_Machine => k_is); (case na_Machine_inputs => k_is); (case na_Machine_nexts => k_is); (case na_Machine_outs => k_is)
    (case aC_BadMask => k_is); (case xX_BadMask => k_exc); (case kX_BadMask => k_is); (case bX_BadMask => k_is)
    (case tX_BadMask => k_is); (case iX_BadMask => k_is); (case aC_BadRow => k_is); (case xX_BadRow => k_exc)
    (case kX_BadRow => k_is); (case bX_BadRow => k_is); (case tX_BadRow => k_is); (case iX_BadRow => k_is)
    (case u_MOST_HEARD => k_is); (case u_MOST_INPUTS => k_is); (case u_MOST_OUTS => k_is); (case u_MOST_STORES => k_is)
    (case ea_Machine => k_is); (case em_Machine => k_is); (case eN => k_is); (case eT => k_is)
    (case sX_BadRow_BadRow => first | rfl | k_is); (case a_is_whole => k_is); (case l_is_whole => k_is); (case c_is_whole => k_is)
    (case k_is_whole => k_is); (case a_is_mask => k_is); (case l_is_mask => k_is); (case c_is_mask => k_is)
    (case k_is_mask => k_is); (case a_even => k_is); (case l_even => k_is); (case c_even => k_is)
    (case k_even => k_is); (case a_bits_of => k_is); (case l_bits_of => k_is); (case c_bits_of => k_is)
    (case k_bits_of => k_is); (case a_mask_of => k_is); (case l_mask_of => k_is); (case c_mask_of => k_is)
    (case k_mask_of => k_is); (case a_is_pairs => k_is); (case l_is_pairs => k_is); (case c_is_pairs => k_is)
    (case k_is_pairs => k_is); (case a_bit_of => k_is); (case l_bit_of => k_is); (case c_bit_of => k_is)
    (case k_bit_of => k_is); (case a_bits_by => k_is); (case l_bits_by => k_is); (case c_bits_by => k_is)
    (case k_bits_by => k_is); (case a_Machine___init__ => k_is); (case i_Machine___init__ => k_is); (case l_Machine___init__ => k_is)
    (case c_Machine___init__ => k_is); (case k_Machine___init__ => k_is); (case a_Machine_stores => k_is); (case i_Machine_stores => k_is)
    (case l_Machine_stores => k_is); (case c_Machine_stores => k_is); (case k_Machine_stores => k_is); (case a_Machine_outputs => k_is)
    (case i_Machine_outputs => k_is); (case l_Machine_outputs => k_is); (case c_Machine_outputs => k_is); (case k_Machine_outputs => k_is)
    (case a_Machine_told => k_is); (case i_Machine_told => k_is); (case l_Machine_told => k_is); (case c_Machine_told => k_is)
    (case k_Machine_told => k_is); (case a_Machine_need => k_is); (case i_Machine_need => k_is); (case l_Machine_need => k_is)
    (case c_Machine_need => k_is); (case k_Machine_need => k_is); (case a_Machine_step => k_is); (case i_Machine_step => k_is)
    (case l_Machine_step => k_is); (case c_Machine_step => k_is); (case k_Machine_step => k_is); (case a_Machine_walk => k_is)
    (case i_Machine_walk => k_is); (case l_Machine_walk => k_is); (case c_Machine_walk => k_is); (case k_Machine_walk => k_is)
    (case a_Machine_run => k_is); (case i_Machine_run => k_is); (case l_Machine_run => k_is); (case d_Machine_run => k_is)
    (case c_Machine_run => k_is); (case k_Machine_run => k_is); (case a_Steps_lowered => k_is); (case i_Steps_lowered => k_is)
    (case l_Steps_lowered => k_is); (case c_Steps_lowered => k_is); (case k_Steps_lowered => k_is); (case a_Steps_crossing => k_is)
    (case i_Steps_crossing => k_is); (case l_Steps_crossing => k_is); (case c_Steps_crossing => k_is); (case k_Steps_crossing => k_is)
    (case a_Steps___init__ => k_is); (case i_Steps___init__ => k_is); (case l_Steps___init__ => k_is); (case c_Steps___init__ => k_is)
    (case k_Steps___init__ => k_is); (case a_sum_for => k_is); (case l_sum_for => k_is); (case c_sum_for => k_is)
    (case k_sum_for => k_is); (case a_need_row => k_is); (case l_need_row => k_is); (case c_need_row => k_is)
    (case k_need_row => k_is); (case a_part => k_is); (case l_part => k_is); (case c_part => k_is)
    (case k_part => k_is); (case a_told_by => k_is); (case l_told_by => k_is); (case c_told_by => k_is)
    (case k_told_by => k_is); (case a_heard => k_is); (case l_heard => k_is); (case c_heard => k_is)
    (case k_heard => k_is); (case a_cell => k_is); (case l_cell => k_is); (case c_cell => k_is)
    (case k_cell => k_is); (case a_mix => k_is); (case l_mix => k_is); (case c_mix => k_is)
    (case k_mix => k_is); (case a_odd => k_is); (case l_odd => k_is); (case c_odd => k_is)
    (case k_odd => k_is); (case a_turn => k_is); (case l_turn => k_is); (case c_turn => k_is)
    (case k_turn => k_is); (case a_drawn => k_is); (case l_drawn => k_is); (case c_drawn => k_is)
    (case k_drawn => k_is); (case a_answers => k_is); (case l_answers => k_is); (case c_answers => k_is)
    (case k_answers => k_is); (case a_bars => k_is); (case l_bars => k_is); (case c_bars => k_is)
    (case k_bars => k_is); (case a_right => k_is); (case l_right => k_is); (case c_right => k_is)
    (case k_right => k_is); (case a_refused => k_is); (case l_refused => k_is); (case c_refused => k_is)
    (case k_refused => k_is); (case a_law => k_is); (case l_law => k_is); (case c_law => k_is)
    (case k_law => k_is); (case z_bool => k_is); (case z_enumerate => k_is); (case z_int => k_is)
    (case z_isinstance => k_is); (case z_len => k_is); (case z_list => k_is); (case z_range => k_is)
    (case z_sorted => k_is); (case z_sum => k_is); (case z_tuple => k_is)
