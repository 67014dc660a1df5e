import PyProof.Rows.All
import Wide.All
import OpenK.AllK
import Wide.FinOn
import HandS.ForMost
import HandS.Wide
import HandS.WideBits
import HandS.IsInst
import HandS.Steps
import HandS.Exc
import HandS.ExcOwn
import HandS.TryOnly
import HandS.WordsExc
import HandS.EndBits
import HandS.Rev
import HandS.RevTup
import HandS.Walk
import HandS.Zip
import HandS.SortInts
import HandS.More
import HandS.SetFor
import KE.GoesMore
import KE.KDictZip
import HandS.Iter
import HandS.Keys
import HandS.Defaults
import HandS.ExcIs
import HandS.Text
import PyProof.EqKinds
import PyProof.NeKinds
import KE.KEqDict
import HandS.Style
import PySem.Challenge.RW_sumwires_k83_whole_what_is_missed
set_option Elab.async false
set_option linter.all false
set_option maxRecDepth 100000
set_option maxHeartbeats 4000000
set_option exponentiation.threshold 4000
/-! Wk: a typed layer over the hand layer. A state is a pair (F, H): H the tracked heap, F that part of it which nobody changes any more. -/
namespace Wk
open PySem L2

abbrev Ex (H H' : Hp) : Prop := ∀ a o, H a = some o → H' a = some o
theorem Ex.rfl' {H : Hp} : Ex H H := fun _ _ h => h
theorem Ex.tr {H H1 H2 : Hp} (a : Ex H H1) (b : Ex H1 H2) : Ex H H2 := fun x o h => b x o (a x o h)
theorem Ex.new {H : Hp} {p : Addr} {o : HO} (h : H p = none) : Ex H (upd H p o) := fun a u e => by
  rw [upd_ne (ne_of_none e h)]; exact e
theorem Ex.non {H H' : Hp} (e : Ex H H') {p : Addr} (h : H' p = none) : H p = none := by
  cases q : H p with
  | none => rfl
  | some o => rw [e p o q] at h; cases h

/-- from (F0, H0) to (F, H): all is kept, and F has grown by nothing but what is new to H0 -/
structure Wf (F0 H0 F H : Hp) : Prop where
  h : Ex H0 H
  f : Ex F H
  g : Ex F0 F
  n : ∀ a o, F a = some o → F0 a = none → H0 a = none
theorem Wf.id {F H : Hp} (e : Ex F H) : Wf F H F H := ⟨Ex.rfl', e, Ex.rfl', fun a o h h' => by rw [h] at h'; cases h'⟩
theorem Wf.tr {F0 H0 F H F' H' : Hp} (a : Wf F0 H0 F H) (b : Wf F H F' H') : Wf F0 H0 F' H' := ⟨a.h.tr b.h, b.f, a.g.tr b.g, fun x o h h0 => by
  cases q : F x with
  | none => exact a.h.non (b.n x o h q)
  | some u => exact a.n x u q h0⟩
/-- a new object that stays as it is -/
theorem Wf.new {F H : Hp} {p : Addr} {o : HO} (e : Ex F H) (hp : H p = none) : Wf F H (upd F p o) (upd H p o) := ⟨Ex.new hp, fun a u h => by
    by_cases q : a = p
    · subst q; rw [upd_same] at h ⊢; exact h
    · rw [upd_ne q] at h ⊢; exact e a u h, Ex.new (e.non hp), fun a u h h0 => by
    by_cases q : a = p
    · subst q; exact hp
    · rw [upd_ne q, h0] at h; cases h⟩
/-- a new object that is still changed -/
theorem Wf.newX {F H : Hp} {p : Addr} {o : HO} (e : Ex F H) (hp : H p = none) : Wf F H F (upd H p o) := ⟨Ex.new hp, e.tr (Ex.new hp), Ex.rfl', fun a u h h0 => by rw [h] at h0; cases h0⟩
/-- the heap alone has grown -/
theorem Wf.grow {F H H' : Hp} (e : Ex F H) (h : Ex H H') : Wf F H F H' := ⟨h, e.tr h, Ex.rfl', fun a u h h0 => by rw [h] at h0; cases h0⟩

/-- F' has grown by nothing but p -/
abbrev Fz (F F' : Hp) (p : Addr) : Prop := ∀ q, q ≠ p → F q = none → F' q = none
/-- one's own object, not yet in F -/
structure Xc (H0 F H : Hp) (p : Addr) (o : HO) : Prop where
  z : H0 p = none
  n : F p = none
  h : H p = some o
section
variable {F0 H0 F H F' H' : Hp} {p q : Addr} {o u : HO}
theorem Xc.mk' (w : Wf F0 H0 F H) (hp : H p = none) : Xc H0 F (upd H p o) p o := ⟨w.h.non hp, w.f.non hp, upd_same⟩
theorem Xc.step (x : Xc H0 F H p o) (w : Wf F H F' H') : Xc H0 F' H' p o := ⟨x.z, (by
  cases q : F' p with
  | none => rfl
  | some u => have := w.n p u q x.n; rw [x.h] at this; cases this), w.h _ _ x.h⟩
theorem Xc.other (x : Xc H0 F H p o) (h : p ≠ q) : Xc H0 F (upd H q u) p o := ⟨x.z, x.n, by rw [upd_ne h]; exact x.h⟩
theorem Xc.set (x : Xc H0 F H p o) : Xc H0 F (upd H p u) p u := ⟨x.z, x.n, upd_same⟩
theorem Wf.set (w : Wf F0 H0 F H) (x : Xc H0 F H p o) : Wf F0 H0 F (upd H p u) := ⟨fun a v e => by
    rw [upd_ne (ne_of_none e x.z)]; exact w.h a v e, fun a v e => by rw [upd_ne (ne_of_none e x.n)]; exact w.f a v e, w.g, w.n⟩
/-- it is changed no more -/
theorem Wf.freeze (w : Wf F0 H0 F H) (x : Xc H0 F H p o) : Wf F0 H0 (upd F p o) H := ⟨w.h, fun a v e => by
    by_cases q : a = p
    · subst q; rw [upd_same] at e; rw [← e]; exact x.h
    · rw [upd_ne q] at e; exact w.f a v e, w.g.tr (Ex.new x.n), fun a v e e0 => by
    by_cases q : a = p
    · subst q; exact x.z
    · rw [upd_ne q] at e; exact w.n a v e e0⟩
theorem Xc.frz (x : Xc H0 F H p o) (y : Xc H0 F H q u) (h : p ≠ q) : Xc H0 (upd F q u) H p o := ⟨x.z, by rw [upd_ne h]; exact x.n, x.h⟩
theorem Xc.ne (x : Xc H0 F H p o) (h : H q = none) : p ≠ q := ne_of_none x.h h
end

/-! ### what represents what -/
structure Rep (α : Type) where
  r : Hp → V → α → Prop
  mono : ∀ {F F' : Hp} {v : V} {x : α}, Ex F F' → r F v x → r F' v x
def pI : Rep Int := ⟨fun _ v x => v = .int x, fun _ h => h⟩
def pN : Rep Nat := ⟨fun _ v x => v = .int (x : Int), fun _ h => h⟩
def pB : Rep Bool := ⟨fun _ v x => v = .bl x, fun _ h => h⟩
def pS : Rep Str := ⟨fun _ v x => v = .str x, fun _ h => h⟩
def pU : Rep Unit := ⟨fun _ v _ => v = .non, fun _ h => h⟩
def All {α : Type} (e : Rep α) (F : Hp) : List V → List α → Prop
  | [], [] => True
  | v :: vs, x :: xs => e.r F v x ∧ All e F vs xs
  | _, _ => False
section
variable {α β γ : Type} {e : Rep α} {F F' : Hp} {vs ws : List V} {xs ys : List α} {v : V} {x : α}
theorem All.mono (h : Ex F F') : ∀ {vs : List V} {xs : List α}, All e F vs xs → All e F' vs xs
  | [], [], _ => trivial
  | _ :: _, _ :: _, ⟨a, b⟩ => ⟨e.mono h a, All.mono h b⟩
  | [], _ :: _, q => q.elim
  | _ :: _, [], q => q.elim
theorem All.len : ∀ {vs : List V} {xs : List α}, All e F vs xs → vs.length = xs.length
  | [], [], _ => rfl
  | _ :: _, _ :: _, ⟨_, b⟩ => by rw [List.length_cons, List.length_cons, All.len b]
  | [], _ :: _, q => q.elim
  | _ :: _, [], q => q.elim
theorem All.get : ∀ {vs : List V} {xs : List α} {i : Nat} {x : α}, All e F vs xs → xs[i]? = some x → ∃ v, vs[i]? = some v ∧ e.r F v x
  | _ :: _, _ :: _, 0, _, ⟨a, _⟩, h => by simp at h; subst h; exact ⟨_, rfl, a⟩
  | _ :: _, _ :: _, i + 1, _, ⟨_, b⟩, h => by
    obtain ⟨v, h1, h2⟩ := All.get (i := i) b (by simpa using h)
    exact ⟨v, by simpa using h1, h2⟩
  | [], [], _, _, _, h => by simp at h
  | [], _ :: _, _, _, q, _ => q.elim
  | _ :: _, [], _, _, q, _ => q.elim
theorem All.got : ∀ {vs : List V} {xs : List α} {i : Nat} {v : V}, All e F vs xs → vs[i]? = some v → ∃ x, xs[i]? = some x ∧ e.r F v x
  | _ :: _, _ :: _, 0, _, ⟨a, _⟩, h => by simp at h; subst h; exact ⟨_, rfl, a⟩
  | _ :: _, _ :: _, i + 1, _, ⟨_, b⟩, h => by
    obtain ⟨v, h1, h2⟩ := All.got (i := i) b (by simpa using h)
    exact ⟨v, by simpa using h1, h2⟩
  | [], [], _, _, _, h => by simp at h
  | [], _ :: _, _, _, q, _ => q.elim
  | _ :: _, [], _, _, q, _ => q.elim
theorem All.app : ∀ {vs : List V} {xs : List α}, All e F vs xs → All e F ws ys → All e F (vs ++ ws) (xs ++ ys)
  | [], [], _, b => b
  | _ :: _, _ :: _, ⟨a, a'⟩, b => ⟨a, All.app a' b⟩
  | [], _ :: _, q, _ => q.elim
  | _ :: _, [], q, _ => q.elim
theorem All.snoc (a : All e F vs xs) (b : e.r F v x) : All e F (vs ++ [v]) (xs ++ [x]) := a.app ⟨b, trivial⟩
theorem All.set : ∀ {vs : List V} {xs : List α} (i : Nat), All e F vs xs → e.r F v x → All e F (vs.set i v) (xs.set i x)
  | [], [], _, _, _ => trivial
  | _ :: _, _ :: _, 0, ⟨_, b⟩, r => ⟨r, b⟩
  | _ :: _, _ :: _, i + 1, ⟨a, b⟩, r => ⟨a, All.set i b r⟩
  | [], _ :: _, _, q, _ => q.elim
  | _ :: _, [], _, q, _ => q.elim
theorem All.take : ∀ {vs : List V} {xs : List α} (i : Nat), All e F vs xs → All e F (vs.take i) (xs.take i)
  | [], [], i, _ => by simp [All]
  | _ :: _, _ :: _, 0, _ => trivial
  | _ :: _, _ :: _, i + 1, ⟨a, b⟩ => ⟨a, All.take i b⟩
  | [], _ :: _, _, q => q.elim
  | _ :: _, [], _, q => q.elim
theorem All.drop : ∀ {vs : List V} {xs : List α} (i : Nat), All e F vs xs → All e F (vs.drop i) (xs.drop i)
  | [], [], i, _ => by simp [All]
  | _ :: _, _ :: _, 0, h => h
  | _ :: _, _ :: _, i + 1, ⟨_, b⟩ => All.drop i b
  | [], _ :: _, _, q => q.elim
  | _ :: _, [], _, q => q.elim
theorem All.ints {vs : List V} : ∀ {xs : List Int}, All pI F vs xs → vs = xs.map V.int := by
  induction vs with
  | nil => intro xs h; cases xs with
    | nil => rfl
    | cons _ _ => exact h.elim
  | cons v vs ih => intro xs h; cases xs with
    | nil => exact h.elim
    | cons y ys => obtain ⟨a, b⟩ := h; rw [ih b, List.map_cons]; rw [show v = .int y from a]
theorem All.ofInts : ∀ {xs : List Int}, All pI F (xs.map V.int) xs
  | [] => trivial
  | _ :: _ => ⟨rfl, All.ofInts⟩
theorem All.nats {vs : List V} : ∀ {xs : List Nat}, All pN F vs xs → vs = (xs.map Int.ofNat).map V.int := by
  induction vs with
  | nil => intro xs h; cases xs with
    | nil => rfl
    | cons _ _ => exact h.elim
  | cons v vs ih => intro xs h; cases xs with
    | nil => exact h.elim
    | cons y ys => obtain ⟨a, b⟩ := h; rw [ih b, List.map_cons, List.map_cons]; rw [show v = .int (y : Int) from a]; rfl
end
/-- a list, a tuple of things of one kind, pairs, triples -/
def pL {α : Type} (e : Rep α) : Rep (List α) := ⟨fun F v xs => ∃ p vs, v = .ref p ∧ F p = some (.lst vs) ∧ All e F vs xs, fun h ⟨p, vs, a, b, c⟩ => ⟨p, vs, a, h _ _ b, c.mono h⟩⟩
def pTL {α : Type} (e : Rep α) : Rep (List α) := ⟨fun F v xs => ∃ p vs, v = .ref p ∧ F p = some (.tup vs) ∧ All e F vs xs, fun h ⟨p, vs, a, b, c⟩ => ⟨p, vs, a, h _ _ b, c.mono h⟩⟩
def pT2 {α β : Type} (e : Rep α) (f : Rep β) : Rep (α × β) := ⟨fun F v x => ∃ p u w, v = .ref p ∧ F p = some (.tup [u, w]) ∧ e.r F u x.1 ∧ f.r F w x.2, fun h ⟨p, u, w, a, b, c, d⟩ => ⟨p, u, w, a, h _ _ b, e.mono h c, f.mono h d⟩⟩
def pT3 {α β γ : Type} (e : Rep α) (f : Rep β) (g : Rep γ) : Rep (α × β × γ) := ⟨fun F v x => ∃ p u w y, v = .ref p ∧ F p = some (.tup [u, w, y]) ∧ e.r F u x.1 ∧ f.r F w x.2.1 ∧ g.r F y x.2.2, fun h ⟨p, u, w, y, a, b, c, d, k⟩ => ⟨p, u, w, y, a, h _ _ b, e.mono h c, f.mono h d, g.mono h k⟩⟩
def pO {α : Type} (e : Rep α) : Rep (Option α) := ⟨fun F v x => match x with | none => v = .non | some y => e.r F v y, fun {_ _ _ x} h q => by cases x with | none => exact q | some y => exact e.mono h q⟩
/-- the script: read only -/
def pScr (K : PySem.W.Frag) : Rep (List Int) := ⟨fun F v xs => ∃ a, v = .ref a ∧ SqL K F a (xs.map V.int), fun h ⟨a, e, q⟩ => ⟨a, e, by
  rcases q with (q | ⟨o, q⟩) | q
  · exact .inl (.inl (h _ _ q))
  · exact .inl (.inr ⟨o, h _ _ q⟩)
  · exact .inr q⟩⟩
/-- one's own list -/
structure XL {α : Type} (e : Rep α) (H0 F H : Hp) (p : Addr) (xs : List α) : Prop where
  x : ∃ vs, Xc H0 F H p (.lst vs) ∧ All e F vs xs
section
variable {α : Type} {e : Rep α} {F0 H0 F H F' H' : Hp} {p q : Addr} {o : HO} {xs : List α} {y : α} {v : V}
theorem XL.step (x : XL e H0 F H p xs) (w : Wf F H F' H') : XL e H0 F' H' p xs := let ⟨vs, a, b⟩ := x.x; ⟨vs, a.step w, b.mono w.g⟩
theorem XL.other {u : HO} (x : XL e H0 F H p xs) (h : p ≠ q) : XL e H0 F (upd H q u) p xs := let ⟨vs, a, b⟩ := x.x; ⟨vs, a.other h, b⟩
theorem XL.ne (x : XL e H0 F H p xs) (h : H q = none) : p ≠ q := let ⟨_, a, _⟩ := x.x; a.ne h
theorem XL.nil (w : Wf F0 H0 F H) (hp : H p = none) : XL e H0 F (upd H p (.lst [])) p [] := ⟨[], Xc.mk' w hp, trivial⟩
theorem XL.frz {u : HO} {β : Type} {e' : Rep β} {ys : List β} (x : XL e H0 F H p xs) (z : Xc H0 F H q u) (h : p ≠ q) : XL e H0 (upd F q u) H p xs := let ⟨vs, a, b⟩ := x.x; ⟨vs, a.frz z h, b.mono (Ex.new z.n)⟩
theorem XL.zero (x : XL e H0 F H p xs) : H0 p = none := let ⟨_, a, _⟩ := x.x; a.z
end
/-! ### typed loops -/
def forW {α S : Type} : List α → S → (α → S → (S → Prop) → (S → Prop) → Prop) → (S → Prop) → Prop
  | [], s, _, k => k s
  | x :: xs, s, b, k => b x s (fun s' => forW xs s' b k) k
def compG {α β : Type} : List α → List β → (α → (Option β → Prop) → Prop) → (List β → Prop) → Prop
  | [], acc, _, k => k acc
  | x :: xs, acc, b, k => b x fun o => compG xs (acc ++ o.toList) b k
def compW {α β : Type} (xs : List α) (b : α → (Option β → Prop) → Prop) (k : List β → Prop) : Prop := compG xs [] b k
def whileW {S : Type} (test : S → (Bool → Prop) → Prop) (body : S → (S → Prop) → (S → Prop) → Prop) (s : S) (k : S → Prop) : Prop :=
  ∃ I : Nat → S → Prop, (∃ m, I m s) ∧ ∀ m s, I m s → test s fun b => if b = true then body s (fun s' => ∃ m', m' < m ∧ I m' s') k else k s

/-! ### steps of readings -/
section
variable {K : PySem.W.Frag} {σ σ1 : L2.St} {H H1 : Hp} {te ta tb tc : TE} {tt tu : TT} {tA tR : TA} {Q : VK} {v w x y z : V} {D : Ends} {t u : TS} {i j : Int} {a b m n : Nat} {p q : Prop}
theorem e_val (h : Val te σ H v) (q : Q v H) : te σ H Q := h Q q
theorem v_eq (h : Val te σ H v) (e : v = w) : Val te σ H w := e ▸ h
theorem vi_of (h : Val te σ H (.int i)) (e : i = j) : Val te σ H (.int j) := e ▸ h
theorem vb_of {b c : Bool} (h : Val te σ H (.bl b)) (e : b = c) : Val te σ H (.bl c) := e ▸ h
theorem v2 {r : R2} (ha : Val ta σ H x) (hb : Val tb σ H y) (hr : ∀ Q : VK, Q z H → r x y H Q) : Val (tOp r ta tb) σ H z := fun Q k => ha _ (hb _ (hr Q k))
theorem v1 {r : V → Hp → VK → Prop} (ha : Val ta σ H x) (hr : ∀ Q : VK, Q z H → r x H Q) : Val (tUn r ta) σ H z := fun Q k => ha _ (hr Q k)
theorem vi0 {g : Int → Int → V} (ha : Val ta σ H (.int i)) (hb : Val tb σ H (.int j)) : Val (tOp (rI0 g) ta tb) σ H (g i j) := fun _ k => ha _ (hb _ ⟨i, j, rfl, rfl, k⟩)
theorem viC {C : Int → Int → Prop} {g : Int → Int → V} (ha : Val ta σ H (.int i)) (hb : Val tb σ H (.int j)) (hc : C i j) : Val (tOp (rI C g) ta tb) σ H (g i j) := fun _ k => ha _ (hb _ ⟨i, j, rfl, rfl, hc, k⟩)
/-! whole numbers from 0 on -/
theorem vn_add (ha : Val ta σ H (.int (a : Int))) (hb : Val tb σ H (.int (b : Int))) : Val (tOp (rI0 fun i j => .int (i + j)) ta tb) σ H (.int ((a + b : Nat) : Int)) := vi_of (vi0 ha hb) (by omega)
theorem vn_sub (ha : Val ta σ H (.int (a : Int))) (hb : Val tb σ H (.int (b : Int))) (h : b ≤ a) : Val (tOp (rI0 fun i j => .int (i - j)) ta tb) σ H (.int ((a - b : Nat) : Int)) := vi_of (vi0 ha hb) (by omega)
def NMul (a b : Nat) : Prop := a < 2 ^ 64 ∨ b < 2 ^ 64
theorem vn_mul (ha : Val ta σ H (.int (a : Int))) (hb : Val tb σ H (.int (b : Int))) (h : NMul a b) : Val (tOp (rI CMul fun i j => .int (i * j)) ta tb) σ H (.int ((a * b : Nat) : Int)) := vi_of (viC ha hb (by
  rcases h with h | h
  · exact .inl ⟨by omega, by omega⟩
  · exact .inr ⟨by omega, by omega⟩)) (by rw [Int.natCast_mul])
theorem vn_mulW (ha : Val ta σ H (.int (a : Int))) (hb : Val tb σ H (.int (b : Int))) (h : CMulX a b) : Val (tOp (rI CMulX fun i j => .int (i * j)) ta tb) σ H (.int ((a * b : Nat) : Int)) := vi_of (viC ha hb h) (by rw [Int.natCast_mul])
def NDiv (b : Nat) : Prop := 0 < b ∧ b.log2 < 9000
theorem vn_div (ha : Val ta σ H (.int (a : Int))) (hb : Val tb σ H (.int (b : Int))) (h : NDiv b) : Val (tOp (rI CDivW fun i j => .int (i / j)) ta tb) σ H (.int ((a / b : Nat) : Int)) := vi_of (viC ha hb ⟨by have := h.1; omega, h.2⟩) (by rw [Int.natCast_ediv])
theorem vi_div (ha : Val ta σ H (.int i)) (hb : Val tb σ H (.int (b : Int))) (h : NDiv b) : Val (tOp (rI CDivW fun i j => .int (i / j)) ta tb) σ H (.int (i / (b : Int))) := viC ha hb ⟨by have := h.1; omega, h.2⟩
theorem vn_mod (ha : Val ta σ H (.int (a : Int))) (hb : Val tb σ H (.int (b : Int))) (h : 0 < b) : Val (tOp (rI (fun _ j => 0 < j) fun i j => .int (i % j)) ta tb) σ H (.int ((a % b : Nat) : Int)) := vi_of (viC (C := fun _ j => 0 < j) ha hb (by omega)) (by rw [Int.natCast_emod])
/-- i % m, as a whole number from 0 on -/
def modN (i : Int) (m : Nat) : Nat := (i % (m : Int)).toNat
theorem modN_cast {i : Int} {m : Nat} (h : 0 < m) : ((modN i m : Nat) : Int) = i % (m : Int) := Int.toNat_of_nonneg (Int.emod_nonneg _ (by omega))
theorem modN_lt {i : Int} {m : Nat} (h : 0 < m) : modN i m < m := by
  have := modN_cast (i := i) h
  have := Int.emod_lt_of_pos i (show (0 : Int) < m by omega)
  omega
theorem vm_mod (ha : Val ta σ H (.int i)) (hb : Val tb σ H (.int (b : Int))) (h : 0 < b) : Val (tOp (rI (fun _ j => 0 < j) fun i j => .int (i % j)) ta tb) σ H (.int ((modN i b : Nat) : Int)) := vi_of (viC (C := fun _ j => 0 < j) ha hb (by omega)) (modN_cast h).symm
theorem bitAnd_N (a b : Nat) : Builtin.bitAnd (a : Int) (b : Int) = ((a &&& b : Nat) : Int) := by
  unfold Builtin.bitAnd
  rw [decide_eq_true (Int.natCast_nonneg a), decide_eq_true (Int.natCast_nonneg b)]
  rfl
theorem bitXor_N (a b : Nat) : Builtin.bitXor (a : Int) (b : Int) = ((a ^^^ b : Nat) : Int) := by rw [Bits.bitXor_pp (Int.natCast_nonneg a) (Int.natCast_nonneg b)]; rfl
theorem bitOr_N (a b : Nat) : Builtin.bitOr (a : Int) (b : Int) = ((a ||| b : Nat) : Int) := by rw [Bits.bitOr_pp (Int.natCast_nonneg a) (Int.natCast_nonneg b)]; rfl
theorem vn_and (ha : Val ta σ H (.int (a : Int))) (hb : Val tb σ H (.int (b : Int))) : Val (tOp (rI0 fun i j => .int (Builtin.bitAnd i j)) ta tb) σ H (.int ((a &&& b : Nat) : Int)) := vi_of (vi0 ha hb) (bitAnd_N a b)
theorem vn_or (ha : Val ta σ H (.int (a : Int))) (hb : Val tb σ H (.int (b : Int))) : Val (tOp (rI0 fun i j => .int (Builtin.bitOr i j)) ta tb) σ H (.int ((a ||| b : Nat) : Int)) := vi_of (vi0 ha hb) (bitOr_N a b)
theorem vn_xor (ha : Val ta σ H (.int (a : Int))) (hb : Val tb σ H (.int (b : Int))) : Val (tOp (rI0 fun i j => .int (Builtin.bitXor i j)) ta tb) σ H (.int ((a ^^^ b : Nat) : Int)) := vi_of (vi0 ha hb) (bitXor_N a b)
/-- i & 1 -/
theorem vm_odd (ha : Val ta σ H (.int i)) (hb : Val tb σ H (.int 1)) : Val (tOp (rI0 fun i j => .int (Builtin.bitAnd i j)) ta tb) σ H (.int ((modN i 2 : Nat) : Int)) := vi_of (vi0 ha hb) (by rw [PyProof.Rows.bitAnd_m1, modN_cast (by decide)]; rfl)
def NShl (a k : Nat) : Prop := a.log2 + k < 100000000
theorem NShl.ok {a k : Nat} (h : NShl a k) : CShl (a : Int) (k : Int) := by
  have e : (2 : Int) ^ 27 = 134217728 := by decide
  refine ⟨Int.natCast_nonneg _, ?_⟩
  rw [e]
  have b : Builtin.Int.intBits (a : Int) ≤ a.log2 + 1 := by
    unfold Builtin.Int.intBits
    split
    · omega
    · exact Nat.le_refl _
  unfold NShl at h
  omega
theorem vn_shl (ha : Val ta σ H (.int (a : Int))) (hb : Val tb σ H (.int (b : Int))) (h : NShl a b) : Val (tOp (rI CShl fun i j => .int (i * 2 ^ j.toNat)) ta tb) σ H (.int ((a <<< b : Nat) : Int)) := vi_of (viC ha hb h.ok) (by
  rw [Int.toNat_natCast, Nat.shiftLeft_eq, Int.natCast_mul, Int.natCast_pow]; rfl)
theorem vn_one (ha : Val ta σ H (.int 1)) (hb : Val tb σ H (.int (b : Int))) (h : b < 100000000) : Val (tOp (rI CShl fun i j => .int (i * 2 ^ j.toNat)) ta tb) σ H (.int ((2 ^ b : Nat) : Int)) := vi_of (vn_shl (a := 1) ha hb (by
  unfold NShl
  have : Nat.log2 1 = 0 := by decide
  omega)) (by rw [Nat.shiftLeft_eq, Nat.one_mul])
theorem vi_shl (ha : Val ta σ H (.int i)) (hb : Val tb σ H (.int (b : Int))) (h : CShl i (b : Int)) : Val (tOp (rI CShl fun i j => .int (i * 2 ^ j.toNat)) ta tb) σ H (.int (i * 2 ^ b)) := vi_of (viC ha hb h) (by rw [Int.toNat_natCast])
theorem vi_shr (ha : Val ta σ H (.int i)) (hb : Val tb σ H (.int (b : Int))) : Val (tOp (rI (fun _ j => 0 ≤ j) fun i j => .int (i / 2 ^ j.toNat)) ta tb) σ H (.int (i / 2 ^ b)) := vi_of (viC (C := fun _ j => 0 ≤ j) ha hb (Int.natCast_nonneg _)) (by rw [Int.toNat_natCast])
theorem vn_shr (ha : Val ta σ H (.int (a : Int))) (hb : Val tb σ H (.int (b : Int))) : Val (tOp (rI (fun _ j => 0 ≤ j) fun i j => .int (i / 2 ^ j.toNat)) ta tb) σ H (.int ((a >>> b : Nat) : Int)) := vi_of (vi_shr ha hb) (by
  rw [Nat.shiftRight_eq_div_pow, Int.natCast_ediv, Int.natCast_pow]; rfl)
theorem v_neg (ha : Val ta σ H (.int i)) : Val (tUn (rU fun i => .int (-i)) ta) σ H (.int (-i)) := v1 ha fun _ k => ⟨i, rfl, k⟩
theorem vn_pow {c : Nat} (ha : Val ta σ H (.int (a : Int))) (hb : Val tb σ H (.int (b : Int))) (h : b ≤ 1000000 ∧ a < 2 ^ 64) (e : a ^ b = c) : Val (tOp (rI CPow fun i j => .int (i ^ j.toNat)) ta tb) σ H (.int (c : Int)) := vi_of (viC ha hb ⟨Int.natCast_nonneg _, by omega, by omega⟩) (by
  rw [Int.toNat_natCast, ← e, Int.natCast_pow])
theorem vn_bits (ha : Val ta σ H (.int (a : Int))) : Val (tBits ta) σ H (.int ((Builtin.Int.intBits (a : Int) : Nat) : Int)) := fun _ k => ha _ ⟨_, rfl, k⟩
/-! comparisons, as truths -/
theorem c_lt (ha : Val ta σ H (.int i)) (hb : Val tb σ H (.int j)) : Val (tOp (rI0 fun i j => .bl (decide (i < j))) ta tb) σ H (.bl (decide (i < j))) := vi0 ha hb
theorem c_le (ha : Val ta σ H (.int i)) (hb : Val tb σ H (.int j)) : Val (tOp (rI0 fun i j => .bl (decide (i ≤ j))) ta tb) σ H (.bl (decide (i ≤ j))) := vi0 ha hb
theorem c_gt (ha : Val ta σ H (.int i)) (hb : Val tb σ H (.int j)) : Val (tOp (rI0 fun i j => .bl (decide (j < i))) ta tb) σ H (.bl (decide (j < i))) := vi0 ha hb
theorem c_ge (ha : Val ta σ H (.int i)) (hb : Val tb σ H (.int j)) : Val (tOp (rI0 fun i j => .bl (decide (j ≤ i))) ta tb) σ H (.bl (decide (j ≤ i))) := vi0 ha hb
theorem dec_iff {p q : Prop} [Decidable p] [Decidable q] (h : p ↔ q) : decide p = decide q := by
  by_cases k : p
  · rw [decide_eq_true k, decide_eq_true (h.mp k)]
  · rw [decide_eq_false k, decide_eq_false (fun z => k (h.mpr z))]
theorem vb_dec [Decidable p] [Decidable q] (h : Val te σ H (.bl (decide p))) (e : p ↔ q) : Val te σ H (.bl (decide q)) := vb_of h (dec_iff e)
theorem c_eqI (ha : Val ta σ H (.int i)) (hb : Val tb σ H (.int j)) : Val (tOp rEq ta tb) σ H (.bl (decide (i = j))) := v2 ha hb fun Q k => ⟨rfl, by
  rw [dec_iff (show V.int i = V.int j ↔ i = j from ⟨fun h => V.int.inj h, fun h => by rw [h]⟩)]; exact k⟩
theorem c_neI (ha : Val ta σ H (.int i)) (hb : Val tb σ H (.int j)) : Val (tOp rNe ta tb) σ H (.bl (decide (i ≠ j))) := v2 ha hb fun Q k => ⟨rfl, by
  rw [← decide_not, dec_iff (show ¬ V.int i = V.int j ↔ i ≠ j from ⟨fun h e => h (by rw [e]), fun h e => h (V.int.inj e)⟩)]; exact k⟩
theorem c_eqS {s r : Str} (ha : Val ta σ H (.str s)) (hb : Val tb σ H (.str r)) : Val (tOp rEq ta tb) σ H (.bl (decide (s = r))) := v2 ha hb fun Q k => ⟨rfl, by
  rw [dec_iff (show V.str s = V.str r ↔ s = r from ⟨fun h => V.str.inj h, fun h => by rw [h]⟩)]; exact k⟩
theorem c_neS {s r : Str} (ha : Val ta σ H (.str s)) (hb : Val tb σ H (.str r)) : Val (tOp rNe ta tb) σ H (.bl (decide (s ≠ r))) := v2 ha hb fun Q k => ⟨rfl, by
  rw [← decide_not, dec_iff (show ¬ V.str s = V.str r ↔ s ≠ r from ⟨fun h e => h (by rw [e]), fun h e => h (V.str.inj e)⟩)]; exact k⟩
theorem c_eqB {s r : Bool} (ha : Val ta σ H (.bl s)) (hb : Val tb σ H (.bl r)) : Val (tOp rEq ta tb) σ H (.bl (decide (s = r))) := v2 ha hb fun Q k => ⟨rfl, by
  rw [dec_iff (show V.bl s = V.bl r ↔ s = r from ⟨fun h => V.bl.inj h, fun h => by rw [h]⟩)]; exact k⟩
theorem c_neB {s r : Bool} (ha : Val ta σ H (.bl s)) (hb : Val tb σ H (.bl r)) : Val (tOp rNe ta tb) σ H (.bl (decide (s ≠ r))) := v2 ha hb fun Q k => ⟨rfl, by
  rw [← decide_not, dec_iff (show ¬ V.bl s = V.bl r ↔ s ≠ r from ⟨fun h e => h (by rw [e]), fun h e => h (V.bl.inj e)⟩)]; exact k⟩
/-- numbers from 0 on: the comparison without casts -/
theorem n_lt : ((a : Int) < (b : Int)) ↔ a < b := by omega
theorem n_le : ((a : Int) ≤ (b : Int)) ↔ a ≤ b := by omega
theorem n_eq : ((a : Int) = (b : Int)) ↔ a = b := by omega
theorem n_ne : ((a : Int) ≠ (b : Int)) ↔ a ≠ b := by omega
/-- a < b < c -/
theorem v_chain {r r' : R2} {b1 b2 : Bool} (ha : Val ta σ H x) (hb : Val tb σ H y) (hc : Val tc σ H z) (h1 : ∀ Q : VK, Q (.bl b1) H → r x y H Q) (h2 : ∀ Q : VK, Q (.bl b2) H → r' y z H Q) : Val (tChain r r' ta tb tc) σ H (.bl (b1 && b2)) := fun Q k => ha _ (hb _ (h1 _ ⟨b1, rfl, by
  cases b1 with
  | true => rw [if_pos rfl]; exact hc _ (h2 _ (by simpa using k))
  | false => rw [if_neg (by simp)]; simpa using k⟩))
/-! truths as tests -/
theorem t_of (h : Val te σ H (.bl b')) : Ans (tTest te) σ H b' := fun _ k => h _ ⟨_, rfl, k⟩
theorem t_ofB (h : Val te σ H (.bl b')) : Ans (tB te) σ H b' := fun _ k => h _ ⟨_, rfl, k⟩
theorem t_dec {b c : Bool} (h : Ans tt σ H b) (e : b = c) : Ans tt σ H c := e ▸ h
theorem t_iff [Decidable p] [Decidable q] (h : Ans tt σ H (decide p)) (e : p ↔ q) : Ans tt σ H (decide q) := t_dec h (dec_iff e)
theorem t_not [Decidable p] (h : Ans tt σ H (decide p)) : Ans (tNot tt) σ H (decide (¬ p)) := fun Q k => h _ (by rw [← decide_not]; exact k)
theorem t_and [Decidable p] [Decidable q] (h : Ans tt σ H (decide p)) (h2 : p → Ans tu σ H (decide q)) : Ans (tAnd tt tu) σ H (decide (p ∧ q)) := fun Q k => h _ (by
  by_cases hp : p
  · rw [decide_eq_true hp, if_pos rfl]
    exact h2 hp Q (by rw [dec_iff (show q ↔ p ∧ q from ⟨fun z => ⟨hp, z⟩, fun z => z.2⟩)]; exact k)
  · rw [decide_eq_false hp, if_neg (by simp)]
    rw [decide_eq_false (fun z => hp z.1)] at k
    exact k)
theorem t_or [Decidable p] [Decidable q] (h : Ans tt σ H (decide p)) (h2 : ¬ p → Ans tu σ H (decide q)) : Ans (tOr tt tu) σ H (decide (p ∨ q)) := fun Q k => h _ (by
  by_cases hp : p
  · rw [decide_eq_true hp, if_pos rfl]
    rw [decide_eq_true (Or.inl hp)] at k
    exact k
  · rw [decide_eq_false hp, if_neg (by simp)]
    exact h2 hp Q (by rw [dec_iff (show q ↔ p ∨ q from ⟨fun z => .inr z, fun z => z.resolve_left hp⟩)]; exact k))
/-! the same as values -/
theorem vt_not [Decidable p] (h : Val te σ H (.bl (decide p))) : Val (tNotV te) σ H (.bl (decide (¬ p))) := fun Q k => h _ ⟨_, rfl, by rw [← decide_not]; exact k⟩
theorem vt_and [Decidable p] [Decidable q] (h : Val ta σ H (.bl (decide p))) (h2 : p → Val tb σ H (.bl (decide q))) : Val (tAndV ta tb) σ H (.bl (decide (p ∧ q))) := fun Q k => h _ ⟨_, rfl, by
  by_cases hp : p
  · rw [decide_eq_true hp, if_pos rfl]
    exact h2 hp Q (by rw [dec_iff (show q ↔ p ∧ q from ⟨fun z => ⟨hp, z⟩, fun z => z.2⟩)]; exact k)
  · rw [decide_eq_false hp, if_neg (by simp)]
    rw [decide_eq_false (fun z => hp z.1)] at k
    exact k⟩
theorem vt_or [Decidable p] [Decidable q] (h : Val ta σ H (.bl (decide p))) (h2 : ¬ p → Val tb σ H (.bl (decide q))) : Val (tOrV ta tb) σ H (.bl (decide (p ∨ q))) := fun Q k => h _ ⟨_, rfl, by
  by_cases hp : p
  · rw [decide_eq_true hp, if_pos rfl]
    rw [decide_eq_true (Or.inl hp)] at k
    exact k
  · rw [decide_eq_false hp, if_neg (by simp)]
    exact h2 hp Q (by rw [dec_iff (show q ↔ p ∨ q from ⟨fun z => .inr z, fun z => z.resolve_left hp⟩)]; exact k)⟩
theorem v_if [Decidable p] (h : Ans tt σ H (decide p)) (h1 : p → Val ta σ H x) (h2 : ¬ p → Val tb σ H x) : Val (tIf tt ta tb) σ H x := fun Q k => h _ (by
  by_cases hp : p
  · rw [decide_eq_true hp, if_pos rfl]; exact h1 hp Q k
  · rw [decide_eq_false hp, if_neg (by simp)]; exact h2 hp Q k)
/-! calls -/
theorem e_call {sp : Sp} {E : XK} (h : tA σ H fun vs H1 => sp vs H1 Q E) : tCall sp [] E tA σ H Q := by
  show tA σ H fun vs H1 => sp (vs ++ []) H1 Q E
  simpa only [List.append_nil] using h
theorem a_nil {R : List V → Hp → Prop} (h : R [] H) : tNil σ H R := h
theorem a_cons {R : List V → Hp → Prop} (h : te σ H fun x H1 => tR σ H1 fun xs H2 => R (x :: xs) H2) : tCons te tR σ H R := h
theorem a_val {R : List V → Hp → Prop} (h : Val te σ H v) (k : tR σ H fun xs H2 => R (v :: xs) H2) : tCons te tR σ H R := h _ k
theorem v_cb1 {r : List V → Hp → VK → Prop} (ha : Val ta σ H x) (hr : ∀ Q : VK, Q z H → r [x] H Q) : Val (tCB r (tCons ta tNil)) σ H z := fun Q k => ha _ (hr Q k)
theorem v_cb2 {r : List V → Hp → VK → Prop} (ha : Val ta σ H x) (hb : Val tb σ H y) (hr : ∀ Q : VK, Q z H → r [x, y] H Q) : Val (tCB r (tCons ta (tCons tb tNil))) σ H z := fun Q k => ha _ (hb _ (hr Q k))
/-! statements -/
theorem q_seq (h : t { D with nx := u D } σ H) : tSeq t u D σ H := h
theorem q_sq (h : ∀ N : L2.St → Hp → Prop, (∀ σ' H', u D σ' H' → N σ' H') → t { D with nx := N } σ H) : tSeq t u D σ H := h _ fun _ _ z => z
theorem a_asg {i : Nat} (h : Val te σ H v) (q : D.nx (σ.set i (some v)) H) : tAsg te (gName i) D σ H := h _ q
theorem a_asgE {i : Nat} (h : te σ H fun v H1 => D.nx (σ.set i (some v)) H1) : tAsg te (gName i) D σ H := h
theorem a_ret (h : Val te σ H v) (q : D.rt v H) : tRet te D σ H := h _ q
theorem a_retE (h : te σ H D.rt) : tRet te D σ H := h
theorem a_dropE (h : te σ H fun _ H1 => D.nx σ H1) : tDrop te D σ H := h
theorem a_aug {i : Nat} {ti : TIp} (hx : σ[i]? = some (some x)) (h : Val te σ H y) (hr : ∀ Q : VK, Q z H → ti x y H Q) (q : D.nx (σ.set i (some z)) H) : tAug i te ti D σ H := ⟨x, hx, h _ (hr _ q)⟩
theorem a_if [Decidable p] (h : Ans tt σ H (decide p)) (h1 : p → t D σ H) (h2 : ¬ p → u D σ H) : tIfS tt t u D σ H := h _ (by
  by_cases hp : p
  · rw [decide_eq_true hp, if_pos rfl]; exact h1 hp
  · rw [decide_eq_false hp, if_neg (by simp)]; exact h2 hp)
theorem a_ifE (h : tt σ H fun b H1 => if b = true then t D σ H1 else u D σ H1) : tIfS tt t u D σ H := h
theorem ifP [Decidable p] {A B : Prop} (h : if p then A else B) (hp : p) : A := by rw [if_pos hp] at h; exact h
theorem ifN [Decidable p] {A B : Prop} (h : if p then A else B) (hp : ¬ p) : B := by rw [if_neg hp] at h; exact h
end
end Wk

namespace Wk
open PySem L2
/-! ### data that is compared -/
class Dat {α : Type} (e : Rep α) (lv : outParam Nat) where
  d : α → PyData
  dp : ∀ {K : PySem.W.Frag} {F : Hp} {v : V} {x : α}, e.r F v x → Dp K F v (d x)
  lay : ∀ x, (d x).canLay0 = true
  dep : ∀ x, (d x).depth ≤ lv
  inj : ∀ x y, PyData.eqv (d x) (d y) = true ↔ x = y
instance : Dat pI 0 := ⟨.int, fun h => by cases (show _ = V.int _ from h); exact .int _, fun _ => rfl, fun _ => Nat.le_refl _, fun x y => by
  show ((x == y) = true) ↔ _
  exact beq_iff_eq⟩
instance : Dat pN 0 := ⟨fun n => .int (n : Int), fun h => by cases (show _ = V.int _ from h); exact .int _, fun _ => rfl, fun _ => Nat.le_refl _, fun x y => by
  show (((x : Int) == (y : Int)) = true) ↔ _
  rw [beq_iff_eq]; omega⟩
instance : Dat pB 0 := ⟨.bool, fun h => by cases (show _ = V.bl _ from h); exact .bl _, fun _ => rfl, fun _ => Nat.le_refl _, fun x y => by
  show ((x == y) = true) ↔ _
  exact beq_iff_eq⟩
theorem lay_all {α : Type} {d : α → PyData} (h : ∀ x, (d x).canLay0 = true) : ∀ xs : List α, PyData.canLayAll0 (xs.map d) = true
  | [] => rfl
  | x :: xs => by show (PyData.canLay0 (d x) && PyData.canLayAll0 (xs.map d)) = true; rw [h x, lay_all h xs]; rfl
theorem dep_all {α : Type} {d : α → PyData} {n : Nat} (h : ∀ x, (d x).depth ≤ n) : ∀ xs : List α, PyData.depthAll (xs.map d) ≤ n
  | [] => Nat.zero_le _
  | x :: xs => by
    show PyData.depthAll (d x :: xs.map d) ≤ n
    have a := h x
    have b := dep_all h xs
    simp only [PyData.depthAll]
    omega
theorem eqv_all {α : Type} {d : α → PyData} (h : ∀ x y, PyData.eqv (d x) (d y) = true ↔ x = y) : ∀ xs ys : List α, PyData.eqvAll (xs.map d) (ys.map d) = true ↔ xs = ys
  | [], [] => ⟨fun _ => rfl, fun _ => rfl⟩
  | x :: xs, [] => ⟨fun q => (by cases q), fun q => (by cases q)⟩
  | [], y :: ys => ⟨fun q => (by cases q), fun q => (by cases q)⟩
  | x :: xs, y :: ys => by
    show (PyData.eqv (d x) (d y) && PyData.eqvAll (xs.map d) (ys.map d)) = true ↔ _
    rw [Bool.and_eq_true, h x y, eqv_all h xs ys, List.cons.injEq]
theorem dp_all {α : Type} {e : Rep α} {lv : Nat} [Dat e lv] {K : PySem.W.Frag} {F : Hp} : ∀ {vs : List V} {xs : List α}, All e F vs xs → DpAll K F vs (xs.map (Dat.d e))
  | [], [], _ => .nil
  | _ :: _, _ :: _, ⟨a, b⟩ => .cons (Dat.dp a) (dp_all b)
  | [], _ :: _, q => q.elim
  | _ :: _, [], q => q.elim
instance {α : Type} {e : Rep α} {n : Nat} [Dat e n] : Dat (pL e) (n + 1) := ⟨fun xs => .list (xs.map (Dat.d e)), fun {K F v xs} h => by
    obtain ⟨p, vs, rfl, hp, a⟩ := h
    exact .lst (SqL.of hp) (dp_all a), fun xs => lay_all (Dat.lay (e := e)) xs, fun xs => by
    have := dep_all (Dat.dep (e := e)) xs
    simp only [PyData.depth]
    omega, fun xs ys => by
    show PyData.eqvAll (xs.map (Dat.d e)) (ys.map (Dat.d e)) = true ↔ _
    exact eqv_all (Dat.inj (e := e)) xs ys⟩
instance {α : Type} {e : Rep α} {n : Nat} [Dat e n] : Dat (pTL e) (n + 1) := ⟨fun xs => .tuple (xs.map (Dat.d e)), fun {K F v xs} h => by
    obtain ⟨p, vs, rfl, hp, a⟩ := h
    exact .tup (SqT.of hp) (dp_all a), fun xs => lay_all (Dat.lay (e := e)) xs, fun xs => by
    have := dep_all (Dat.dep (e := e)) xs
    simp only [PyData.depth]
    omega, fun xs ys => by
    show PyData.eqvAll (xs.map (Dat.d e)) (ys.map (Dat.d e)) = true ↔ _
    exact eqv_all (Dat.inj (e := e)) xs ys⟩
instance {α β : Type} {e : Rep α} {f : Rep β} {n m : Nat} [Dat e n] [Dat f m] : Dat (pT2 e f) (max n m + 1) := ⟨fun x => .tuple [Dat.d e x.1, Dat.d f x.2], fun {K F v x} h => by
    obtain ⟨p, u, w, rfl, hp, a, b⟩ := h
    exact .tup (SqT.of hp) (.cons (Dat.dp a) (.cons (Dat.dp b) .nil)), fun x => by
    show (PyData.canLay0 (Dat.d e x.1) && (PyData.canLay0 (Dat.d f x.2) && PyData.canLayAll0 [])) = true
    rw [Dat.lay, Dat.lay]; rfl, fun x => by
    have a := Dat.dep (e := e) x.1
    have b := Dat.dep (e := f) x.2
    simp only [PyData.depth, PyData.depthAll]
    omega, fun x y => by
    show (PyData.eqv (Dat.d e x.1) (Dat.d e y.1) && (PyData.eqv (Dat.d f x.2) (Dat.d f y.2) && PyData.eqvAll [] [])) = true ↔ _
    have z : PyData.eqvAll [] [] = true := rfl
    rw [z, Bool.and_true, Bool.and_eq_true, Dat.inj, Dat.inj, Prod.ext_iff]⟩
theorem Dat.shp {α : Type} {e : Rep α} {n : Nat} [Dat e n] (h : n ≤ 64) (x : α) : SeqAt.shaped (Dat.d e x) = true := by
  unfold SeqAt.shaped
  rw [Dat.lay, decide_eq_true (Nat.le_trans (Dat.dep x) h)]; rfl
section
variable {α β : Type} {e : Rep α} {f : Rep β} {K : PySem.W.Frag} {σ : L2.St} {F0 H0 F F' H H' : Hp} {te tl ta tb : TE} {tt : TT} {tA : TA} {Q : VK} {v w u : V} {xs ys : List α} {x y : α} {D : Ends} {tu : TS} {p q : Addr} {n : Nat} {i : Int}
theorem c_eqD [DecidableEq α] [Dat e n] (ha : Val ta σ H v) (hb : Val tb σ H w) (f : Ex F H) (r : e.r F v x) (g : Ex F' H) (s : e.r F' w y) (h : n ≤ 64 := by decide) : Val (tOp (rEqD K) ta tb) σ H (.bl (decide (x = y))) :=
  v2 ha hb fun Q k => ⟨_, _, Dat.dp (e.mono f r), Dat.dp (e.mono g s), Dat.shp h x, Dat.shp h y, by
    have z : PyData.eqv (Dat.d e x) (Dat.d e y) = decide (x = y) := Bool.eq_iff_iff.mpr (by rw [Dat.inj, decide_eq_true_iff])
    rw [z]; exact k⟩
theorem c_neD [DecidableEq α] [Dat e n] (ha : Val ta σ H v) (hb : Val tb σ H w) (f : Ex F H) (r : e.r F v x) (g : Ex F' H) (s : e.r F' w y) (h : n ≤ 64 := by decide) : Val (tOp (rNeD K) ta tb) σ H (.bl (decide (x ≠ y))) :=
  v2 ha hb fun Q k => ⟨_, _, Dat.dp (e.mono f r), Dat.dp (e.mono g s), Dat.shp h x, Dat.shp h y, by
    have z : PyData.eqv (Dat.d e x) (Dat.d e y) = decide (x = y) := Bool.eq_iff_iff.mpr (by rw [Dat.inj, decide_eq_true_iff])
    rw [z, ← decide_not]; exact k⟩
/-! ### lists that are read -/
theorem XL.rd (z : XL e H0 F H p xs) : ∃ vs, H p = some (.lst vs) ∧ All e F vs xs := let ⟨vs, a, b⟩ := z.x; ⟨vs, a.h, b⟩
theorem L_rd (r : (pL e).r F v xs) (f : Ex F H) : ∃ p vs, v = .ref p ∧ H p = some (.lst vs) ∧ All e F vs xs := let ⟨p, vs, a, b, c⟩ := r; ⟨p, vs, a, f _ _ b, c⟩
theorem TL_rd (r : (pTL e).r F v xs) (f : Ex F H) : ∃ p vs, v = .ref p ∧ H p = some (.tup vs) ∧ All e F vs xs := let ⟨p, vs, a, b, c⟩ := r; ⟨p, vs, a, f _ _ b, c⟩
theorem ix_L (r : (pL e).r F v xs) (f : Ex F H) {i : Nat} (hx : xs[i]? = some x) : ∃ w, e.r F w x ∧ ∀ ⦃σ ta tb⦄, Val ta σ H v → Val tb σ H (.int (i : Int)) → Val (tOp (rIxL K) ta tb) σ H w := by
  obtain ⟨p, vs, rfl, hp, a⟩ := L_rd r f
  obtain ⟨w, h1, h2⟩ := a.get hx
  exact ⟨w, h2, fun _ _ _ ha hb => v2 ha hb fun Q k => ⟨p, vs, _, w, rfl, rfl, SqL.of hp, atI_nat h1, k⟩⟩
theorem ix_X (r : XL e H0 F H p xs) {i : Nat} (hx : xs[i]? = some x) : ∃ w, e.r F w x ∧ ∀ ⦃σ ta tb⦄, Val ta σ H (.ref p) → Val tb σ H (.int (i : Int)) → Val (tOp (rIxL K) ta tb) σ H w := by
  obtain ⟨vs, hp, a⟩ := r.rd
  obtain ⟨w, h1, h2⟩ := a.get hx
  exact ⟨w, h2, fun _ _ _ ha hb => v2 ha hb fun Q k => ⟨p, vs, _, w, rfl, rfl, SqL.of hp, atI_nat h1, k⟩⟩
theorem ix_TL (r : (pTL e).r F v xs) (f : Ex F H) {i : Nat} (hx : xs[i]? = some x) : ∃ w, e.r F w x ∧ ∀ ⦃σ ta tb⦄, Val ta σ H v → Val tb σ H (.int (i : Int)) → Val (tOp (rIxT K) ta tb) σ H w := by
  obtain ⟨p, vs, rfl, hp, a⟩ := TL_rd r f
  obtain ⟨w, h1, h2⟩ := a.get hx
  exact ⟨w, h2, fun _ _ _ ha hb => v2 ha hb fun Q k => ⟨p, vs, _, w, rfl, rfl, SqT.of hp, atI_nat h1, k⟩⟩
theorem ix_S (f : Ex F H) {ys : List Int} {i : Nat} {x : Int} (r : (pScr K).r F v ys) (hx : ys[i]? = some x) : ∀ ⦃σ ta tb⦄, Val ta σ H v → Val tb σ H (.int (i : Int)) → Val (tOp (rIxL K) ta tb) σ H (.int x) := by
  obtain ⟨p, rfl, s⟩ := (pScr K).mono f r
  exact fun _ _ _ ha hb => v2 ha hb fun Q k => ⟨p, _, _, .int x, rfl, rfl, s, atI_nat (by rw [List.getElem?_map, hx]; rfl), k⟩
theorem ix_2a {e : Rep α} {f : Rep β} {x : α × β} (r : (pT2 e f).r F v x) (h : Ex F H) : ∃ w, e.r F w x.1 ∧ ∀ ⦃σ ta tb⦄, Val ta σ H v → Val tb σ H (.int 0) → Val (tOp (rIxT K) ta tb) σ H w := by
  obtain ⟨p, u, w, rfl, hp, a, b⟩ := r
  exact ⟨u, a, fun _ _ _ ha hb => v2 ha hb fun Q k => ⟨p, _, _, u, rfl, rfl, SqT.of (h _ _ hp), rfl, k⟩⟩
theorem ix_2b {e : Rep α} {f : Rep β} {x : α × β} (r : (pT2 e f).r F v x) (h : Ex F H) : ∃ w, f.r F w x.2 ∧ ∀ ⦃σ ta tb⦄, Val ta σ H v → Val tb σ H (.int 1) → Val (tOp (rIxT K) ta tb) σ H w := by
  obtain ⟨p, u, w, rfl, hp, a, b⟩ := r
  exact ⟨w, b, fun _ _ _ ha hb => v2 ha hb fun Q k => ⟨p, _, _, w, rfl, rfl, SqT.of (h _ _ hp), rfl, k⟩⟩
/-! len -/
def rLen (K : PySem.W.Frag) : List V → Hp → VK → Prop := fun xs H Q => ∃ p ys, xs = [.ref p] ∧ (SqL K H p ys ∨ SqT K H p ys) ∧ Q (.int ys.length) H
theorem len_L (r : (pL e).r F v xs) (f : Ex F H) (ha : Val ta σ H v) : Val (tCB (rLen K) (tCons ta tNil)) σ H (.int ((xs.length : Nat) : Int)) := by
  obtain ⟨p, vs, rfl, hp, a⟩ := L_rd r f
  exact v_cb1 ha fun Q k => ⟨p, vs, rfl, .inl (SqL.of hp), by rw [a.len]; exact k⟩
theorem len_TL (r : (pTL e).r F v xs) (f : Ex F H) (ha : Val ta σ H v) : Val (tCB (rLen K) (tCons ta tNil)) σ H (.int ((xs.length : Nat) : Int)) := by
  obtain ⟨p, vs, rfl, hp, a⟩ := TL_rd r f
  exact v_cb1 ha fun Q k => ⟨p, vs, rfl, .inr (SqT.of hp), by rw [a.len]; exact k⟩
theorem len_X (r : XL e H0 F H p xs) (ha : Val ta σ H (.ref p)) : Val (tCB (rLen K) (tCons ta tNil)) σ H (.int ((xs.length : Nat) : Int)) := by
  obtain ⟨vs, hp, a⟩ := r.rd
  exact v_cb1 ha fun Q k => ⟨p, vs, rfl, .inl (SqL.of hp), by rw [a.len]; exact k⟩
theorem len_S {ys : List Int} (r : (pScr K).r F v ys) (f : Ex F H) (ha : Val ta σ H v) : Val (tCB (rLen K) (tCons ta tNil)) σ H (.int ((ys.length : Nat) : Int)) := by
  obtain ⟨p, rfl, s⟩ := (pScr K).mono f r
  exact v_cb1 ha fun Q k => ⟨p, _, rfl, .inl s, by rw [List.length_map]; exact k⟩
theorem len_T2 {e : Rep α} {f : Rep β} {x : α × β} (r : (pT2 e f).r F v x) (h : Ex F H) (ha : Val ta σ H v) : Val (tCB (rLen K) (tCons ta tNil)) σ H (.int ((2 : Nat) : Int)) := by
  obtain ⟨p, u, w, rfl, hp, a, b⟩ := r
  exact v_cb1 ha fun Q k => ⟨p, _, rfl, .inr (SqT.of (h _ _ hp)), k⟩
/-! ### new things -/
def kLst (Q : VK) (xs : List V) (H : Hp) : Prop := xs.length ≤ sizeLine ∧ ∀ p, H p = none → Q (.ref p) (upd H p (.lst xs))
def kTup (Q : VK) (xs : List V) (H : Hp) : Prop := xs.length ≤ sizeLine ∧ ∀ p, H p = none → Q (.ref p) (upd H p (.tup xs))
theorem small_len {n : Nat} (h : n < 1000000) : n < sizeLine := by rw [sizeLine_eq]; omega
theorem n_lstX {vs : List V} (a : All e F vs xs) (hl : xs.length < 1000000) (w : Wf F0 H0 F H) (k : ∀ p H', H p = none → Wf F H F H' → XL e H0 F H' p xs → Q (.ref p) H') :
    kLst Q vs H := ⟨by rw [a.len]; exact Nat.le_of_lt (small_len hl), fun p hp => k p _ hp (Wf.newX w.f hp) ⟨vs, Xc.mk' w hp, a⟩⟩
theorem n_lst {vs : List V} (a : All e F vs xs) (hl : xs.length < 1000000) (w : Wf F0 H0 F H) (k : ∀ p F' H', Wf F H F' H' → (pL e).r F' (.ref p) xs → Q (.ref p) H') :
    kLst Q vs H := ⟨by rw [a.len]; exact Nat.le_of_lt (small_len hl), fun p hp => k p _ _ (Wf.new w.f hp) ⟨p, vs, rfl, upd_same, a.mono (Ex.new (w.f.non hp))⟩⟩
theorem n_tup2 {e : Rep α} {f : Rep β} {x : α} {y : β} (a : e.r F v x) (b : f.r F w y) (h : Wf F0 H0 F H) (k : ∀ p F' H', Wf F H F' H' → (pT2 e f).r F' (.ref p) (x, y) → Q (.ref p) H') :
    kTup Q [v, w] H := ⟨Nat.le_of_lt (small_len (n := 2) (by decide)), fun p hp => k p _ _ (Wf.new h.f hp) ⟨p, v, w, rfl, upd_same, e.mono (Ex.new (h.f.non hp)) a, f.mono (Ex.new (h.f.non hp)) b⟩⟩
/-- one's own list is changed no more -/
theorem XL.frzE (x : XL e H0 F H p xs) (w : Wf F0 H0 F H) : ∃ F', Wf F0 H0 F' H ∧ Ex F F' ∧ (pL e).r F' (.ref p) xs ∧ Fz F F' p := by
  obtain ⟨vs, a, b⟩ := x.x
  exact ⟨_, w.freeze a, Ex.new a.n, ⟨p, vs, rfl, upd_same, b.mono (Ex.new a.n)⟩, fun q h z => by rw [upd_ne h]; exact z⟩
/-- for a while one's own list is read by others -/
theorem XL.lend (x : XL e H0 F H p xs) (w : Wf F0 H0 F H) : ∃ F', Ex F' H ∧ Ex F F' ∧ (pL e).r F' (.ref p) xs := let ⟨F', a, b, c, _⟩ := x.frzE w; ⟨F', a.f, b, c⟩
/-! append, and the like -/
theorem a_app (x : XL e H0 F H p xs) (w : Wf F0 H0 F H) (hl : xs.length < 1000000) (r : e.r F v y) (k : ∀ H', Wf F0 H0 F H' → XL e H0 F H' p (xs ++ [y]) → (∀ q o, H q = some o → q ≠ p → H' q = some o) → Q .non H') : rAppend (.ref p) [v] H Q := by
  obtain ⟨vs, a, b⟩ := x.x
  exact ⟨p, vs, v, rfl, rfl, a.h, by rw [b.len]; exact small_len hl, k _ (w.set a) ⟨_, a.set, b.snoc r⟩ fun q o h hq => by rw [upd_ne hq]; exact h⟩
/-- another's place is as it was -/
theorem Xc.kept {o : HO} (x : Xc H0 F H q o) (h : ∀ q o, H q = some o → q ≠ p → H' q = some o) (hq : q ≠ p) : Xc H0 F H' q o := ⟨x.z, x.n, h _ _ x.h hq⟩
theorem XL.kept (x : XL e H0 F H q xs) (h : ∀ q o, H q = some o → q ≠ p → H' q = some o) (hq : q ≠ p) : XL e H0 F H' q xs := let ⟨vs, a, b⟩ := x.x; ⟨vs, a.kept h hq, b⟩
/-! ### loops -/
variable {S : Type} {R : Type} {g : TG} {tb : TS} {body : β → S → (S → Prop) → (S → Prop) → Prop} {s0 : S} {k : S → Prop} {vs : List V} {zs : List β} {b : Rep β}
/-- over a list that stays -/
theorem w_forL (Inv : S → L2.St → Hp → Hp → Prop) (r : (pL b).r F v zs) (hW : forW zs s0 body k) (h0 : Inv s0 σ F H)
    (ex : ∀ s σ' F' H', Inv s σ' F' H' → Ex F F' ∧ Ex F' H') (f : Ex F H)
    (turn : ∀ (N Bk : L2.St → Hp → Prop) x u s σ' F' H' (nx bk : S → Prop), Inv s σ' F' H' → x ∈ zs → b.r F' u x → body x s nx bk → (∀ s' σ2 F2 H2, Inv s' σ2 F2 H2 → nx s' → N σ2 H2) → (∀ s' σ2 F2 H2, Inv s' σ2 F2 H2 → bk s' → Bk σ2 H2) →
      g u σ' H' fun σ2 H2 => tb { D with nx := N, ct := N, bk := Bk } σ2 H2)
    (done : ∀ s σ' F' H', Inv s σ' F' H' → k s → D.nx σ' H') :
    ∃ a, v = .ref a ∧ (∃ xs, SqL K H a xs) ∧ (fun J H1 => ∃ W : Nat → Nat → L2.St → Hp → Prop, (∃ m, W 0 m σ H1) ∧ ∀ i m σ H, W i m σ H →
      (J.stop i H ∧ D.nx σ H) ∨ (J.go i H ∧ ∃ N : L2.St → Hp → Prop, (∀ σ' H', N σ' H' → ∃ m', m' < m ∧ W (i + 1) m' σ' H') ∧ ∀ x H', J.yld i H x H' → g x σ H' fun σ2 H2 => tb { D with nx := N, ct := N, bk := D.nx } σ2 H2)) (Itl K a) H := by
  obtain ⟨p, vs, rfl, hp, a⟩ := r
  refine ⟨p, rfl, ⟨_, SqL.of (f _ _ hp)⟩, for_list (xs := vs) (fun i σ' H' => ∃ s F', Inv s σ' F' H' ∧ forW (zs.drop i) s body k) ⟨s0, F, h0, hW⟩ (fun i σ' H' _ ⟨s, F', hI, _⟩ => SqL.of ((ex _ _ _ _ hI).2 _ _ ((ex _ _ _ _ hI).1 _ _ hp))) ?_ ?_⟩
  · rintro i u σ' H' hu ⟨s, F', hI, hw⟩
    obtain ⟨x, hx, rx⟩ := a.got hu
    have e : zs.drop i = x :: zs.drop (i + 1) := by
      obtain ⟨h1, h2⟩ := List.getElem?_eq_some_iff.mp hx
      rw [← h2]; exact List.drop_eq_getElem_cons h1
    rw [e] at hw
    exact turn _ _ x u s σ' F' H' _ _ hI (List.mem_of_getElem? hx) (b.mono (ex _ _ _ _ hI).1 rx) hw (fun s' σ2 F2 H2 q n => ⟨s', F2, q, n⟩) (fun s' σ2 F2 H2 q n => done s' σ2 F2 H2 q n)
  · rintro σ' H' ⟨s, F', hI, hw⟩
    rw [List.drop_of_length_le (by rw [a.len]; exact Nat.le_refl _)] at hw
    exact done _ _ _ _ hI hw
/-- over range(n) -/
theorem w_forR {n : Nat} {body : Nat → S → (S → Prop) → (S → Prop) → Prop} (Inv : S → L2.St → Hp → Hp → Prop) (hn : n < 1000000) (hW : forW (List.range n) s0 body k) (h0 : Inv s0 σ F H)
    (turn : ∀ (N Bk : L2.St → Hp → Prop) (x : Nat) s σ' F' H' (nx bk : S → Prop), Inv s σ' F' H' → x < n → body x s nx bk → (∀ s' σ2 F2 H2, Inv s' σ2 F2 H2 → nx s' → N σ2 H2) → (∀ s' σ2 F2 H2, Inv s' σ2 F2 H2 → bk s' → Bk σ2 H2) →
      g (.int (x : Int)) σ' H' fun σ2 H2 => tb { D with nx := N, ct := N, bk := Bk } σ2 H2)
    (done : ∀ s σ' F' H', Inv s σ' F' H' → k s → D.nx σ' H') :
    ∃ j : Int, [V.int (n : Int)] = [.int j] ∧ -(2 ^ 62) ≤ j ∧ j < 2 ^ 62 ∧ (fun J H1 => ∃ W : Nat → Nat → L2.St → Hp → Prop, (∃ m, W 0 m σ H1) ∧ ∀ i m σ H, W i m σ H →
      (J.stop i H ∧ D.nx σ H) ∨ (J.go i H ∧ ∃ N : L2.St → Hp → Prop, (∀ σ' H', N σ' H' → ∃ m', m' < m ∧ W (i + 1) m' σ' H') ∧ ∀ x H', J.yld i H x H' → g x σ H' fun σ2 H2 => tb { D with nx := N, ct := N, bk := D.nx } σ2 H2)) (Itr 0 j.toNat) H := by
  refine ⟨(n : Int), rfl, by omega, by omega, for_range (lo := 0) (n := n) (fun i σ' H' => ∃ s F', Inv s σ' F' H' ∧ forW ((List.range n).drop i) s body k) ⟨s0, F, h0, hW⟩ ?_ ?_⟩
  · rintro i σ' H' hi ⟨s, F', hI, hw⟩
    have e : (List.range n).drop i = i :: (List.range n).drop (i + 1) := by
      have h1 : i < (List.range n).length := by rw [List.length_range]; exact hi
      rw [List.drop_eq_getElem_cons h1, List.getElem_range]
    rw [e] at hw
    have z : (0 : Int) + (i : Int) = (i : Int) := Int.zero_add _
    rw [z]
    exact turn _ _ i s σ' F' H' _ _ hI hi hw (fun s' σ2 F2 H2 q n => ⟨s', F2, q, n⟩) (fun s' σ2 F2 H2 q n => done s' σ2 F2 H2 q n)
  · rintro σ' H' ⟨s, F', hI, hw⟩
    rw [List.drop_of_length_le (by rw [List.length_range]; exact Nat.le_refl _)] at hw
    exact done _ _ _ _ hI hw
/-- while -/
theorem w_while {test : S → (Bool → Prop) → Prop} {body : S → (S → Prop) → (S → Prop) → Prop} (Inv : S → L2.St → Hp → Hp → Prop) (hW : whileW test body s0 k) (h0 : Inv s0 σ F H)
    (cond : ∀ s σ' F' H' (T : Bool → Prop) (Qc : Bool → Hp → Prop), Inv s σ' F' H' → test s T → (∀ b F2 H2, Inv s σ' F2 H2 → T b → Qc b H2) → tt σ' H' Qc)
    (turn : ∀ (N Bk : L2.St → Hp → Prop) s σ' F' H' (nx bk : S → Prop), Inv s σ' F' H' → body s nx bk → (∀ s' σ2 F2 H2, Inv s' σ2 F2 H2 → nx s' → N σ2 H2) → (∀ s' σ2 F2 H2, Inv s' σ2 F2 H2 → bk s' → Bk σ2 H2) →
      tb { D with nx := N, ct := N, bk := Bk } σ' H')
    (done : ∀ s σ' F' H', Inv s σ' F' H' → k s → D.nx σ' H') : tWhile tt tb D σ H := by
  obtain ⟨I, ⟨m0, hm⟩, hs⟩ := hW
  refine ⟨fun m σ' H' => ∃ s F', Inv s σ' F' H' ∧ I m s, ⟨m0, s0, F, h0, hm⟩, ?_⟩
  rintro m σ' H' ⟨s, F', hI, im⟩
  refine cond s σ' F' H' _ _ hI (hs m s im) fun b F2 H2 hI2 hb => ?_
  cases b with
  | true =>
    rw [if_pos rfl] at hb ⊢
    exact ⟨_, fun _ _ q => q, turn (fun σ2 H2 => ∃ m', m' < m ∧ ∃ s' F', Inv s' σ2 F' H2 ∧ I m' s') _ s σ' F2 H2 _ _ hI2 hb (fun s' σ2 F3 H3 q ⟨m', l, i⟩ => ⟨m', l, s', F3, q, i⟩) (fun s' σ2 F3 H3 q n => done s' σ2 F3 H3 q n)⟩
  | false =>
    rw [if_neg (by simp)] at hb ⊢
    exact done s σ' F2 H2 hI2 hb
/-- ways that meet again -/
def jn {S : Type} (f : (S → Prop) → Prop) (k : S → Prop) : Prop := f k
theorem q_jn {f : (S → Prop) → Prop} {t u : TS} (hW : jn f k) (Inv : S → L2.St → Hp → Hp → Prop)
    (h1 : ∀ N : L2.St → Hp → Prop, (∀ s σ' F' H', Inv s σ' F' H' → k s → N σ' H') → f k → t { D with nx := N } σ H) (h2 : ∀ s σ' F' H', Inv s σ' F' H' → k s → u D σ' H') : tSeq t u D σ H :=
  h1 (u D) (fun s σ' F' H' q n => h2 s σ' F' H' q n) hW
theorem e_jn {f : (S → Prop) → Prop} {Qt : Bool → Hp → Prop} (hW : jn f k) (Inv : S → Bool → Hp → Hp → Prop)
    (h1 : ∀ N : Bool → Hp → Prop, (∀ s b F' H', Inv s b F' H' → k s → N b H') → f k → tt σ H N) (h2 : ∀ s b F' H', Inv s b F' H' → k s → Qt b H') : tt σ H Qt :=
  h1 Qt (fun s σ' F' H' q n => h2 s σ' F' H' q n) hW
/-! ### comprehensions -/
/-- what a comprehension asks of its source's value -/
def kCpL (K : PySem.W.Frag) (g : TG) (tc : TT) (te : TE) (vs : List Nat) (σ : L2.St) (Q : VK) (v : V) (H : Hp) : Prop := ∃ a, v = .ref a ∧ (∃ xs, SqL K H a xs) ∧ (fun J H1 => ∀ D, H1 D = none → ∃ W : Nat → Nat → Hp → Prop, (∃ m, W 0 m (upd H1 D (.lst []))) ∧ ∀ i m H, W i m H →
      (J.stop i H ∧ Q (.ref D) H) ∨ (J.go i H ∧ ∃ Nx : Hp → Prop, (∀ H', Nx H' → ∃ m', m' < m ∧ W (i + 1) m' H') ∧ ∀ x H', J.yld i H x H' → g x (wipe σ vs) H' fun σ2 H2 => wipe σ2 vs = wipe σ vs ∧ tc σ2 H2 fun b H3 =>
        if b = true then te σ2 H3 fun y H4 => ∃ acc, H4 D = some (.lst acc) ∧ acc.length < sizeLine ∧ Nx (upd H4 D (.lst (acc ++ [y]))) else Nx H3)) (Itl K a) H
def kCpR (g : TG) (tc : TT) (te : TE) (vs : List Nat) (σ : L2.St) (Q : VK) (v : V) (H : Hp) : Prop := ∃ j : Int, [v] = [.int j] ∧ -(2 ^ 62) ≤ j ∧ j < 2 ^ 62 ∧ (fun J H1 => ∀ D, H1 D = none → ∃ W : Nat → Nat → Hp → Prop, (∃ m, W 0 m (upd H1 D (.lst []))) ∧ ∀ i m H, W i m H →
      (J.stop i H ∧ Q (.ref D) H) ∨ (J.go i H ∧ ∃ Nx : Hp → Prop, (∀ H', Nx H' → ∃ m', m' < m ∧ W (i + 1) m' H') ∧ ∀ x H', J.yld i H x H' → g x (wipe σ vs) H' fun σ2 H2 => wipe σ2 vs = wipe σ vs ∧ tc σ2 H2 fun b H3 =>
        if b = true then te σ2 H3 fun y H4 => ∃ acc, H4 D = some (.lst acc) ∧ acc.length < sizeLine ∧ Nx (upd H4 D (.lst (acc ++ [y]))) else Nx H3)) (Itr 0 j.toNat) H
theorem w_compC {ws : List V} {tc : TT} {vs : List Nat} {bd : β → (Option α → Prop) → Prop} {kk : List α → Prop} (hp : H p = some (.lst ws)) (a : All b F ws zs) (w : Wf F0 H0 F H) (hn : zs.length < 1000000) (hW : compW zs bd kk)
    (turn : ∀ (Qy : V → Hp → Prop) (Qn : Hp → Prop) x u F1 H1 (R : Option α → Prop), Wf F H F1 H1 → x ∈ zs → b.r F1 u x → bd x R → (∀ y z F2 H2, Wf F1 H1 F2 H2 → e.r F2 y z → R (some z) → Qy y H2) → (∀ F2 H2, Wf F1 H1 F2 H2 → R none → Qn H2) →
      g u (wipe σ vs) H1 fun σ2 H2 => wipe σ2 vs = wipe σ vs ∧ tc σ2 H2 fun b H3 => if b = true then te σ2 H3 Qy else Qn H3)
    (done : ∀ p ys F' H', H p = none → Wf F H F' H' → XL e H0 F' H' p ys → kk ys → Q (.ref p) H') :
    kCpL K g tc te vs σ Q (V.ref p) H := by
  unfold kCpL
  refine ⟨p, rfl, ⟨_, SqL.of hp⟩, fun D hD => lc_list (xs := ws) (fun i H' => ∃ F' ac ys, Wf F H F' H' ∧ Xc H F' H' D (.lst ac) ∧ All e F' ac ys ∧ ys.length ≤ i ∧ compG (zs.drop i) ys bd kk)
    ⟨F, [], [], Wf.newX w.f hD, Xc.mk' (Wf.id w.f) hD, trivial, Nat.le_refl _, hW⟩ (fun i H' _ ⟨F', ac, ys, q, _⟩ => SqL.of (q.h _ _ hp)) ?_ ?_⟩
  · rintro i u H' hu ⟨F', ac, ys, q, xc, al, hl, hw⟩
    obtain ⟨x, hx, rx⟩ := a.got hu
    obtain ⟨h1, h2⟩ := List.getElem?_eq_some_iff.mp hx
    have e' : zs.drop i = x :: zs.drop (i + 1) := by rw [← h2]; exact List.drop_eq_getElem_cons h1
    rw [e'] at hw
    refine turn _ _ x u F' H' _ q (List.mem_of_getElem? hx) (b.mono q.g rx) hw (fun y z F2 H2 s ry hR => ?_) (fun F2 H2 s hR => ?_)
    · have xc2 := xc.step s
      exact ⟨ac, xc2.h, by rw [al.len]; exact small_len (by omega), F2, ac ++ [y], ys ++ [z], (q.tr s).set xc2, xc2.set, (al.mono s.g).snoc ry, by rw [List.length_append]; exact Nat.succ_le_succ hl, hR⟩
    · exact ⟨F2, ac, ys, q.tr s, xc.step s, al.mono s.g, Nat.le_succ_of_le hl, by simpa using hR⟩
  · rintro H' ⟨F', ac, ys, q, xc, al, hl, hw⟩
    rw [List.drop_of_length_le (by rw [a.len]; exact Nat.le_refl _)] at hw
    exact done D ys F' H' hD q ⟨ac, ⟨w.h.non hD, xc.n, xc.h⟩, al⟩ hw
theorem w_compL {tc : TT} {vs : List Nat} {bd : β → (Option α → Prop) → Prop} {kk : List α → Prop} (r : (pL b).r F v zs) (w : Wf F0 H0 F H) (hn : zs.length < 1000000) (hW : compW zs bd kk)
    (turn : ∀ (Qy : V → Hp → Prop) (Qn : Hp → Prop) x u F1 H1 (R : Option α → Prop), Wf F H F1 H1 → x ∈ zs → b.r F1 u x → bd x R → (∀ y z F2 H2, Wf F1 H1 F2 H2 → e.r F2 y z → R (some z) → Qy y H2) → (∀ F2 H2, Wf F1 H1 F2 H2 → R none → Qn H2) →
      g u (wipe σ vs) H1 fun σ2 H2 => wipe σ2 vs = wipe σ vs ∧ tc σ2 H2 fun b H3 => if b = true then te σ2 H3 Qy else Qn H3)
    (done : ∀ p ys F' H', H p = none → Wf F H F' H' → XL e H0 F' H' p ys → kk ys → Q (.ref p) H') :
    kCpL K g tc te vs σ Q v H := by
  obtain ⟨p, ws, rfl, hp, a⟩ := r
  exact w_compC (w.f _ _ hp) a w hn hW turn done
theorem w_compX {tc : TT} {vs : List Nat} {bd : β → (Option α → Prop) → Prop} {kk : List α → Prop} (r : XL b H0 F H p zs) (w : Wf F0 H0 F H) (hn : zs.length < 1000000) (hW : compW zs bd kk)
    (turn : ∀ (Qy : V → Hp → Prop) (Qn : Hp → Prop) x u F1 H1 (R : Option α → Prop), Wf F H F1 H1 → x ∈ zs → b.r F1 u x → bd x R → (∀ y z F2 H2, Wf F1 H1 F2 H2 → e.r F2 y z → R (some z) → Qy y H2) → (∀ F2 H2, Wf F1 H1 F2 H2 → R none → Qn H2) →
      g u (wipe σ vs) H1 fun σ2 H2 => wipe σ2 vs = wipe σ vs ∧ tc σ2 H2 fun b H3 => if b = true then te σ2 H3 Qy else Qn H3)
    (done : ∀ p ys F' H', H p = none → Wf F H F' H' → XL e H0 F' H' p ys → kk ys → Q (.ref p) H') :
    kCpL K g tc te vs σ Q (V.ref p) H := by
  obtain ⟨ws, hp, a⟩ := r.rd
  exact w_compC hp a w hn hW turn done
theorem w_compR {tc : TT} {vs : List Nat} {n : Nat} {bd : Nat → (Option α → Prop) → Prop} {kk : List α → Prop} (w : Wf F0 H0 F H) (hn : n < 1000000) (hW : compW (List.range n) bd kk)
    (turn : ∀ (Qy : V → Hp → Prop) (Qn : Hp → Prop) (x : Nat) F1 H1 (R : Option α → Prop), Wf F H F1 H1 → x < n → bd x R → (∀ y z F2 H2, Wf F1 H1 F2 H2 → e.r F2 y z → R (some z) → Qy y H2) → (∀ F2 H2, Wf F1 H1 F2 H2 → R none → Qn H2) →
      g (.int (x : Int)) (wipe σ vs) H1 fun σ2 H2 => wipe σ2 vs = wipe σ vs ∧ tc σ2 H2 fun b H3 => if b = true then te σ2 H3 Qy else Qn H3)
    (done : ∀ p ys F' H', H p = none → Wf F H F' H' → XL e H0 F' H' p ys → kk ys → Q (.ref p) H') :
    kCpR g tc te vs σ Q (.int (n : Int)) H := by
  unfold kCpR
  refine ⟨(n : Int), rfl, by omega, by omega, fun D hD => lc_range (lo := 0) (n := n) (fun i H' => ∃ F' ac ys, Wf F H F' H' ∧ Xc H F' H' D (.lst ac) ∧ All e F' ac ys ∧ ys.length ≤ i ∧ compG ((List.range n).drop i) ys bd kk)
    ⟨F, [], [], Wf.newX w.f hD, Xc.mk' (Wf.id w.f) hD, trivial, Nat.le_refl _, hW⟩ ?_ ?_⟩
  · rintro i H' hi ⟨F', ac, ys, q, xc, al, hl, hw⟩
    have e' : (List.range n).drop i = i :: (List.range n).drop (i + 1) := by
      have h1 : i < (List.range n).length := by rw [List.length_range]; exact hi
      rw [List.drop_eq_getElem_cons h1, List.getElem_range]
    rw [e'] at hw
    have z : (0 : Int) + (i : Int) = (i : Int) := Int.zero_add _
    rw [z]
    refine turn _ _ i F' H' _ q hi hw (fun y z F2 H2 s ry hR => ?_) (fun F2 H2 s hR => ?_)
    · have xc2 := xc.step s
      exact ⟨ac, xc2.h, by rw [al.len]; exact small_len (by omega), F2, ac ++ [y], ys ++ [z], (q.tr s).set xc2, xc2.set, (al.mono s.g).snoc ry, by rw [List.length_append]; exact Nat.succ_le_succ hl, hR⟩
    · exact ⟨F2, ac, ys, q.tr s, xc.step s, al.mono s.g, Nat.le_succ_of_le hl, by simpa using hR⟩
  · rintro H' ⟨F', ac, ys, q, xc, al, hl, hw⟩
    rw [List.drop_of_length_le (by rw [List.length_range]; exact Nat.le_refl _)] at hw
    exact done D ys F' H' hD q ⟨ac, ⟨w.h.non hD, xc.n, xc.h⟩, al⟩ hw
end
end Wk

namespace Wk
open PySem L2
section
variable {X : Cx} {σ : L2.St} {H : Hp} {te tl ta tb : TE} {tt tc : TT} {tA : TA} {Q : VK} {v w x y z : V} {D : Ends} {tu : TS} {g : TG} {K : PySem.W.Frag} {p q : Prop}
theorem f_L (h : Val tl σ H v) (k : ∃ a, v = .ref a ∧ (∃ xs, SqL K H a xs) ∧ (fun J H1 => ∃ W : Nat → Nat → L2.St → Hp → Prop, (∃ m, W 0 m σ H1) ∧ ∀ i m σ H, W i m σ H →
      (J.stop i H ∧ D.nx σ H) ∨ (J.go i H ∧ ∃ N : L2.St → Hp → Prop, (∀ σ' H', N σ' H' → ∃ m', m' < m ∧ W (i + 1) m' σ' H') ∧ ∀ x H', J.yld i H x H' → g x σ H' fun σ2 H2 => tu { D with nx := N, ct := N, bk := D.nx } σ2 H2)) (Itl K a) H) : tFor (iList K tl) g tu D σ H := h _ k
theorem f_LE (h : tl σ H fun v H => ∃ a, v = .ref a ∧ (∃ xs, SqL K H a xs) ∧ (fun J H1 => ∃ W : Nat → Nat → L2.St → Hp → Prop, (∃ m, W 0 m σ H1) ∧ ∀ i m σ H, W i m σ H →
      (J.stop i H ∧ D.nx σ H) ∨ (J.go i H ∧ ∃ N : L2.St → Hp → Prop, (∀ σ' H', N σ' H' → ∃ m', m' < m ∧ W (i + 1) m' σ' H') ∧ ∀ x H', J.yld i H x H' → g x σ H' fun σ2 H2 => tu { D with nx := N, ct := N, bk := D.nx } σ2 H2)) (Itl K a) H) : tFor (iList K tl) g tu D σ H := h
theorem f_R (h : Val te σ H v) (k : ∃ j : Int, [v] = [.int j] ∧ -(2 ^ 62) ≤ j ∧ j < 2 ^ 62 ∧ (fun J H1 => ∃ W : Nat → Nat → L2.St → Hp → Prop, (∃ m, W 0 m σ H1) ∧ ∀ i m σ H, W i m σ H →
      (J.stop i H ∧ D.nx σ H) ∨ (J.go i H ∧ ∃ N : L2.St → Hp → Prop, (∀ σ' H', N σ' H' → ∃ m', m' < m ∧ W (i + 1) m' σ' H') ∧ ∀ x H', J.yld i H x H' → g x σ H' fun σ2 H2 => tu { D with nx := N, ct := N, bk := D.nx } σ2 H2)) (Itr 0 j.toNat) H) : tFor (iRng1 (tCons te tNil)) g tu D σ H := h _ k
theorem f_RE (h : te σ H fun v H => ∃ j : Int, [v] = [.int j] ∧ -(2 ^ 62) ≤ j ∧ j < 2 ^ 62 ∧ (fun J H1 => ∃ W : Nat → Nat → L2.St → Hp → Prop, (∃ m, W 0 m σ H1) ∧ ∀ i m σ H, W i m σ H →
      (J.stop i H ∧ D.nx σ H) ∨ (J.go i H ∧ ∃ N : L2.St → Hp → Prop, (∀ σ' H', N σ' H' → ∃ m', m' < m ∧ W (i + 1) m' σ' H') ∧ ∀ x H', J.yld i H x H' → g x σ H' fun σ2 H2 => tu { D with nx := N, ct := N, bk := D.nx } σ2 H2)) (Itr 0 j.toNat) H) : tFor (iRng1 (tCons te tNil)) g tu D σ H := h
theorem c_LE {vs : List Nat} (h : tl σ H (kCpL K g tc te vs σ Q)) : tLc (iList K tl) g tc te vs σ H Q := h
theorem c_RE {vs : List Nat} (h : ta σ H (kCpR g tc te vs σ Q)) : tLc (iRng1 (tCons ta tNil)) g tc te vs σ H Q := h
theorem c_yes {A B : Hp → Prop} (h : A H) : tYes σ H fun b H3 => if b = true then A H3 else B H3 := by show if true = true then A H else B H; rw [if_pos rfl]; exact h
theorem c_if [Decidable p] {A B : Hp → Prop} (h : Ans tt σ H (decide p)) (h1 : p → A H) (h2 : ¬ p → B H) : tt σ H fun b H3 => if b = true then A H3 else B H3 := h _ (by
  by_cases hp : p
  · rw [decide_eq_true hp, if_pos rfl]; exact h1 hp
  · rw [decide_eq_false hp, if_neg (by simp)]; exact h2 hp)
theorem b_if {p : Prop} [Decidable p] {A B : Prop} (h1 : p → A) (h2 : ¬ p → B) : if decide p = true then A else B := by
  by_cases hp : p
  · rw [decide_eq_true hp, if_pos rfl]; exact h1 hp
  · rw [decide_eq_false hp, if_neg (by simp)]; exact h2 hp
theorem bb_if {b : Bool} {A B : Prop} (h1 : b = true → A) (h2 : ¬ b = true → B) : if b = true then A else B := by
  by_cases hp : b = true
  · rw [if_pos hp]; exact h1 hp
  · rw [if_neg hp]; exact h2 hp
theorem e_op {r : R2} (h : ta σ H fun x H1 => tb σ H1 fun y H2 => r x y H2 Q) : tOp r ta tb σ H Q := h
theorem rv2 {r : R2} (h : Val (tOp r (tC x) (tC y)) [] H z) (q : Q z H) : r x y H Q := h Q q
theorem rv2T {r : R2} {b : Bool} {Qt : Bool → Hp → Prop} (h : Val (tOp r (tC x) (tC y)) [] H (.bl b)) (q : Qt b H) : r x y H (fun x H' => ∃ k, x = .bl k ∧ Qt k H') := h _ ⟨b, rfl, q⟩
theorem rcb1 {r : List V → Hp → VK → Prop} (h : Val (tCB r (tCons (tC x) tNil)) [] H z) (q : Q z H) : r [x] H Q := h Q q
theorem rcb2 {r : List V → Hp → VK → Prop} (h : Val (tCB r (tCons (tC x) (tCons (tC y) tNil))) [] H z) (q : Q z H) : r [x, y] H Q := h Q q
theorem e_cb {r : List V → Hp → VK → Prop} (h : tA σ H fun vs H1 => r vs H1 Q) : tCB r tA σ H Q := h
theorem e_tB {Qt : Bool → Hp → Prop} (h : te σ H fun x H1 => ∃ c, x = .bl c ∧ Qt c H1) : tB te σ H Qt := h
theorem e_tT {Qt : Bool → Hp → Prop} (h : te σ H fun x H1 => ∃ c, x = .bl c ∧ Qt c H1) : tTest te σ H Qt := h
theorem e_bl {Qt : Bool → Hp → Prop} {b : Bool} (h : Qt b H) : ∃ c, V.bl b = .bl c ∧ Qt c H := ⟨b, rfl, h⟩
theorem e_tNot {Qt : Bool → Hp → Prop} (h : tt σ H fun c H1 => Qt (!c) H1) : tNot tt σ H Qt := h
theorem e_ans {Qt : Bool → Hp → Prop} {b : Bool} (h : Ans tt σ H b) (q : Qt b H) : tt σ H Qt := h Qt q
theorem e_tup (h : tA σ H (kTup Q)) : tTup tA σ H Q := h
theorem e_lst (h : tA σ H (kLst Q)) : tLst tA σ H Q := h
theorem a_asgG (h : te σ H fun v H1 => g v σ H1 D.nx) : tAsg te g D σ H := h
theorem a_augE {i : Nat} {ti : TIp} (hx : σ[i]? = some (some x)) (h : te σ H fun y H1 => ti x y H1 fun z H2 => D.nx (σ.set i (some z)) H2) : tAug i te ti D σ H := ⟨x, hx, h⟩
theorem a_augV {i : Nat} {ti : TIp} (hx : σ[i]? = some (some x)) (h : Val te σ H y) (hv : Val (tOp ti (tC x) (tC y)) [] H z) (q : D.nx (σ.set i (some z)) H) : tAug i te ti D σ H := ⟨x, hx, h _ (hv _ q)⟩
theorem XL.base {α : Type} {e : Rep α} {F0 H0 F F' H' : Hp} {p : Addr} {xs : List α} (x : XL e H F' H' p xs) (w : Wf F0 H0 F H) : XL e H0 F' H' p xs := let ⟨vs, a, b⟩ := x.x; ⟨vs, ⟨w.h.non a.z, a.n, a.h⟩, b⟩
end
/-- a def that may be called -/
structure Fn (P : Program) (w : World) (K : PySem.W.Frag) (mg : Str → Option Value) (base : Heap) (CX : CXT) (k : Nat) (x : Str) (ps : List Str) (sp : Sp) : Prop where
  ex : ∃ f fd, FnOk P w K mg base CX k f fd ps sp ∧ mg x = some (.ref f) ∧ PySem.W.keepIn K (.ref f) = true ∧ Binds K fd ps []
theorem pe_fn {X : Cx} {k : Nat} {x : Str} {ps : List Str} {sp : Sp} {e : Expr} {es : List Expr} {p pos : Pos} {t : TA} (C : Fn X.prog X.w X.K X.mg X.base CX0 k x ps sp) (hr : Room k X.A) (hg : Gl X x) (ha : PA X (e :: es) t) (hdb : (x == ("__debug__" : Str)) = false := by decide)
    (he : starEach (e :: es) X.env = (false, eval e X.env) :: starEach es X.env := by rfl) (hpl : (backTo pos (starEach es X.env)).any (·.1) = false := by rfl) : PE X (.Call (.Name x p) (e :: es) [] pos) (tCall sp [] E0 t) := by
  obtain ⟨f, fd, F, hm, hk, hb⟩ := C.ex
  exact pe_call F hr hg hm hk hb .nil pass0 ha hdb he hpl
theorem pe_fn0 {X : Cx} {k : Nat} {x : Str} {ps : List Str} {sp : Sp} {p pos : Pos} (C : Fn X.prog X.w X.K X.mg X.base CX0 k x ps sp) (hr : Room k X.A) (hg : Gl X x) (hdb : (x == ("__debug__" : Str)) = false := by decide) : PE X (.Call (.Name x p) [] [] pos) (tCall sp [] E0 tNil) := by
  obtain ⟨f, fd, F, hm, hk, hb⟩ := C.ex
  exact pe_call0 F hr hg hm hk hb .nil pass0 hdb
end Wk

namespace Wk
open PySem L2
theorem dec_and {p q : Prop} [Decidable p] [Decidable q] : (decide p && decide q) = decide (p ∧ q) := by
  by_cases hp : p
  · by_cases hq : q
    · rw [decide_eq_true hp, decide_eq_true hq, decide_eq_true (And.intro hp hq)]; rfl
    · rw [decide_eq_false hq, decide_eq_false (fun z : p ∧ q => hq z.2), Bool.and_false]
  · rw [decide_eq_false hp, decide_eq_false (fun z : p ∧ q => hp z.1), Bool.false_and]
theorem dec_tt {b : Bool} : b = decide (b = true) := by cases b <;> rfl
theorem dec_T : true = decide True := rfl
theorem dec_F : false = decide False := rfl
section
variable {α β : Type} {e : Rep α} {f : Rep β} {K : PySem.W.Frag} {σ : L2.St} {F0 H0 F F' H H' : Hp} {te ta tb : TE} {Q : VK} {v w u : V} {xs : List α} {p : Addr} {i : Int} {n : Nat} {x : V}
/-- bit_length -/
def bits (n : Nat) : Nat := if n = 0 then 0 else n.log2 + 1
theorem bits_int (n : Nat) : Builtin.Int.intBits (n : Int) = bits n := by
  unfold Builtin.Int.intBits bits
  by_cases h : n = 0
  · subst h; rfl
  · rw [if_neg (show ¬ (((n : Nat) : Int) == 0) = true by simpa using h), if_neg h]; rfl
theorem vn_bitl (ha : Val ta σ H (.int (n : Int))) : Val (tBits ta) σ H (.int ((bits n : Nat) : Int)) := fun _ k => ha _ ⟨_, rfl, by rw [bits_int]; exact k⟩
theorem v_isi {b : Bool} {cn tn : String} (ha : Val ta σ H x) (ty : TyX K H x (.type tn)) (h : kitB tn cn = some b) : Val (tCB (rIsi K) (tCons ta (tCons (tC (.ty cn)) tNil))) σ H (.bl b) := fun Q k => ha _ ⟨x, .ty cn, _, _, b, rfl, .ty cn, ty, kit_ty h, k⟩
theorem ty_L (r : (pL e).r F v xs) (f : Ex F H) : TyX K H v (.type "list") := by obtain ⟨p, vs, rfl, hp, _⟩ := r; exact .base (.lst (f _ _ hp))
theorem ty_TL (r : (pTL e).r F v xs) (f : Ex F H) : TyX K H v (.type "tuple") := by obtain ⟨p, vs, rfl, hp, _⟩ := r; exact .base (.tup (f _ _ hp))
theorem ty_T2 {z : α × β} (r : (pT2 e f).r F v z) (h : Ex F H) : TyX K H v (.type "tuple") := by obtain ⟨p, _, _, rfl, hp, _⟩ := r; exact .base (.tup (h _ _ hp))
theorem ty_X (r : XL e H0 F H p xs) : TyX K H (.ref p) (.type "list") := by obtain ⟨vs, hp, _⟩ := r.rd; exact .base (.lst hp)
def rInt1 : List V → Hp → VK → Prop := fun xs H Q => (∃ i, xs = [.int i] ∧ Q (.int i) H) ∨ ∃ k, xs = [.bl k] ∧ Q (.int (if k then 1 else 0)) H
theorem v_intI (ha : Val ta σ H (.int i)) : Val (tCB rInt1 (tCons ta tNil)) σ H (.int i) := fun _ k => ha _ (.inl ⟨i, rfl, k⟩)
theorem v_intB {b : Bool} (ha : Val ta σ H (.bl b)) : Val (tCB rInt1 (tCons ta tNil)) σ H (.int ((b.toNat : Nat) : Int)) := fun _ k => ha _ (.inr ⟨b, rfl, by cases b <;> exact k⟩)
end
end Wk

namespace Wk
open PySem L2
/-! ### readings by short names -/
abbrev kAdd : R2 := L2.rI0 fun i j => .int (i + j)
abbrev kSub : R2 := L2.rI0 fun i j => .int (i - j)
abbrev kMul : R2 := L2.rI CMul fun i j => .int (i * j)
abbrev kMulX : R2 := L2.rI CMulX fun i j => .int (i * j)
abbrev kDiv : R2 := L2.rI CDivW fun i j => .int (i / j)
abbrev kMod : R2 := L2.rI (fun _ j => 0 < j) fun i j => .int (i % j)
abbrev kPow : R2 := L2.rI CPow fun i j => .int (i ^ j.toNat)
abbrev kShl : R2 := L2.rI CShl fun i j => .int (i * 2 ^ j.toNat)
abbrev kShr : R2 := L2.rI (fun _ j => 0 ≤ j) fun i j => .int (i / 2 ^ j.toNat)
abbrev kAnd : R2 := L2.rI0 fun i j => .int (Builtin.bitAnd i j)
abbrev kOr : R2 := L2.rI0 fun i j => .int (Builtin.bitOr i j)
abbrev kXor : R2 := L2.rI0 fun i j => .int (Builtin.bitXor i j)
abbrev kLt : R2 := L2.rI0 fun i j => .bl (decide (i < j))
abbrev kLe : R2 := L2.rI0 fun i j => .bl (decide (i ≤ j))
abbrev kGt : R2 := L2.rI0 fun i j => .bl (decide (j < i))
abbrev kGe : R2 := L2.rI0 fun i j => .bl (decide (j ≤ i))
abbrev kNeg : V → Hp → VK → Prop := L2.rU fun i => .int (-i)
def rLenS : List V → Hp → VK → Prop := fun xs H Q => ∃ z, xs = [.str z] ∧ z.length ≤ sizeLine ∧ Q (.int z.length) H
def rListOf (K : PySem.W.Frag) : List V → Hp → VK → Prop := fun xs H Q => ∃ p ys, xs = [.ref p] ∧ (SqL K H p ys ∨ SqT K H p ys) ∧ ∀ l, H l = none → Q (.ref l) (upd H l (.lst ys))
section
variable {α β : Type} {e : Rep α} {f : Rep β} {K : PySem.W.Frag} {σ : L2.St} {F0 H0 F F' H H' : Hp} {te ta tb : TE} {Q : VK} {v w u : V} {xs ys : List α} {p q : Addr} {i : Int} {n a b : Nat} {x : V} {tl th : TO}
theorem len_Str {s : Str} (h : s.length < 1000000) (ha : Val ta σ H (.str s)) : Val (tCB rLenS (tCons ta tNil)) σ H (.int ((s.length : Nat) : Int)) := fun _ k => ha _ ⟨s, rfl, Nat.le_of_lt (small_len h), k⟩
theorem XL.frzO (x : XL e H0 F H q xs) (h : Fz F F' p) (hq : q ≠ p) (g : Ex F F') : XL e H0 F' H q xs := let ⟨vs, a, b⟩ := x.x; ⟨vs, ⟨a.z, h _ hq a.n, a.h⟩, b.mono g⟩
/-- list(xs): a new one -/
theorem n_listX (r : (pL e).r F v xs) (w : Wf F0 H0 F H) (k : ∀ p H', H p = none → Wf F H F H' → XL e H0 F H' p xs → Q (.ref p) H') : rListOf K [v] H Q := by
  obtain ⟨p, vs, rfl, hp, a⟩ := r
  exact ⟨p, vs, rfl, .inl (SqL.of (w.f _ _ hp)), fun l hl => k l _ hl (Wf.newX w.f hl) ⟨vs, Xc.mk' w hl, a⟩⟩
theorem n_listXX (r : XL e H0 F H q xs) (w : Wf F0 H0 F H) (k : ∀ p H', H p = none → Wf F H F H' → XL e H0 F H' p xs → Q (.ref p) H') : rListOf K [.ref q] H Q := by
  obtain ⟨vs, hp, a⟩ := r.rd
  exact ⟨q, vs, rfl, .inl (SqL.of hp), fun l hl => k l _ hl (Wf.newX w.f hl) ⟨vs, Xc.mk' w hl, a⟩⟩
theorem n_listXT (r : (pTL e).r F v xs) (w : Wf F0 H0 F H) (k : ∀ p H', H p = none → Wf F H F H' → XL e H0 F H' p xs → Q (.ref p) H') : rListOf K [v] H Q := by
  obtain ⟨p, vs, rfl, hp, a⟩ := r
  exact ⟨p, vs, rfl, .inr (SqT.of (w.f _ _ hp)), fun l hl => k l _ hl (Wf.newX w.f hl) ⟨vs, Xc.mk' w hl, a⟩⟩
/-- xs + ys -/
theorem n_cat (r : (pL e).r F v xs) (s : (pL e).r F u ys) (w : Wf F0 H0 F H) (hl : xs.length + ys.length < 1000000) (k : ∀ p H', H p = none → Wf F H F H' → XL e H0 F H' p (xs ++ ys) → Q (.ref p) H') : rCat v u H Q := by
  obtain ⟨p, vs, rfl, hp, a⟩ := r
  obtain ⟨q, us, rfl, hq, b⟩ := s
  exact ⟨p, q, vs, us, rfl, rfl, w.f _ _ hp, w.f _ _ hq, by rw [a.len, b.len]; exact Nat.le_of_lt (small_len hl), fun l hl => k l _ hl (Wf.newX w.f hl) ⟨_, Xc.mk' w hl, a.app b⟩⟩
theorem All.rep (a : All e F vs' xs) : ∀ n, All e F (List.replicate n vs').flatten (List.replicate n xs).flatten
  | 0 => trivial
  | n + 1 => by rw [List.replicate_succ, List.replicate_succ, List.flatten_cons, List.flatten_cons]; exact a.app (All.rep a n)
/-- xs * n -/
theorem n_rep (r : (pL e).r F v xs) (w : Wf F0 H0 F H) (hl : xs.length * n < 1000000) (hn : n < 1000000) (k : ∀ p H', H p = none → Wf F H F H' → XL e H0 F H' p (List.replicate n xs).flatten → Q (.ref p) H') : rRep v (.int (n : Int)) H Q := by
  obtain ⟨p, vs, rfl, hp, a⟩ := r
  exact ⟨p, _, vs, rfl, rfl, w.f _ _ hp, by omega, by omega, by rw [a.len]; exact Nat.le_of_lt (small_len hl), fun l hl => k l _ hl (Wf.newX w.f hl) ⟨_, Xc.mk' w hl, All.rep a n⟩⟩
/-! slices -/
def cutT (xs : List α) (lo hi : Option Nat) : List α := match lo, hi with
  | none, none => xs
  | none, some b => xs.take b
  | some a, none => xs.drop a
  | some a, some b => (xs.drop a).take (b - a)
theorem cutV_T {ws : List V} (lo hi : Option Nat) : cutV ws (lo.map Int.ofNat) (hi.map Int.ofNat) = cutT ws lo hi := by
  have tk : ∀ (n : Nat) (l : List V), l.take (min n l.length) = l.take n := fun n l => by
    by_cases h : n ≤ l.length
    · rw [Nat.min_eq_left h]
    · rw [Nat.min_eq_right (by omega), List.take_of_length_le (Nat.le_refl _), List.take_of_length_le (by omega)]
  unfold cutV cutT
  cases lo with
  | none =>
    cases hi with
    | none => simp only [Option.map_none, HT.sIx_none, List.drop_zero, Nat.sub_zero, List.take_length]
    | some b =>
      simp only [Option.map_none, Option.map_some, HT.sIx_none, List.drop_zero, Nat.sub_zero]
      rw [show HT.sIx ws.length ws.length (some (Int.ofNat b)) = min b ws.length from HT.sIx_nat _ _ _]
      exact tk b ws
  | some a =>
    have dr : ws.drop (min a ws.length) = ws.drop a := by
      by_cases h : a ≤ ws.length
      · rw [Nat.min_eq_left h]
      · rw [Nat.min_eq_right (by omega), List.drop_of_length_le (Nat.le_refl _), List.drop_of_length_le (by omega)]
    cases hi with
    | none =>
      simp only [Option.map_none, Option.map_some, HT.sIx_none]
      rw [show HT.sIx ws.length 0 (some (Int.ofNat a)) = min a ws.length from HT.sIx_nat _ _ _, dr]
      exact List.take_of_length_le (by rw [List.length_drop]; omega)
    | some b =>
      simp only [Option.map_some]
      rw [show HT.sIx ws.length 0 (some (Int.ofNat a)) = min a ws.length from HT.sIx_nat _ _ _, show HT.sIx ws.length ws.length (some (Int.ofNat b)) = min b ws.length from HT.sIx_nat _ _ _, dr]
      by_cases h : b ≤ ws.length
      · rw [Nat.min_eq_left h]
        by_cases h' : a ≤ ws.length
        · rw [Nat.min_eq_left h']
        · rw [List.drop_of_length_le (by omega), List.take_nil, List.take_nil]
      · rw [Nat.min_eq_right (by omega)]
        rw [List.take_of_length_le (by rw [List.length_drop]; omega), List.take_of_length_le (by rw [List.length_drop]; omega)]
theorem All.cut {ws : List V} (a : All e F ws xs) (lo hi : Option Nat) : All e F (cutT ws lo hi) (cutT xs lo hi) := by
  cases lo <;> cases hi
  · exact a
  · exact a.take _
  · exact a.drop _
  · exact (a.drop _).take _
/-- the two ends of a slice -/
def Part (tl : TO) (σ : L2.St) (H : Hp) (o : Option Nat) : Prop := ∀ Q : Option Int → Hp → Prop, Q (o.map Int.ofNat) H → tl σ H Q
theorem po_n : Part tNoPart σ H none := fun _ k => k
theorem po_s (h : Val te σ H (.int (n : Int))) : Part (tPart te) σ H (some n) := fun _ k => h _ ⟨_, rfl, k⟩
theorem n_cutX {lo hi : Option Nat} (r : (pL e).r F v xs) (hv : Val te σ H v) (h1 : Part tl σ H lo) (h2 : Part th σ H hi) (w : Wf F0 H0 F H) (k : ∀ p H', H p = none → Wf F H F H' → XL e H0 F H' p (cutT xs lo hi) → Q (.ref p) H') : tSl (rSlL K) te tl th σ H Q := by
  obtain ⟨p, vs, rfl, hp, a⟩ := r
  exact hv _ (h1 _ (h2 _ ⟨p, vs, rfl, SqL.of (w.f _ _ hp), fun l hl => by
    rw [cutV_T]
    exact k l _ hl (Wf.newX w.f hl) ⟨_, Xc.mk' w hl, a.cut lo hi⟩⟩))
theorem n_cutS {lo hi : Option Nat} {zs : List Int} (r : (pScr K).r F v zs) (hv : Val te σ H v) (h1 : Part tl σ H lo) (h2 : Part th σ H hi) (w : Wf F0 H0 F H) (k : ∀ p H', H p = none → Wf F H F H' → XL pI H0 F H' p (cutT zs lo hi) → Q (.ref p) H') : tSl (rSlL K) te tl th σ H Q := by
  obtain ⟨p, rfl, s⟩ := (pScr K).mono w.f r
  exact hv _ (h1 _ (h2 _ ⟨p, _, rfl, s, fun l hl => by
    rw [cutV_T]
    exact k l _ hl (Wf.newX w.f hl) ⟨_, Xc.mk' w hl, (All.ofInts (xs := zs)).cut lo hi⟩⟩))
end
end Wk

namespace Wk
open PySem L2
section
variable {α β γ : Type} {e : Rep α} {f : Rep β} {g : Rep γ} {K : PySem.W.Frag} {σ : L2.St} {F0 H0 F F' H H' : Hp} {te ta tb to : TE} {tt : TT} {tA : TA} {Q : VK} {v w u : V} {xs ys : List α} {p q : Addr} {i : Nat} {D : Ends} {pr : Prop} {ti : TIp} {x y : V}
theorem if_t {A B : Prop} (h : A) : if true = true then A else B := by rw [if_pos rfl]; exact h
theorem if_f {A B : Prop} (h : B) : if false = true then A else B := by rw [if_neg (by simp)]; exact h
theorem b_ifn {p : Prop} [Decidable p] {A B : Prop} (h1 : p → B) (h2 : ¬ p → A) : if (!decide p) = true then A else B := by
  by_cases hp : p
  · rw [decide_eq_true hp, if_neg (by simp)]; exact h1 hp
  · rw [decide_eq_false hp, if_pos (by rfl)]; exact h2 hp
theorem bb_ifn {b : Bool} {A B : Prop} (h1 : b = true → B) (h2 : ¬ b = true → A) : if (!b) = true then A else B := by
  cases b with
  | true => rw [if_neg (by simp)]; exact h1 rfl
  | false => rw [if_pos (by rfl)]; exact h2 (by simp)
theorem nx_v {P : V → Prop} (h : v = w) (q : P v) : P w := h ▸ q
theorem nx_set {P : L2.St → Hp → Prop} {σ : L2.St} {i : Nat} {H : Hp} (h : v = w) (q : P (σ.set i (some v)) H) : P (σ.set i (some w)) H := h ▸ q
theorem g_name {R : L2.St → Hp → Prop} (h : R (σ.set i (some v)) H) : gName i v σ H R := h
theorem set_same {σ : L2.St} {i : Nat} {v : V} (h : σ[i]? = some (some v)) : σ.set i (some v) = σ := by
  refine List.ext_getElem? fun j => ?_
  rw [List.getElem?_set]
  split
  · rename_i h1
    subst h1
    split
    · exact h.symm
    · rename_i h2
      rw [List.getElem?_eq_none (by omega)] at h; cases h
  · rfl
theorem a_ifAsg [Decidable pr] (h : Ans tt σ H (decide pr)) (h1 : pr → Val te σ H v) (h2 : ¬ pr → σ[i]? = some (some v)) (q : D.nx (σ.set i (some v)) H) : tIfS tt (tAsg te (gName i)) tNext D σ H := h _ (b_if (fun hp => h1 hp _ q) fun hp => by
  have e := set_same (h2 hp)
  rw [e] at q
  exact q)
theorem a_ifAug [Decidable pr] (h : Ans tt σ H (decide pr)) (hx : σ[i]? = some (some x)) (hy : Val te σ H y) (h1 : pr → Val (tOp ti (tC x) (tC y)) [] H v) (h2 : ¬ pr → σ[i]? = some (some v)) (q : D.nx (σ.set i (some v)) H) : tIfS tt (tAug i te ti) tNext D σ H := h _ (b_if (fun hp => ⟨x, hx, hy _ (h1 hp _ q)⟩) fun hp => by
  have e := set_same (h2 hp)
  rw [e] at q
  exact q)
theorem n_tup3 {x : α} {y : β} {z : γ} (a : e.r F v x) (b : f.r F w y) (c : g.r F u z) (h : Wf F0 H0 F H) (k : ∀ p F' H', Wf F H F' H' → (pT3 e f g).r F' (.ref p) (x, y, z) → Q (.ref p) H') :
    kTup Q [v, w, u] H := ⟨Nat.le_of_lt (small_len (n := 3) (by decide)), fun p hp => k p _ _ (Wf.new h.f hp) ⟨p, v, w, u, rfl, upd_same, e.mono (Ex.new (h.f.non hp)) a, f.mono (Ex.new (h.f.non hp)) b, g.mono (Ex.new (h.f.non hp)) c⟩⟩
theorem n_tupL {vs : List V} (a : All e F vs xs) (hl : xs.length < 1000000) (w : Wf F0 H0 F H) (k : ∀ p F' H', Wf F H F' H' → (pTL e).r F' (.ref p) xs → Q (.ref p) H') :
    kTup Q vs H := ⟨by rw [a.len]; exact Nat.le_of_lt (small_len hl), fun p hp => k p _ _ (Wf.new w.f hp) ⟨p, vs, rfl, upd_same, a.mono (Ex.new (w.f.non hp))⟩⟩
theorem m_list {r : V → List V → Hp → VK → Prop} (z : XL e H0 F H p xs) (ho : Val to σ H (.ref p)) (k : tA σ H fun vs H2 => r (.ref p) vs H2 Q) : tBM K "list" r to tA σ H Q := ho _ ⟨let ⟨_, a, _⟩ := z.x; Or.inl ⟨rfl, _, Or.inl (Or.inl a.h)⟩, k⟩
theorem a_clr (x : XL e H0 F H p xs) (w : Wf F0 H0 F H) (k : ∀ H', Wf F0 H0 F H' → XL e H0 F H' p [] → (∀ q o, H q = some o → q ≠ p → H' q = some o) → Q .non H') : rClear (.ref p) [] H Q := by
  obtain ⟨vs, a, b⟩ := x.x
  exact ⟨p, vs, rfl, rfl, a.h, k _ (w.set a) ⟨_, a.set, trivial⟩ fun q o h hq => by rw [upd_ne hq]; exact h⟩
theorem a_ext (x : XL e H0 F H p xs) (r : (pL e).r F v ys) (w : Wf F0 H0 F H) (hl : xs.length + ys.length < 1000000) (k : ∀ H', Wf F0 H0 F H' → XL e H0 F H' p (xs ++ ys) → (∀ q o, H q = some o → q ≠ p → H' q = some o) → Q .non H') : rExtend (.ref p) [v] H Q := by
  obtain ⟨vs, a, b⟩ := x.x
  obtain ⟨q, us, rfl, hq, c⟩ := r
  exact ⟨p, q, vs, us, rfl, rfl, a.h, w.f _ _ hq, by rw [b.len, c.len]; exact Nat.le_of_lt (small_len hl), k _ (w.set a) ⟨_, a.set, b.app c⟩ fun q o h hq => by rw [upd_ne hq]; exact h⟩
end
end Wk

namespace Wk
open PySem L2
/-! ### dicts: their pairs in order, keys numbers or texts -/
class KeyT (κ : Type) where
  k : κ → Key
  inj : ∀ {a b : κ}, k a = k b → a = b
instance : KeyT Nat := ⟨fun n => .inl (n : Int), fun h => by have := Sum.inl.inj h; omega⟩
instance : KeyT Int := ⟨fun n => .inl n, fun h => Sum.inl.inj h⟩
instance : KeyT Str := ⟨fun n => .inr n, fun h => Sum.inr.inj h⟩
section
variable {κ α : Type} [DecidableEq κ] [KeyT κ]
def valT (m : List (κ × α)) (j : κ) : Option α := (m.find? fun q => decide (q.1 = j)).map (·.2)
def hasT (m : List (κ × α)) (j : κ) : Bool := (valT m j).isSome
def putT (m : List (κ × α)) (j : κ) (x : α) : List (κ × α) := if hasT m j = true then m.map (fun q => if q.1 = j then (q.1, x) else q) else m ++ [(j, x)]
def DA (e : Rep α) (F : Hp) : List (Key × V) → List (κ × α) → Prop
  | [], [] => True
  | p :: r, q :: s => p.1 = KeyT.k q.1 ∧ e.r F p.2 q.2 ∧ DA e F r s
  | _, _ => False
variable {e : Rep α} {F F' : Hp}
omit [DecidableEq κ] in
theorem DA.mono (h : Ex F F') : ∀ {kvs : List (Key × V)} {m : List (κ × α)}, DA e F kvs m → DA e F' kvs m
  | [], [], _ => trivial
  | _ :: _, _ :: _, ⟨a, b, c⟩ => ⟨a, e.mono h b, DA.mono h c⟩
  | [], _ :: _, q => q.elim
  | _ :: _, [], q => q.elim
theorem DA.len : ∀ {kvs : List (Key × V)} {m : List (κ × α)}, DA e F kvs m → kvs.length = m.length
  | [], [], _ => rfl
  | _ :: _, _ :: _, ⟨_, _, c⟩ => by rw [List.length_cons, List.length_cons, DA.len c]
  | [], _ :: _, q => q.elim
  | _ :: _, [], q => q.elim
theorem valT_cons {q : κ × α} {m : List (κ × α)} {j : κ} : valT (q :: m) j = if q.1 = j then some q.2 else valT m j := by
  unfold valT
  rw [List.find?_cons]
  by_cases h : q.1 = j
  · rw [if_pos h, decide_eq_true h]; rfl
  · rw [if_neg h, decide_eq_false h]
theorem DA.get : ∀ {kvs : List (Key × V)} {m : List (κ × α)} (j : κ), DA e F kvs m → (∀ x, valT m j = some x → ∃ v, valV kvs (KeyT.k j) = some v ∧ e.r F v x) ∧ (valT m j = none → valV kvs (KeyT.k j) = none)
  | [], [], _, _ => ⟨fun x h => (by cases h), fun _ => rfl⟩
  | p :: r, q :: s, j, ⟨a, b, c⟩ => by
    obtain ⟨ih1, ih2⟩ := DA.get j c
    rw [valT_cons]
    by_cases h : q.1 = j
    · rw [if_pos h]
      have e1 : p.1 = KeyT.k j := by rw [a, h]
      exact ⟨fun x hx => ⟨p.2, valV_pos e1, by cases hx; exact b⟩, fun z => by cases z⟩
    · rw [if_neg h]
      have e1 : ¬ p.1 = KeyT.k j := fun z => h (KeyT.inj (a.symm.trans z))
      rw [valV_neg e1]
      exact ⟨ih1, ih2⟩
  | [], _ :: _, _, q => q.elim
  | _ :: _, [], _, q => q.elim
theorem DA.has {kvs : List (Key × V)} {m : List (κ × α)} (j : κ) (d : DA e F kvs m) : (valV kvs (KeyT.k j)).isSome = hasT m j := by
  obtain ⟨h1, h2⟩ := d.get j
  unfold hasT
  cases q : valT m j with
  | none => rw [h2 q]; rfl
  | some x => obtain ⟨v, h, _⟩ := h1 x q; rw [h]; rfl
theorem DA.app : ∀ {kvs : List (Key × V)} {m : List (κ × α)} {kvs' : List (Key × V)} {m' : List (κ × α)}, DA e F kvs m → DA e F kvs' m' → DA e F (kvs ++ kvs') (m ++ m')
  | [], [], _, _, _, h => h
  | _ :: _, _ :: _, _, _, ⟨a, b, c⟩, h => ⟨a, b, DA.app c h⟩
  | [], _ :: _, _, _, q, _ => q.elim
  | _ :: _, [], _, _, q, _ => q.elim
theorem DA.upd {v : V} {x : α} {j : κ} (r : e.r F v x) : ∀ {kvs : List (Key × V)} {m : List (κ × α)}, DA e F kvs m → DA e F (kvs.map fun kv => if kv.1 = KeyT.k j then (kv.1, v) else kv) (m.map fun q => if q.1 = j then (q.1, x) else q)
  | [], [], _ => trivial
  | p :: _, q :: _, ⟨a, b, c⟩ => by
    rw [List.map_cons, List.map_cons]
    refine ⟨?_, ?_, DA.upd r c⟩
    · by_cases h : q.1 = j
      · rw [if_pos h, if_pos (by rw [a, h])]; exact a
      · rw [if_neg h, if_neg (fun z => h (KeyT.inj (a.symm.trans z)))]; exact a
    · by_cases h : q.1 = j
      · rw [if_pos h, if_pos (by rw [a, h])]; exact r
      · rw [if_neg h, if_neg (fun z => h (KeyT.inj (a.symm.trans z)))]; exact b
  | [], _ :: _, q => q.elim
  | _ :: _, [], q => q.elim
theorem DA.put {v : V} {x : α} {j : κ} {kvs : List (Key × V)} {m : List (κ × α)} (d : DA e F kvs m) (r : e.r F v x) : DA e F (putK kvs (KeyT.k j) v) (putT m j x) := by
  unfold putK putT
  rw [valV_any, d.has j]
  by_cases h : hasT m j = true
  · rw [if_pos h, if_pos h]; exact d.upd r
  · rw [if_neg h, if_neg h]; exact d.app ⟨rfl, r, trivial⟩
end
def pD {κ α : Type} [KeyT κ] (e : Rep α) : Rep (List (κ × α)) := ⟨fun F v m => ∃ p kvs, v = .ref p ∧ F p = some (.dK kvs) ∧ DA e F kvs m, fun h ⟨p, kvs, a, b, c⟩ => ⟨p, kvs, a, h _ _ b, c.mono h⟩⟩
structure XD {κ α : Type} [KeyT κ] (e : Rep α) (H0 F H : Hp) (p : Addr) (m : List (κ × α)) : Prop where
  x : ∃ kvs, Xc H0 F H p (.dK kvs) ∧ DA e F kvs m
section
variable {κ α : Type} [DecidableEq κ] [KeyT κ] {e : Rep α} {K : PySem.W.Frag} {σ : L2.St} {F0 H0 F F' H H' : Hp} {te td ty tx tv : TE} {Q : VK} {v w y z : V} {m : List (κ × α)} {p q : Addr} {j : κ} {x : α} {D : Ends}
theorem XD.step (x : XD e H0 F H p m) (w : Wf F H F' H') : XD e H0 F' H' p m := let ⟨vs, a, b⟩ := x.x; ⟨vs, a.step w, b.mono w.g⟩
theorem XD.ne (x : XD e H0 F H p m) (h : H q = none) : p ≠ q := let ⟨_, a, _⟩ := x.x; a.ne h
theorem XD.zero (x : XD e H0 F H p m) : H0 p = none := let ⟨_, a, _⟩ := x.x; a.z
theorem XD.base (x : XD e H F' H' p m) (w : Wf F0 H0 F H) : XD e H0 F' H' p m := let ⟨vs, a, b⟩ := x.x; ⟨vs, ⟨w.h.non a.z, a.n, a.h⟩, b⟩
theorem XD.kept (x : XD e H0 F H q m) (h : ∀ q o, H q = some o → q ≠ p → H' q = some o) (hq : q ≠ p) : XD e H0 F H' q m := let ⟨vs, a, b⟩ := x.x; ⟨vs, a.kept h hq, b⟩
theorem XD.frzO (x : XD e H0 F H q m) (h : Fz F F' p) (hq : q ≠ p) (g : Ex F F') : XD e H0 F' H q m := let ⟨vs, a, b⟩ := x.x; ⟨vs, ⟨a.z, h _ hq a.n, a.h⟩, b.mono g⟩
theorem XD.frzE (x : XD e H0 F H p m) (w : Wf F0 H0 F H) : ∃ F', Wf F0 H0 F' H ∧ Ex F F' ∧ (pD e).r F' (.ref p) m ∧ Fz F F' p := by
  obtain ⟨vs, a, b⟩ := x.x
  exact ⟨_, w.freeze a, Ex.new a.n, ⟨p, vs, rfl, upd_same, b.mono (Ex.new a.n)⟩, fun q h z => by rw [upd_ne h]; exact z⟩
theorem XD.lend (x : XD e H0 F H p m) (w : Wf F0 H0 F H) : ∃ F', Ex F' H ∧ Ex F F' ∧ (pD e).r F' (.ref p) m := let ⟨F', a, b, c, _⟩ := x.frzE w; ⟨F', a.f, b, c⟩
theorem XD.rd (x : XD e H0 F H p m) : ∃ kvs, H p = some (.dK kvs) ∧ DA e F kvs m := let ⟨vs, a, b⟩ := x.x; ⟨vs, a.h, b⟩
theorem D_rd (r : (pD e).r F v m) (f : Ex F H) : ∃ p kvs, v = .ref p ∧ H p = some (.dK kvs) ∧ DA e F kvs m := let ⟨p, vs, a, b, c⟩ := r; ⟨p, vs, a, f _ _ b, c⟩
/-- {} -/
theorem n_dict (w : Wf F0 H0 F H) (k : ∀ p H', H p = none → Wf F H F H' → XD e H0 F H' p ([] : List (κ × α)) → Q (.ref p) H') : tDNewK σ H Q := fun p hp => k p _ hp (Wf.newX w.f hp) ⟨[], Xc.mk' w hp, trivial⟩
/-! reading -/
theorem in_D (r : (pD e).r F v m) (f : Ex F H) (hy : Val ty σ H (kV (KeyT.k j))) (hd : Val td σ H v) : Val (tDIn ty td) σ H (.bl (hasT m j)) := by
  obtain ⟨p, kvs, rfl, hp, a⟩ := D_rd r f
  exact fun Q k => hy _ (hd _ ⟨p, _, rfl, DGet.k hp, by rw [a.has j]; exact k⟩)
theorem in_XD (r : XD e H0 F H p m) (hy : Val ty σ H (kV (KeyT.k j))) (hd : Val td σ H (.ref p)) : Val (tDIn ty td) σ H (.bl (hasT m j)) := by
  obtain ⟨kvs, hp, a⟩ := r.rd
  exact fun Q k => hy _ (hd _ ⟨p, _, rfl, DGet.k hp, by rw [a.has j]; exact k⟩)
theorem nin_D (r : (pD e).r F v m) (f : Ex F H) (hy : Val ty σ H (kV (KeyT.k j))) (hd : Val td σ H v) : Val (tDNotIn ty td) σ H (.bl (!hasT m j)) := by
  obtain ⟨p, kvs, rfl, hp, a⟩ := D_rd r f
  exact fun Q k => hy _ (hd _ ⟨p, _, rfl, DGet.k hp, by rw [a.has j]; exact k⟩)
theorem nin_XD (r : XD e H0 F H p m) (hy : Val ty σ H (kV (KeyT.k j))) (hd : Val td σ H (.ref p)) : Val (tDNotIn ty td) σ H (.bl (!hasT m j)) := by
  obtain ⟨kvs, hp, a⟩ := r.rd
  exact fun Q k => hy _ (hd _ ⟨p, _, rfl, DGet.k hp, by rw [a.has j]; exact k⟩)
theorem ix_D (r : (pD e).r F v m) (f : Ex F H) (hx : valT m j = some x) : ∃ w, e.r F w x ∧ ∀ ⦃σ td ty⦄, Val td σ H v → Val ty σ H (kV (KeyT.k j)) → Val (tDGet td ty) σ H w := by
  obtain ⟨p, kvs, rfl, hp, a⟩ := D_rd r f
  obtain ⟨w, h1, h2⟩ := (a.get j).1 x hx
  exact ⟨w, h2, fun _ _ _ hd hy Q k => hd _ (hy _ ⟨p, w, rfl, by rw [← h1]; exact DGet.k hp, k⟩)⟩
theorem ix_XD (r : XD e H0 F H p m) (hx : valT m j = some x) : ∃ w, e.r F w x ∧ ∀ ⦃σ td ty⦄, Val td σ H (.ref p) → Val ty σ H (kV (KeyT.k j)) → Val (tDGet td ty) σ H w := by
  obtain ⟨kvs, hp, a⟩ := r.rd
  obtain ⟨w, h1, h2⟩ := (a.get j).1 x hx
  exact ⟨w, h2, fun _ _ _ hd hy Q k => hd _ (hy _ ⟨p, w, rfl, by rw [← h1]; exact DGet.k hp, k⟩)⟩
/-- d.get(k, x) -/
theorem get_XD (r : XD e H0 F H p m) (hz : e.r F z x) : ∃ w, e.r F w ((valT m j).getD x) ∧ ∀ ⦃σ td ty tx⦄, Val td σ H (.ref p) → Val ty σ H (kV (KeyT.k j)) → Val tx σ H z → Val (tDGet2 td ty tx) σ H w := by
  obtain ⟨kvs, hp, a⟩ := r.rd
  obtain ⟨h1, h2⟩ := a.get j
  have isd : IsD H p := .inl ⟨kvs, .inl hp⟩
  cases q : valT m j with
  | none => exact ⟨z, hz, fun _ _ _ _ hd hy hx Q k => hd _ ⟨p, rfl, isd, hy _ (hx _ ⟨none, by rw [← h2 q]; exact DGet.k hp, k⟩)⟩⟩
  | some x' =>
    obtain ⟨w, h3, h4⟩ := h1 x' q
    exact ⟨w, h4, fun _ _ _ _ hd hy hx Q k => hd _ ⟨p, rfl, isd, hy _ (hx _ ⟨some w, by rw [← h3]; exact DGet.k hp, k⟩)⟩⟩
theorem get_D (r : (pD e).r F v m) (f : Ex F H) (hz : e.r F z x) : ∃ w, e.r F w ((valT m j).getD x) ∧ ∀ ⦃σ td ty tx⦄, Val td σ H v → Val ty σ H (kV (KeyT.k j)) → Val tx σ H z → Val (tDGet2 td ty tx) σ H w := by
  obtain ⟨p, kvs, rfl, hp, a⟩ := D_rd r f
  obtain ⟨h1, h2⟩ := a.get j
  have isd : IsD H p := .inl ⟨kvs, .inl hp⟩
  cases q : valT m j with
  | none => exact ⟨z, hz, fun _ _ _ _ hd hy hx Q k => hd _ ⟨p, rfl, isd, hy _ (hx _ ⟨none, by rw [← h2 q]; exact DGet.k hp, k⟩)⟩⟩
  | some x' =>
    obtain ⟨w, h3, h4⟩ := h1 x' q
    exact ⟨w, h4, fun _ _ _ _ hd hy hx Q k => hd _ ⟨p, rfl, isd, hy _ (hx _ ⟨some w, by rw [← h3]; exact DGet.k hp, k⟩)⟩⟩
/-- d[k] = v, v evaluated -/
theorem d_put (r : XD e H0 F H p m) (w : Wf F0 H0 F H) (hl : m.length < 1000000) (rv : e.r F v x) (hd : Val td σ H (.ref p)) (hy : Val ty σ H (kV (KeyT.k j))) (k : ∀ H', Wf F0 H0 F H' → XD e H0 F H' p (putT m j x) → (∀ q o, H q = some o → q ≠ p → H' q = some o) → D.nx σ H') :
    (fun v H1 => td σ H1 fun x H2 => ty σ H2 fun y H3 => ∃ a H4, x = .ref a ∧ DPut H3 a y v H4 ∧ D.nx σ H4) v H := by
  obtain ⟨kvs, a, b⟩ := r.x
  exact hd _ (hy _ ⟨p, _, rfl, DPut.k a.h (by rw [b.len]; exact small_len hl), k _ (w.set a) ⟨_, a.set, b.put rv⟩ fun q o h hq => by rw [upd_ne hq]; exact h⟩)
theorem e_dput (h : tv σ H fun v H1 => td σ H1 fun x H2 => ty σ H2 fun y H3 => ∃ a H4, x = .ref a ∧ DPut H3 a y v H4 ∧ D.nx σ H4) : sDPut td ty tv D σ H := h
end
/-! ### ways of a test or a truth that meet -/
section
variable {S : Type} {σ : L2.St} {H : Hp} {te ta tb : TE} {tt tu : TT} {Q : VK} {k : Bool → Prop}
theorem e_jnT {f : (Bool → Prop) → Prop} {Qt : Bool → Hp → Prop} (hW : jn f k) (Inv : Bool → Hp → Hp → Prop)
    (h1 : ∀ N : Bool → Hp → Prop, (∀ b F' H', Inv b F' H' → k b → N b H') → f k → tt σ H N) (h2 : ∀ b F' H', Inv b F' H' → k b → Qt b H') : tt σ H Qt :=
  h1 Qt (fun b F' H' q n => h2 b F' H' q n) hW
theorem e_jnV {f : (Bool → Prop) → Prop} (hW : jn f k) (Inv : Bool → Hp → Hp → Prop)
    (h1 : ∀ N : VK, (∀ b F' H', Inv b F' H' → k b → N (.bl b) H') → f k → te σ H N) (h2 : ∀ b F' H', Inv b F' H' → k b → Q (.bl b) H') : te σ H Q :=
  h1 Q (fun b F' H' q n => h2 b F' H' q n) hW
theorem e_tAnd {Qt : Bool → Hp → Prop} (h : tt σ H fun c H1 => if c = true then tu σ H1 Qt else Qt false H1) : tAnd tt tu σ H Qt := h
theorem e_tOr {Qt : Bool → Hp → Prop} (h : tt σ H fun c H1 => if c = true then Qt true H1 else tu σ H1 Qt) : tOr tt tu σ H Qt := h
theorem e_AndV (h : ta σ H fun x H1 => ∃ c, x = .bl c ∧ if c = true then tb σ H1 Q else Q (.bl false) H1) : tAndV ta tb σ H Q := h
theorem e_OrV (h : ta σ H fun x H1 => ∃ c, x = .bl c ∧ if c = true then Q (.bl true) H1 else tb σ H1 Q) : tOrV ta tb σ H Q := h
theorem e_NotV (h : ta σ H fun x H1 => ∃ c, x = .bl c ∧ Q (.bl (!c)) H1) : tNotV ta σ H Q := h
theorem bl_if {b : Bool} {A B : Prop} (h : if b = true then A else B) : ∃ c, V.bl b = .bl c ∧ if c = true then A else B := ⟨b, rfl, h⟩
theorem bl_v {b : Bool} {A : Bool → Prop} (h : A b) : ∃ c, V.bl b = .bl c ∧ A c := ⟨b, rfl, h⟩
end
end Wk

namespace Wk
theorem dec_nt {b : Bool} : (!b) = decide (¬ (b = true)) := by cases b <;> rfl
end Wk

namespace Wk.LR
open PySem PyProof.Rows L2
section
variable {prog : Program} {w : World} {A : Around} {E : Value → Shared → Prop} {s : Shared}
theorem extend_rev {R : Result → Shared → Prop} {it l : Addr} {items : Array Value} (hh : A.handled = none) (hit : s.heap.IsRevIter it l ((items.size : Int) - 1)) (hl : s.heap.IsList l items) (hne : l ≠ it) (hn : items.size ≤ sizeLine) (S : Addr) (res : Value) {c₀ : Nat} (hS : s.heap.get? S = some { cls := .type "list", data := .seq #[] c₀ })
    (hSl : S ≠ l)
    (hR : ∀ h' tk acc' c', (∀ b o, b ≠ S → b ≠ it → s.heap.get? b = some o → h'.get? b = some o) → h'.get? S = some { cls := .type "list", dict := none, data := .seq acc' c', slots := #[] } →
      ItemsOf (fun i v => items[items.size - 1 - i]? = some v) acc' items.size → R (.ok (.ret res)) { s with heap := h', toks := tk }) :
    wpAny (model prog w) A.in1 (Builtin.List.listExtendWith (.ref S) (.ref it) res)
      (fun fin s' => match fin with | .done f => R (.ok f) s' | .again c' => c'.quiet = true ∧ codeAny (model prog w) A c' R s') (fun e s' => R (.error e) s') s := by
  have hT : s.TypeIs (.ref it) "list_reverseiterator" := Heap.IsRevIter.typeIs hit
  have hSi : S ≠ it := fun e => by
    obtain ⟨o, ho, hc⟩ := hT
    rw [← e, hS] at ho; cases ho
    simp at hc
  have W := (Walks.listRev (prog := prog) (w := w) (A := A.in1) hh it l hne items).toS
  have hSf : S ∉ [it, l] := fun hm => by
    rcases List.mem_cons.mp hm with e | hm
    · exact hSi e
    · exact hSl (List.mem_singleton.mp hm)
  have h1 : Builtin.List.listSameRef (.ref S) (.ref it) = false := by simp [Builtin.List.listSameRef, hSi]
  unfold Builtin.List.listExtendWith
  refine wpAny_bind (wpAny_typeOf hT ?_)
  rw [if_neg (by rw [h1]; decide)]
  refine wpAny_bind (wpAny_pyIter_revIter hit ?_)
  refine wpAny_bind (wpAny_holding ?_)
  unfold Builtin.List.listLengthHint
  refine wpAny_bind (wpAny_specialOf hT RT.nolen_lri ?_)
  show wpAny _ A.in1 (specialOf (Value.ref it) (Str.ofString "__length_hint__") >>= _) _ _ _
  refine wpAny_bind (wpAny_specialOf hT RT.hint_lri ?_)
  generalize hid : ("list_reverseiterator.__length_hint__" : String) = id0
  wp_delta
  rw [show splitId id0 = some ("list_reverseiterator", "__length_hint__") from by subst hid; decide +kernel]
  subst hid
  refine wpAny_bind (wpAny_isInstance (b := true) hT (by rw [isSubtype_type]; kernel_rfl) ?_)
  refine wpAny_pure ?_
  rw [if_neg (by decide)]
  have e0 : ((items.size : Nat) : Int) - 1 - ((0 : Nat) : Int) = (items.size : Int) - 1 := by omega
  refine wpAny_pure ⟨plainId_quiet F.plain_extend_loop _, codeAny_extend_loopS W hn _ hSf _ items.size 0 _ _ _ rfl (Nat.zero_le _) ⟨Nat.zero_le _, by rw [e0]; exact hit, hl⟩ hS (ItemsOf.nil _) fun s' acc' c' hm hS' hacc => ?_⟩
  rw [Moved.eq_with hm]
  refine hR s'.heap s'.toks acc' c' (fun b o hb hb2 e => hm.heap b o (fun hmem => ?_) e) hS' hacc
  rcases List.mem_cons.mp hmem with e' | hmem
  · exact hb e'
  · exact hb2 (List.mem_singleton.mp hmem)
theorem call_list_rev {Q : Value → Shared → Prop} {it l : Addr} {items : Array Value} (hh : A.handled = none) (hit : s.heap.IsRevIter it l ((items.size : Int) - 1)) (hl : s.heap.IsList l items) (hne : l ≠ it) (hn : items.size ≤ sizeLine)
    (hQ : ∀ h' tk acc' c', (∀ b o, b ≠ it → s.heap.get? b = some o → h'.get? b = some o) →
      h'.get? s.heap.objs.size = some { cls := .type "list", dict := none, data := .seq acc' c', slots := #[] } → ItemsOf (fun i v => items[items.size - 1 - i]? = some v) acc' items.size → Q (.ref s.heap.objs.size) { s with heap := h', toks := tk }) :
    wpAny (model prog w) A (call (.type "list") [.ref it]) Q E s := by
  refine callType_codes (Q₁ := fun obj s₁ => obj = .ref s.heap.objs.size ∧ s₁ = { s with heap := s.heap.push { cls := .type "list", data := .seq #[] } }) F.called_list (F.typeCall_list_1 _) F.entry_list_init
    (code_list_new _ ⟨rfl, rfl⟩) fun obj s₁ h₁ => ?_
  obtain ⟨rfl, rfl⟩ := h₁
  have hS : (s.heap.push { cls := .type "list", data := .seq #[] }).get? s.heap.objs.size = some { cls := .type "list", data := .seq #[] } := Heap.get?_push_size _ rfl
  have hlt : l < s.heap.objs.size := let ⟨o, e, _⟩ := hl; Heap.lt_size e
  have hSl : s.heap.objs.size ≠ l := fun e => by rw [← e] at hlt; exact Nat.lt_irrefl _ hlt
  refine ⟨⟨_, hS, rfl⟩, F.args_list_init_2 _ _, ?_⟩
  show wpAny _ _ (do let old ← Builtin.List.listItems (.ref s.heap.objs.size); Builtin.List.listUpdate (.ref s.heap.objs.size) (fun _ => #[]); letGo old.toList.reverse; Builtin.List.listExtendWith (.ref s.heap.objs.size) (.ref it) .none) _ _ _
  refine wpAny_bind ?_
  unfold Builtin.List.listItems
  refine wpAny_bind (wpAny_seqItems hS rfl (wpAny_pure ?_))
  show wpAny _ _ (updateSeq s.heap.objs.size (fun _ => #[]) >>= fun _ => letGo (#[] : Array Value).toList.reverse >>= fun _ => Builtin.List.listExtendWith (.ref s.heap.objs.size) (.ref it) .none) _ _ _
  refine wpAny_bind (wpAny_updateSeq hS rfl ?_)
  obtain ⟨c₂, hS₂⟩ : ∃ c, ((s.heap.push { cls := .type "list", data := .seq #[] }).update s.heap.objs.size (Obj.mapSeq (fun _ => (#[] : Array Value)))).get? s.heap.objs.size = some { cls := .type "list", data := .seq #[] c } := ⟨_, Heap.get?_update_self (Obj.mapSeq (fun _ => (#[] : Array Value))) hS rfl⟩
  have oth : ∀ b o, b ≠ s.heap.objs.size → s.heap.get? b = some o → ((s.heap.push { cls := .type "list", data := .seq #[] }).update s.heap.objs.size (Obj.mapSeq (fun _ => (#[] : Array Value)))).get? b = some o :=
    fun b o hb e => (Heap.get?_update_other _ _ (Ne.symm hb)).trans (Heap.get?_push_of_some _ e)
  have oth2 : ∀ b o, s.heap.get? b = some o → ((s.heap.push { cls := .type "list", data := .seq #[] }).update s.heap.objs.size (Obj.mapSeq (fun _ => (#[] : Array Value)))).get? b = some o := fun b o e => oth b o (Nat.ne_of_lt (Heap.lt_size e)) e
  refine wpAny_bind (wpAny_letGo ?_)
  refine extend_rev (A := A.in1) (prog := prog) (w := w) (R := wants (fun r s₂ => r = Value.none ∧ Q (Value.ref s.heap.objs.size) s₂) E) (s := { s with heap := (s.heap.push { cls := .type "list", data := .seq #[] }).update s.heap.objs.size (Obj.mapSeq (fun _ => (#[] : Array Value))) }) (c₀ := c₂) hh (hit.at fun o e => oth2 _ _ e) (hl.at fun o e => oth2 _ _ e) hne hn _ .none hS₂ hSl fun h' tk acc' c' hk hS' hacc => ?_
  exact ⟨rfl, hQ h' tk acc' c' (fun b o hb e => hk b o (Nat.ne_of_lt (Heap.lt_size e)) hb (oth2 b o e)) hS' hacc⟩
end
end Wk.LR
namespace Wk
open PySem L2 PyProof.Rows
def rLstRev (K : PySem.W.Frag) (Q : VK) (v : V) (H1 : Hp) : Prop := ∃ (a : Addr) (xs : List V), v = .ref a ∧ SqL K H1 a xs ∧ ∀ q, H1 q = none → Q (.ref q) (upd H1 q (.lst xs.reverse))
def tLstRev (K : PySem.W.Frag) (te : TE) : TE := fun σ H Q => te σ H (rLstRev K Q)
theorem All.rev {α : Type} {e : Rep α} {F : Hp} : ∀ {vs : List V} {xs : List α}, All e F vs xs → All e F vs.reverse xs.reverse
  | [], [], _ => trivial
  | _ :: _, _ :: _, ⟨a, b⟩ => by rw [List.reverse_cons, List.reverse_cons]; exact (All.rev b).snoc a
  | [], _ :: _, q => q.elim
  | _ :: _, [], q => q.elim
theorem e_lrev {K : PySem.W.Frag} {te : TE} {σ : L2.St} {H : Hp} {Q : VK} (h : te σ H (rLstRev K Q)) : tLstRev K te σ H Q := h
theorem n_lrevX {α : Type} {e : Rep α} {K : PySem.W.Frag} {F0 H0 F H : Hp} {v : V} {xs : List α} {Q : VK} (r : (pL e).r F v xs) (w : Wf F0 H0 F H) (k : ∀ p H', H p = none → Wf F H F H' → XL e H0 F H' p xs.reverse → Q (.ref p) H') : rLstRev K Q v H := by
  obtain ⟨p, vs, rfl, hp, a⟩ := r
  exact ⟨p, vs, rfl, SqL.of (w.f _ _ hp), fun l hl => k l _ hl (Wf.newX w.f hl) ⟨vs.reverse, Xc.mk' w hl, a.rev⟩⟩
theorem n_lrevXX {α : Type} {e : Rep α} {K : PySem.W.Frag} {F0 H0 F H : Hp} {q : Addr} {xs : List α} {Q : VK} (r : XL e H0 F H q xs) (w : Wf F0 H0 F H) (k : ∀ p H', H p = none → Wf F H F H' → XL e H0 F H' p xs.reverse → Q (.ref p) H') : rLstRev K Q (.ref q) H := by
  obtain ⟨vs, hp, a⟩ := r.rd
  exact ⟨q, vs, rfl, SqL.of hp, fun l hl => k l _ hl (Wf.newX w.f hl) ⟨vs.reverse, Xc.mk' w hl, a.rev⟩⟩
section
variable {X : Cx}
theorem pe_lstRev {e : Expr} {te : TE} {p p2 pos pos2 : Pos} (hc : X.calm = true) (hg : Gl X "list") (hm : X.mg "list" = none) (hg2 : Gl X "reversed") (hm2 : X.mg "reversed" = none) (he : PE X e te)
    (hs : starEach [e] X.env = (false, eval e X.env) :: starEach [] X.env := by rfl)
    (hs2 : starEach [.Call (.Name "reversed" p2) [e] [] pos2] X.env = (false, eval (.Call (.Name "reversed" p2) [e] [] pos2) X.env) :: starEach [] X.env := by rfl) :
    PE X (.Call (.Name "list" p) [.Call (.Name "reversed" p2) [e] [] pos2] [] pos) (tLstRev X.K te) := by
  refine ⟨fun pins s σ H Q I h => ?_⟩
  refine Call_ (ld_blt I hg hm PyProof.Rows.boot_list (PyProof.Rows.callWith_type1 (args_cons (Call_ (ld_blt I hg2 hm2 PyProof.Rows.boot_reversed (PyProof.Rows.callWith_type1 (args_cons (thn (he.run pins s σ H _ I h) fun u s1 ⟨v, H1, I1, r1, q1⟩ => args_nil ?_) hs) hs rfl))) hs2) hs2 rfl))
  obtain ⟨a, xs, ev, hq, q⟩ := q1
  subst ev
  obtain rfl : u = Value.ref a := r1
  obtain ⟨its, rv, p', hz⟩ := I1.list hq
  refine call_reversed_list p'.isList (args_nil ?_)
  have k0 : ∀ b o, s1.heap.get? b = some o → (s1.heap.push (revObj a ((its.toArray.size : Int) - 1))).get? b = some o := fun b o e => Heap.get?_push_of_some _ e
  have hl := p'.isList
  obtain ⟨ol, hol, _⟩ := id hl
  have hne : a ≠ s1.heap.objs.size := Nat.ne_of_lt (Heap.lt_size hol)
  have hn : its.toArray.size ≤ sizeLine := by rw [List.size_toArray, ← rv.length]; exact hz
  refine LR.call_list_rev (s := { s1 with heap := s1.heap.push (revObj a ((its.toArray.size : Int) - 1)) }) (I1.ok.hd hc) ⟨_, Heap.get?_push_size _ rfl, rfl, rfl⟩ (hl.push _) hne hn fun h' tk acc c' hk hS hi => ?_
  have hsz : (s1.heap.push (revObj a ((its.toArray.size : Int) - 1))).objs.size = s1.heap.objs.size + 1 := Heap.size_push _ _
  rw [hsz] at hS
  exact ⟨.ref (s1.heap.objs.size + 1), upd H1 (s1.heap.objs.size + 1) (.lst xs.reverse), I1.laid (t' := tk) (fun b u e => hk b u (Nat.ne_of_lt (Heap.lt_size e)) (k0 b u e)) (Nat.le_succ _) (show ObjOk X.prog X.w _ _ _ (.lst xs.reverse) from
    ⟨by rw [List.length_reverse]; exact hz, acc.toList, c', RT.vals_rev rv hi, by rw [Array.toArray_toList]; exact hS⟩), congrArg Value.ref hsz, q _ (I1.hok.fresh (Nat.le_succ _))⟩
end
end Wk
/-! Pl: plain lemmas that no law owns. -/
namespace Wk
section
variable {α β S : Type}
theorem forW_ind {xs : List α} {s : S} {body : α → S → (S → Prop) → (S → Prop) → Prop} {k : S → Prop} (P : List α → S → Prop) (h0 : P [] s)
    (hb : ∀ pre x post s nx bk, xs = pre ++ x :: post → P pre s → (∀ s', P (pre ++ [x]) s' → nx s') → (∀ s', k s' → bk s') → body x s nx bk)
    (hk : ∀ s, P xs s → k s) : forW xs s body k := by
  suffices h : ∀ (post pre : List α) (s : S), xs = pre ++ post → P pre s → forW post s body k from h xs [] s rfl h0
  intro post
  induction post with
  | nil => intro pre s e p; rw [List.append_nil] at e; subst e; exact hk s p
  | cons x post ih => intro pre s e p; exact hb pre x post s _ _ e p (fun s' p' => ih (pre ++ [x]) s' (by rw [e, List.append_assoc]; rfl) p') (fun _ h => h)
theorem forW_foldI {xs : List α} {s : S} {body : α → S → (S → Prop) → (S → Prop) → Prop} {k : S → Prop} (f : S → α → S) (I : S → Prop) (h0 : I s)
    (hb : ∀ x ∈ xs, ∀ s nx bk, I s → (I (f s x) → nx (f s x)) → body x s nx bk) (hi : ∀ x ∈ xs, ∀ s, I s → I (f s x))
    (hk : I (xs.foldl f s) → k (xs.foldl f s)) : forW xs s body k := by
  induction xs generalizing s with
  | nil => exact hk h0
  | cons x xs ih =>
    refine hb x (List.mem_cons_self ..) s _ _ h0 fun h1 => ih (s := f s x) h1 (fun y hy => hb y (List.mem_cons_of_mem _ hy)) (fun y hy => hi y (List.mem_cons_of_mem _ hy)) hk
theorem forW_fold {xs : List α} {s : S} {body : α → S → (S → Prop) → (S → Prop) → Prop} {k : S → Prop} (f : S → α → S)
    (hb : ∀ x ∈ xs, ∀ s nx bk, nx (f s x) → body x s nx bk) (hk : k (xs.foldl f s)) : forW xs s body k :=
  forW_foldI f (fun _ => True) trivial (fun x hx s nx bk _ h => hb x hx s nx bk (h trivial)) (fun _ _ _ _ => trivial) fun _ => hk
theorem forW_unit {xs : List α} {body : α → Unit → (Unit → Prop) → (Unit → Prop) → Prop} {k : Unit → Prop}
    (hb : ∀ x ∈ xs, ∀ nx bk, nx () → body x () nx bk) (hk : k ()) : forW xs () body k :=
  forW_fold (fun s _ => s) (fun x hx _ nx bk h => hb x hx nx bk h) hk
theorem compG_fm {xs : List α} {acc : List β} {b : α → (Option β → Prop) → Prop} {k : List β → Prop} (f : α → Option β) (hb : ∀ x ∈ xs, ∀ kk, kk (f x) → b x kk) (hk : k (acc ++ xs.filterMap f)) : compG xs acc b k := by
  induction xs generalizing acc with
  | nil => simpa [compG] using hk
  | cons x xs ih =>
    refine hb x (List.mem_cons_self ..) _ (ih (fun y hy => hb y (List.mem_cons_of_mem _ hy)) ?_)
    rw [List.filterMap_cons] at hk
    cases h : f x with
    | none => rw [h] at hk; simpa using hk
    | some y => rw [h] at hk; simpa using hk
theorem compW_fm {xs : List α} {b : α → (Option β → Prop) → Prop} {k : List β → Prop} (f : α → Option β) (hb : ∀ x ∈ xs, ∀ kk, kk (f x) → b x kk) (hk : k (xs.filterMap f)) : compW xs b k :=
  compG_fm f hb (by simpa using hk)
theorem compW_map {xs : List α} {b : α → (Option β → Prop) → Prop} {k : List β → Prop} (f : α → β) (hb : ∀ x ∈ xs, ∀ kk, kk (some (f x)) → b x kk) (hk : k (xs.map f)) : compW xs b k :=
  compW_fm (fun x => some (f x)) hb (by rw [show (fun x => some (f x)) = some ∘ f from rfl, List.filterMap_eq_map]; exact hk)
theorem compW_filter {xs : List α} {b : α → (Option α → Prop) → Prop} {k : List α → Prop} (p : α → Bool) (hb : ∀ x ∈ xs, ∀ kk, (p x = true → kk (some x)) → (p x = false → kk none) → b x kk) (hk : k (xs.filter p)) : compW xs b k :=
  compW_fm (fun x => if p x = true then some x else none) (fun x hx kk h => hb x hx kk (fun e => by simpa [e] using h) (fun e => by simpa [e] using h)) (by
    have : (fun x => if p x = true then some x else none) = Option.guard (fun x => p x) := by funext x; by_cases h : p x = true <;> simp [Option.guard, h]
    rw [this, List.filterMap_eq_filter]; exact hk)
theorem whileW_of {test : S → (Bool → Prop) → Prop} {body : S → (S → Prop) → (S → Prop) → Prop} {s : S} {k : S → Prop} (I : S → Prop) (μ : S → Nat) (h0 : I s)
    (hb : ∀ s, I s → test s fun b => if b = true then body s (fun s' => (μ s' < μ s ∧ I s')) k else k s) (hm : ∀ {s p q}, (∀ x, p x → q x) → (test s fun b => if b = true then body s p k else k s) → (test s fun b => if b = true then body s q k else k s)) : whileW test body s k :=
  ⟨fun m s => m = μ s ∧ I s, ⟨_, rfl, h0⟩, fun m s ⟨e, h⟩ => hm (fun s' ⟨a, b⟩ => ⟨μ s', by rw [e]; exact a, rfl, b⟩) (hb s h)⟩
theorem forW_append {xs ys : List α} {s : S} {body : α → S → (S → Prop) → (S → Prop) → Prop} {k : S → Prop} : forW (xs ++ ys) s body k = forW xs s (fun x s nx bk => body x s nx k) (fun s => forW ys s body k) := by
  induction xs generalizing s with
  | nil => rfl
  | cons x xs ih =>
    show body x s (fun s' => forW (xs ++ ys) s' body k) k = body x s (fun s' => forW xs s' _ _) k
    simp only [ih]
/-- a comprehension whose turns are told by what they may give -/
def CR (P : α → Option β → Prop) : List α → List β → Prop
  | [], ys => ys = []
  | x :: xs, ys => ∃ o ys', P x o ∧ ys = o.toList ++ ys' ∧ CR P xs ys'
theorem compG_rel {xs : List α} {acc : List β} {b : α → (Option β → Prop) → Prop} {k : List β → Prop} (P : α → Option β → Prop) (hb : ∀ x ∈ xs, ∀ kk, (∀ o, P x o → kk o) → b x kk) (hk : ∀ ys, CR P xs ys → k (acc ++ ys)) : compG xs acc b k := by
  induction xs generalizing acc with
  | nil => have := hk [] rfl; rwa [List.append_nil] at this
  | cons x xs ih =>
    refine hb x (List.mem_cons_self ..) _ fun o ho => ih (fun y hy => hb y (List.mem_cons_of_mem _ hy)) fun ys hy => ?_
    rw [List.append_assoc]
    exact hk _ ⟨o, ys, ho, rfl, hy⟩
theorem compW_rel {xs : List α} {b : α → (Option β → Prop) → Prop} {k : List β → Prop} (P : α → Option β → Prop) (hb : ∀ x ∈ xs, ∀ kk, (∀ o, P x o → kk o) → b x kk) (hk : ∀ ys, CR P xs ys → k ys) : compW xs b k := compG_rel P hb fun ys h => by rw [List.nil_append]; exact hk ys h
theorem jnI {f : (S → Prop) → Prop} {k : S → Prop} (h : f k) : jn f k := h
/-- a while loop without a measure that must be told -/
theorem whileW_ind {test : S → (Bool → Prop) → Prop} {body : S → (S → Prop) → (S → Prop) → Prop} {s : S} {k : S → Prop} (I : S → Prop) (μ : S → Nat) (h0 : I s)
    (hb : ∀ s (nx : S → Prop), I s → (∀ s', I s' → μ s' < μ s → nx s') → test s fun b => if b = true then body s nx k else k s) : whileW test body s k :=
  ⟨fun m s => m = μ s ∧ I s, ⟨_, rfl, h0⟩, fun m s ⟨e, h⟩ => hb s _ h fun s' h' hl => ⟨μ s', by rw [e]; exact hl, rfl, h'⟩⟩
end
end Wk
/-! Bt: masks as sets of bits. -/
namespace Wk
theorem halfBit (n i : Nat) : (n / 2).testBit i = n.testBit (i + 1) := by rw [Nat.testBit_add_one]
theorem half_xor (a b : Nat) : (a ^^^ b) / 2 = a / 2 ^^^ b / 2 := Nat.eq_of_testBit_eq fun i => by rw [Nat.testBit_xor, halfBit, halfBit, halfBit, Nat.testBit_xor]
theorem half_and (a b : Nat) : (a &&& b) / 2 = a / 2 &&& b / 2 := Nat.eq_of_testBit_eq fun i => by rw [Nat.testBit_and, halfBit, halfBit, halfBit, Nat.testBit_and]
/-- is the number of bits odd? -/
def par (n : Nat) : Bool := if h : n = 0 then false else xor (n.testBit 0) (par (n / 2))
termination_by n
decreasing_by omega
theorem par_zero : par 0 = false := by rw [par]; simp
theorem par_step (n : Nat) : par n = xor (n.testBit 0) (par (n / 2)) := by
  by_cases h : n = 0
  · subst h; simp [par_zero]
  · rw [par, dif_neg h]
theorem par_xor : ∀ a b : Nat, par (a ^^^ b) = xor (par a) (par b) := by
  intro a
  induction a using Nat.strongRecOn with
  | ind a ih =>
    intro b
    by_cases h : a = 0
    · subst h; simp [par_zero]
    · rw [par_step (a ^^^ b), par_step a, par_step b, half_xor, ih (a / 2) (by omega), Nat.testBit_xor]
      cases a.testBit 0 <;> cases b.testBit 0 <;> cases par (a / 2) <;> cases par (b / 2) <;> rfl
theorem par_two_pow (k : Nat) : par (2 ^ k) = true := by
  induction k with
  | zero => rw [par_step]; simp [par_zero]
  | succ k ih =>
    rw [par_step, Nat.testBit_two_pow]
    have e : 2 ^ (k + 1) / 2 = 2 ^ k := by rw [Nat.pow_succ]; omega
    rw [e, ih]; simp
/-- the places of the bits below k -/
def bl (k n : Nat) : List Nat := (List.range k).filter n.testBit
theorem mem_bl {k n j : Nat} : j ∈ bl k n ↔ j < k ∧ n.testBit j = true := by simp [bl, List.mem_filter, List.mem_range]
theorem bl_len (k n : Nat) : (bl k n).length ≤ k := by
  have := List.length_filter_le n.testBit (List.range k)
  rw [List.length_range] at this; exact this
theorem bl_nodup (k n : Nat) : (bl k n).Nodup := (List.nodup_range).filter _
theorem bl_snoc (k n : Nat) : bl (k + 1) n = bl k n ++ if n.testBit k = true then [k] else [] := by
  unfold bl
  rw [List.range_succ, List.filter_append]
  by_cases h : n.testBit k = true
  · rw [if_pos h, List.filter_cons_of_pos h]; rfl
  · rw [if_neg h, List.filter_cons_of_neg h]; rfl
theorem bl_more {p k n : Nat} (h : p ≤ k) (z : n >>> p = 0) : bl k n = bl p n := by
  induction k with
  | zero => have : p = 0 := by omega
            subst this; rfl
  | succ k ih =>
    by_cases e : p = k + 1
    · subst e; rfl
    · rw [bl_snoc, ih (by omega)]
      have : n.testBit k = false := by
        have a : (n >>> p).testBit (k - p) = n.testBit (p + (k - p)) := Nat.testBit_shiftRight ..
        rw [z, Nat.zero_testBit] at a
        rw [show p + (k - p) = k by omega] at a
        exact a.symm
      simp [this]
theorem par_bl {k : Nat} : ∀ {n : Nat}, n < 2 ^ k → par n = decide ((bl k n).length % 2 = 1) := by
  induction k with
  | zero => intro n h; have : n = 0 := by simpa using h
            subst this; simp [par_zero, bl]
  | succ k ih =>
    intro n h
    have e : (bl (k + 1) n).length = (n.testBit 0).toNat + (bl k (n / 2)).length := by
      unfold bl
      rw [List.range_succ_eq_map, List.filter_cons]
      have m : (List.map Nat.succ (List.range k)).filter n.testBit = ((List.range k).filter (n / 2).testBit).map Nat.succ := by
        rw [List.filter_map]
        congr 1
        refine List.filter_congr fun x _ => ?_
        show n.testBit (x + 1) = (n / 2).testBit x
        rw [halfBit]
      rw [m]
      cases n.testBit 0 <;> simp [List.length_map] <;> omega
    rw [par_step, ih (n := n / 2) (by rw [Nat.pow_succ] at h; omega), e]
    cases n.testBit 0
    · simp
    · simp only [Bool.toNat_true]
      by_cases q : (bl k (n / 2)).length % 2 = 1
      · simp [q]; omega
      · simp [q]; omega
/-- the mask of places, each as often as it stands there -/
def mofI (m : Nat) (ps : List Nat) : Nat := ps.foldl (fun m p => m ^^^ 2 ^ p) m
def mof (ps : List Nat) : Nat := mofI 0 ps
theorem mofI_bit (ps : List Nat) (m j : Nat) : (mofI m ps).testBit j = xor (m.testBit j) (decide (ps.count j % 2 = 1)) := by
  induction ps generalizing m with
  | nil => simp [mofI]
  | cons p ps ih =>
    show (mofI (m ^^^ 2 ^ p) ps).testBit j = _
    rw [ih, Nat.testBit_xor, Nat.testBit_two_pow, List.count_cons]
    by_cases h : p = j
    · subst h
      by_cases q : ps.count p % 2 = 1
      · simp [q]; cases m.testBit p <;> simp <;> omega
      · simp [q]; cases m.testBit p <;> simp <;> omega
    · simp [h]
theorem mof_bit (ps : List Nat) (j : Nat) : (mof ps).testBit j = decide (ps.count j % 2 = 1) := by
  unfold mof; rw [mofI_bit, Nat.zero_testBit, Bool.false_xor]
theorem mofI_xor (ps : List Nat) (m : Nat) : mofI m ps = m ^^^ mof ps := Nat.eq_of_testBit_eq fun j => by rw [mofI_bit, Nat.testBit_xor, mof_bit]
theorem mof_append (ps qs : List Nat) : mof (ps ++ qs) = mof ps ^^^ mof qs := Nat.eq_of_testBit_eq fun j => by
  rw [Nat.testBit_xor, mof_bit, mof_bit, mof_bit, List.count_append]
  by_cases a : ps.count j % 2 = 1 <;> by_cases b : qs.count j % 2 = 1 <;> simp [a, b] <;> omega
theorem mof_reverse (ps : List Nat) : mof ps.reverse = mof ps := Nat.eq_of_testBit_eq fun j => by rw [mof_bit, mof_bit, List.count_reverse]
theorem testBit_big {n k j : Nat} (h : n < 2 ^ k) (hj : k ≤ j) : n.testBit j = false := Nat.testBit_lt_two_pow (Nat.lt_of_lt_of_le h (Nat.pow_le_pow_right (by decide) hj))
theorem count_bl {k n j : Nat} : (bl k n).count j = if j < k ∧ n.testBit j = true then 1 else 0 := by
  by_cases h : j < k ∧ n.testBit j = true
  · rw [if_pos h]
    exact Nat.le_antisymm (List.nodup_iff_count.mp (bl_nodup k n) j) (List.count_pos_iff.mpr (mem_bl.mpr h))
  · rw [if_neg h]
    exact List.count_eq_zero.mpr fun z => h (mem_bl.mp z)
theorem mof_bl {k n : Nat} (h : n < 2 ^ k) : mof (bl k n) = n := Nat.eq_of_testBit_eq fun j => by
  rw [mof_bit, count_bl]
  by_cases a : j < k
  · by_cases b : n.testBit j = true <;> simp [a, b]
  · have : n.testBit j = false := testBit_big h (Nat.le_of_not_lt a)
    simp [a, this]
/-! dicts -/
section
variable {κ α : Type} [DecidableEq κ] [KeyT κ]
theorem valT_nil (j : κ) : valT ([] : List (κ × α)) j = none := rfl
theorem valT_app {m : List (κ × α)} {j i : κ} {x : α} (h : hasT m j = false) : valT (m ++ [(j, x)]) i = if j = i then some x else valT m i := by
  induction m with
  | nil => show valT [(j, x)] i = _; rw [valT_cons]
  | cons q m ih =>
    have h' : q.1 ≠ j ∧ hasT m j = false := by
      unfold hasT at h ⊢
      rw [valT_cons] at h
      by_cases e : q.1 = j
      · rw [if_pos e] at h; cases h
      · rw [if_neg e] at h; exact ⟨e, h⟩
    rw [List.cons_append, valT_cons, valT_cons, ih h'.2]
    by_cases e : q.1 = i
    · rw [if_pos e, if_pos e, if_neg]
      intro z; exact h'.1 (e.trans z.symm)
    · rw [if_neg e, if_neg e]
theorem valT_map {m : List (κ × α)} {j i : κ} {x : α} : valT (m.map fun q => if q.1 = j then (q.1, x) else q) i = if j = i ∧ hasT m j = true then some x else valT m i := by
  induction m with
  | nil => show none = _; rw [if_neg (fun z => by cases z.2)]; rfl
  | cons q m ih =>
    rw [List.map_cons, valT_cons, valT_cons, ih]
    have hh : hasT (q :: m) j = if q.1 = j then true else hasT m j := by
      unfold hasT; rw [valT_cons]
      by_cases e : q.1 = j
      · rw [if_pos e, if_pos e]; rfl
      · rw [if_neg e, if_neg e]
    rw [hh]
    by_cases e : q.1 = j
    · rw [if_pos e, if_pos e]
      by_cases f : q.1 = i
      · rw [if_pos f, if_pos ⟨e.symm.trans f, rfl⟩]
      · rw [if_neg f, if_neg (fun z => f (e.trans z.1)), if_neg (fun z => f (e.trans z.1)), if_neg f]
    · rw [if_neg e, if_neg e]
      by_cases f : q.1 = i
      · rw [if_pos f, if_neg (fun z => e (f.trans z.1.symm))]
        rw [if_pos f]
      · rw [if_neg f, if_neg f]
theorem valT_putT {m : List (κ × α)} {j i : κ} {x : α} : valT (putT m j x) i = if j = i then some x else valT m i := by
  unfold putT
  cases h : hasT m j with
  | true =>
    rw [if_pos rfl, valT_map]
    by_cases e : j = i
    · rw [if_pos ⟨e, h⟩, if_pos e]
    · rw [if_neg (fun z => e z.1), if_neg e]
  | false => rw [if_neg (by simp), valT_app h]
theorem hasT_putT {m : List (κ × α)} {j i : κ} {x : α} : hasT (putT m j x) i = (decide (j = i) || hasT m i) := by
  unfold hasT; rw [valT_putT]
  by_cases e : j = i
  · rw [if_pos e, decide_eq_true e]; rfl
  · rw [if_neg e, decide_eq_false e]; rfl
theorem hasT_iff {m : List (κ × α)} {j : κ} : hasT m j = true ↔ j ∈ m.map (·.1) := by
  induction m with
  | nil => exact ⟨fun h => (by cases h), fun h => (by cases h)⟩
  | cons q m ih =>
    unfold hasT at ih ⊢
    rw [valT_cons, List.map_cons, List.mem_cons]
    by_cases e : q.1 = j
    · rw [if_pos e]; exact ⟨fun _ => .inl e.symm, fun _ => rfl⟩
    · rw [if_neg e, ih]; exact ⟨.inr, fun h => h.resolve_left fun z => e z.symm⟩
theorem putT_len {m : List (κ × α)} {j : κ} {x : α} : (putT m j x).length ≤ m.length + 1 := by
  unfold putT
  by_cases h : hasT m j = true
  · rw [if_pos h, List.length_map]; omega
  · rw [if_neg h, List.length_append]; exact Nat.le_refl _
end
theorem NDiv_pow {k : Nat} (h : k < 9000) : NDiv (2 ^ k) := ⟨Nat.two_pow_pos k, by rw [Nat.log2_two_pow]; exact h⟩
end Wk
/-! Gf: sums of masks. -/
namespace Wk
/-! the size of a number -/
theorem bits_zero : bits 0 = 0 := rfl
theorem bits_le {n k : Nat} : bits n ≤ k ↔ n < 2 ^ k := by
  unfold bits
  by_cases h : n = 0
  · subst h; simp [Nat.two_pow_pos]
  · rw [if_neg h]
    exact ⟨fun z => (Nat.log2_lt h).mp (Nat.lt_of_succ_le z), fun z => Nat.succ_le_of_lt ((Nat.log2_lt h).mpr z)⟩
theorem lt_bits (n : Nat) : n < 2 ^ bits n := bits_le.mp (Nat.le_refl _)
theorem bits_pos {n : Nat} (h : n ≠ 0) : 0 < bits n := by unfold bits; rw [if_neg h]; exact Nat.succ_pos _
theorem bits_eq_zero {n : Nat} : bits n = 0 ↔ n = 0 := ⟨fun h => by
  by_cases e : n = 0
  · exact e
  · have := bits_pos e; omega, fun h => by subst h; rfl⟩
theorem bits_ge {n k : Nat} (h : n.testBit k = true) : k < bits n := by
  refine Nat.lt_of_not_le fun z => ?_
  rw [testBit_big (bits_le.mp z) (Nat.le_refl _)] at h; cases h
theorem bits_bit {n : Nat} (h : n ≠ 0) : n.testBit (bits n - 1) = true := by
  have hp := bits_pos h
  have h1 : n < 2 ^ (bits n - 1 + 1) := by rw [Nat.sub_add_cancel hp]; exact lt_bits n
  have h2 : 2 ^ (bits n - 1) ≤ n := by
    refine Nat.le_of_not_lt fun z => ?_
    have := bits_le.mpr z
    omega
  rw [Nat.testBit_eq_decide_div_mod_eq, decide_eq_true_iff]
  have h3 : n / 2 ^ (bits n - 1) = 1 := by
    refine Nat.le_antisymm ?_ ?_
    · refine Nat.le_of_lt_succ (Nat.div_lt_of_lt_mul ?_)
      rw [Nat.pow_succ] at h1; exact h1
    · exact (Nat.one_le_div_iff (Nat.two_pow_pos _)).mpr h2
  rw [h3]
theorem bits_of_bit {n k : Nat} (h : n.testBit k = true) (h2 : n < 2 ^ (k + 1)) : bits n = k + 1 := Nat.le_antisymm (bits_le.mpr h2) (bits_ge h)
theorem bits_xor_ne {u l : Nat} (h : bits u < bits l) : bits (u ^^^ l) = bits l := by
  have hl : l ≠ 0 := fun z => by subst z; rw [bits_zero] at h; omega
  have hp := bits_pos hl
  have e : bits l - 1 + 1 = bits l := Nat.sub_add_cancel hp
  rw [← e]
  refine bits_of_bit ?_ ?_
  · rw [Nat.testBit_xor, bits_bit hl, testBit_big (lt_bits u) (by omega)]; rfl
  · rw [e]; exact Nat.xor_lt_two_pow (Nat.lt_trans (lt_bits u) (Nat.pow_lt_pow_right (by decide) h)) (lt_bits l)
theorem bits_xor_max {u l : Nat} (h : bits u ≠ bits l) : bits (u ^^^ l) = max (bits u) (bits l) := by
  rcases Nat.lt_or_gt_of_ne h with q | q
  · rw [bits_xor_ne q, Nat.max_eq_right (Nat.le_of_lt q)]
  · rw [Nat.xor_comm, bits_xor_ne q, Nat.max_eq_left (Nat.le_of_lt q)]
theorem bits_xor_eq {u l : Nat} (h : bits u = bits l) (hu : u ≠ 0) : bits (u ^^^ l) < bits u := by
  have hl : l ≠ 0 := fun z => by subst z; rw [bits_zero] at h; exact hu (bits_eq_zero.mp h)
  have hp := bits_pos hu
  refine Nat.lt_of_le_of_ne (bits_le.mpr (Nat.xor_lt_two_pow (lt_bits u) (by rw [h]; exact lt_bits l))) fun z => ?_
  have n0 : u ^^^ l ≠ 0 := fun q => by rw [q, bits_zero] at z; omega
  have := bits_bit n0
  rw [z, Nat.testBit_xor, bits_bit hu, h, bits_bit hl] at this
  cases this
theorem xor0 {a b : Nat} (h : a ^^^ b = 0) : a = b := by
  have e : (a ^^^ b) ^^^ b = b := by rw [h, Nat.zero_xor]
  rw [Nat.xor_assoc, Nat.xor_self, Nat.xor_zero] at e; exact e
/-! sums of rows -/
def comb : List Nat → Nat → Nat
  | [], _ => 0
  | r :: rs, S => (if S.testBit 0 = true then r else 0) ^^^ comb rs (S / 2)
theorem comb_xor : ∀ (rs : List Nat) (S T : Nat), comb rs (S ^^^ T) = comb rs S ^^^ comb rs T
  | [], _, _ => by simp [comb]
  | r :: rs, S, T => by
    show (if (S ^^^ T).testBit 0 = true then r else 0) ^^^ comb rs ((S ^^^ T) / 2) = _
    rw [half_xor, comb_xor rs, Nat.testBit_xor]
    show _ = ((if S.testBit 0 = true then r else 0) ^^^ comb rs (S / 2)) ^^^ ((if T.testBit 0 = true then r else 0) ^^^ comb rs (T / 2))
    generalize comb rs (S / 2) = a
    generalize comb rs (T / 2) = b
    cases S.testBit 0 <;> cases T.testBit 0
    · simp
    · simp only [Bool.false_xor, if_true, Bool.false_eq_true, if_false, Nat.zero_xor]
      rw [← Nat.xor_assoc, ← Nat.xor_assoc, Nat.xor_comm a r]
    · simp only [Bool.xor_false, if_true, Bool.false_eq_true, if_false, Nat.zero_xor]
      rw [Nat.xor_assoc]
    · simp only [Bool.xor_self, if_true, Bool.false_eq_true, if_false, Nat.zero_xor]
      rw [Nat.xor_comm r b, ← Nat.xor_assoc, Nat.xor_assoc (r ^^^ a), ]
      rw [Nat.xor_comm r a, Nat.xor_assoc a r, ← Nat.xor_assoc r b r, Nat.xor_comm r b, Nat.xor_assoc b r r, Nat.xor_self, Nat.xor_zero]
theorem comb_zero : ∀ rs : List Nat, comb rs 0 = 0
  | [] => rfl
  | r :: rs => by show (if Nat.testBit 0 0 = true then r else 0) ^^^ comb rs (0 / 2) = 0; rw [Nat.zero_div, comb_zero rs]; simp
theorem comb_ext : ∀ {rs : List Nat} {S T : Nat}, (∀ j, j < rs.length → S.testBit j = T.testBit j) → comb rs S = comb rs T
  | [], _, _, _ => rfl
  | r :: rs, S, T, h => by
    show (if S.testBit 0 = true then r else 0) ^^^ comb rs (S / 2) = (if T.testBit 0 = true then r else 0) ^^^ comb rs (T / 2)
    rw [h 0 (by simp), comb_ext (rs := rs) (S := S / 2) (T := T / 2) fun j hj => by
      rw [halfBit, halfBit]; exact h (j + 1) (by simpa using hj)]
theorem comb_snoc : ∀ (rs : List Nat) (r S : Nat), comb (rs ++ [r]) S = comb rs S ^^^ if S.testBit rs.length = true then r else 0
  | [], r, S => by simp [comb]
  | q :: rs, r, S => by
    show (if S.testBit 0 = true then q else 0) ^^^ comb (rs ++ [r]) (S / 2) = _
    rw [comb_snoc rs, halfBit]
    show _ = ((if S.testBit 0 = true then q else 0) ^^^ comb rs (S / 2)) ^^^ _
    rw [← Nat.xor_assoc]; rfl
theorem comb_lt : ∀ {rs : List Nat} {S k : Nat}, (∀ r ∈ rs, r < 2 ^ k) → comb rs S < 2 ^ k
  | [], _, _, _ => Nat.two_pow_pos _
  | r :: rs, S, k, h => by
    refine Nat.xor_lt_two_pow ?_ (comb_lt fun x hx => h x (List.mem_cons_of_mem _ hx))
    by_cases q : S.testBit 0 = true
    · rw [if_pos q]; exact h r (List.mem_cons_self ..)
    · rw [if_neg q]; exact Nat.two_pow_pos _
theorem comb_pow_len (rs : List Nat) : comb rs (2 ^ rs.length) = 0 := by
  rw [← comb_zero rs]
  refine comb_ext fun j hj => ?_
  rw [Nat.testBit_two_pow, Nat.zero_testBit, decide_eq_false (by omega)]
theorem comb_map (f : Nat → Nat) (h0 : f 0 = 0) (hf : ∀ a b, f (a ^^^ b) = f a ^^^ f b) : ∀ (vs : List Nat) (S : Nat), comb (vs.map f) S = f (comb vs S)
  | [], _ => h0.symm
  | v :: vs, S => by
    show (if S.testBit 0 = true then f v else 0) ^^^ comb (vs.map f) (S / 2) = f ((if S.testBit 0 = true then v else 0) ^^^ comb vs (S / 2))
    rw [comb_map f h0 hf vs, hf]
    by_cases q : S.testBit 0 = true
    · rw [if_pos q, if_pos q]
    · rw [if_neg q, if_neg q, h0]
/-- the sums of the rows -/
def Span (vs : List Nat) (v : Nat) : Prop := ∃ S, comb vs S = v
theorem Span.zero (vs : List Nat) : Span vs 0 := ⟨0, comb_zero vs⟩
theorem Span.xor {vs : List Nat} {u v : Nat} : Span vs u → Span vs v → Span vs (u ^^^ v) := fun ⟨S, a⟩ ⟨T, b⟩ => ⟨S ^^^ T, by rw [comb_xor, a, b]⟩
theorem Span.low {vs : List Nat} {v : Nat} : Span vs v → ∃ S, S < 2 ^ vs.length ∧ comb vs S = v := fun ⟨S, a⟩ => ⟨S % 2 ^ vs.length, Nat.mod_lt _ (Nat.two_pow_pos _), by
  rw [← a]
  refine comb_ext fun j hj => ?_
  rw [Nat.testBit_mod_two_pow, decide_eq_true hj, Bool.true_and]⟩
theorem Span.snoc {vs : List Nat} {r v : Nat} : Span (vs ++ [r]) v ↔ Span vs v ∨ Span vs (v ^^^ r) := by
  constructor
  · rintro ⟨S, h⟩
    rw [comb_snoc] at h
    by_cases q : S.testBit vs.length = true
    · rw [if_pos q] at h
      exact .inr ⟨S, by rw [← h, Nat.xor_assoc, Nat.xor_self, Nat.xor_zero]⟩
    · rw [if_neg q, Nat.xor_zero] at h
      exact .inl ⟨S, h⟩
  · rintro (h | h)
    · obtain ⟨S, hl, e⟩ := h.low
      exact ⟨S, by rw [comb_snoc, testBit_big hl (Nat.le_refl _), e]; simp⟩
    · obtain ⟨S, hl, e⟩ := h.low
      refine ⟨S ^^^ 2 ^ vs.length, ?_⟩
      rw [comb_snoc, comb_xor, comb_pow_len, e, Nat.testBit_xor, testBit_big hl (Nat.le_refl _), Nat.testBit_two_pow, decide_eq_true rfl]
      simp [Nat.xor_assoc]
theorem Span.nil {v : Nat} : Span [] v ↔ v = 0 := ⟨fun ⟨_, h⟩ => h.symm, fun h => by subst h; exact Span.zero _⟩
theorem Span.inj {vs : List Nat} {k : Nat} (f : Nat → Nat) (h0 : f 0 = 0) (hf : ∀ a b, f (a ^^^ b) = f a ^^^ f b) (hi : ∀ a, a < 2 ^ k → f a = 0 → a = 0) (hv : ∀ v ∈ vs, v < 2 ^ k) {v : Nat} (hk : v < 2 ^ k) : Span (vs.map f) (f v) ↔ Span vs v := by
  constructor
  · rintro ⟨S, h⟩
    rw [comb_map f h0 hf] at h
    refine ⟨S, ?_⟩
    have : comb vs S ^^^ v = 0 := hi _ (Nat.xor_lt_two_pow (comb_lt hv) hk) (by rw [hf, h, Nat.xor_self])
    exact xor0 this
  · rintro ⟨S, h⟩
    exact ⟨S, by rw [comb_map f h0 hf, h]⟩
/-- masks with unlike highest bits, rising -/
def Incr (ws : List Nat) : Prop := ws.Pairwise (fun a b => bits a < bits b) ∧ ∀ w ∈ ws, w ≠ 0
theorem Incr.snoc {ws : List Nat} {w : Nat} (h : Incr ws) (hb : ∀ x ∈ ws, bits x < bits w) (h0 : w ≠ 0) : Incr (ws ++ [w]) := ⟨List.pairwise_append.mpr ⟨h.1, List.pairwise_singleton _ _, fun a ha b hb' => by rw [List.mem_singleton.mp hb']; exact hb a ha⟩, fun x hx => by
  rcases List.mem_append.mp hx with q | q
  · exact h.2 x q
  · rw [List.mem_singleton.mp q]; exact h0⟩
theorem comb_snoc_bits {ws : List Nat} {w S : Nat} (hb : ∀ x ∈ ws, bits x < bits w) : bits (comb ws S) < bits w ∨ w = 0 := by
  by_cases h : w = 0
  · exact .inr h
  · left
    have hp := bits_pos h
    refine Nat.lt_of_le_of_lt (bits_le.mpr (comb_lt (k := bits w - 1) fun x hx => ?_)) (by omega)
    have := hb x hx
    exact bits_le.mp (by omega)
theorem Incr.inj : ∀ {ws : List Nat} {S : Nat}, Incr ws → S < 2 ^ ws.length → comb ws S = 0 → S = 0 := by
  intro ws
  induction hn : ws.length generalizing ws with
  | zero => intro S _ hS _; simpa using hS
  | succ n ih =>
    intro S hI hS h
    obtain ⟨us, w, rfl⟩ : ∃ us w, ws = us ++ [w] := ⟨ws.dropLast, ws.getLast (by intro z; subst z; cases hn), (List.dropLast_concat_getLast _).symm⟩
    have hl : us.length = n := by rw [List.length_append] at hn; simpa using hn
    obtain ⟨hp, h0⟩ := hI
    rw [List.pairwise_append] at hp
    have hw : w ≠ 0 := h0 w (List.mem_append_right _ (List.mem_singleton_self _))
    have hb : ∀ x ∈ us, bits x < bits w := fun x hx => hp.2.2 x hx w (List.mem_singleton_self _)
    rw [comb_snoc, hl] at h
    by_cases q : S.testBit n = true
    · rw [if_pos q] at h
      have e := xor0 h
      rcases comb_snoc_bits (S := S) hb with z | z
      · rw [e] at z; exact absurd z (Nat.lt_irrefl _)
      · exact absurd z hw
    · rw [if_neg q, Nat.xor_zero] at h
      have hS' : S < 2 ^ n := by
        refine Nat.lt_pow_two_of_testBit _ fun j hj => ?_
        by_cases e : j = n
        · subst e; simpa using q
        · exact testBit_big hS (by omega)
      exact ih (ws := us) hl ⟨hp.1, fun x hx => h0 x (List.mem_append_left _ hx)⟩ hS' h
/-- the places of rows that are no sums of rows ahead -/
noncomputable def fndP (rs : List Nat) : List Nat := open Classical in (List.range rs.length).filter fun j => decide (¬ Span (rs.take j) (rs.getD j 0))
theorem fndP_nil : fndP [] = [] := rfl
theorem fndP_snoc (rs : List Nat) (r : Nat) : fndP (rs ++ [r]) = fndP rs ++ open Classical in if Span rs r then [] else [rs.length] := by
  classical
  unfold fndP
  rw [List.length_append, List.length_singleton, List.range_succ, List.filter_append]
  congr 1
  · refine List.filter_congr fun j hj => ?_
    have hj' := List.mem_range.mp hj
    rw [List.take_append_of_le_length (Nat.le_of_lt hj'), List.getD_eq_getElem?_getD, List.getD_eq_getElem?_getD, List.getElem?_append_left hj']
  · have e1 : (rs ++ [r]).take rs.length = rs := by rw [List.take_append_of_le_length (Nat.le_refl _), List.take_length]
    have e2 : (rs ++ [r]).getD rs.length 0 = r := by rw [List.getD_eq_getElem?_getD, List.getElem?_append_right (Nat.le_refl _), Nat.sub_self]; rfl
    by_cases q : Span rs r
    · rw [if_pos q, List.filter_cons_of_neg (by rw [e1, e2]; simpa using q)]; rfl
    · rw [if_neg q, List.filter_cons_of_pos (by rw [e1, e2]; simpa using q)]; rfl
theorem fndP_len (rs : List Nat) : (fndP rs).length ≤ rs.length := by
  unfold fndP
  have := List.length_filter_le (fun j => open Classical in decide (¬ Span (rs.take j) (rs.getD j 0))) (List.range rs.length)
  rw [List.length_range] at this; exact this
theorem fndP_congr {rs qs : List Nat} (hl : rs.length = qs.length) (h : ∀ j, j < rs.length → (Span (rs.take j) (rs.getD j 0) ↔ Span (qs.take j) (qs.getD j 0))) : fndP rs = fndP qs := by
  classical
  unfold fndP
  rw [← hl]
  refine List.filter_congr fun j hj => ?_
  rw [decide_eq_decide, h j (List.mem_range.mp hj)]
theorem fndP_map {rs : List Nat} {k : Nat} (f : Nat → Nat) (h0 : f 0 = 0) (hf : ∀ a b, f (a ^^^ b) = f a ^^^ f b) (hi : ∀ a, a < 2 ^ k → f a = 0 → a = 0) (hv : ∀ v ∈ rs, v < 2 ^ k) : fndP (rs.map f) = fndP rs := by
  refine fndP_congr (List.length_map _) fun j hj => ?_
  rw [List.length_map] at hj
  rw [← List.map_take]
  have e : (rs.map f).getD j 0 = f (rs.getD j 0) := by
    rw [List.getD_eq_getElem?_getD, List.getD_eq_getElem?_getD, List.getElem?_map, List.getElem?_eq_getElem hj]; rfl
  rw [e]
  have hm : rs.getD j 0 ∈ rs := by rw [List.getD_eq_getElem?_getD, List.getElem?_eq_getElem hj]; exact List.getElem_mem hj
  exact Span.inj f h0 hf hi (fun v hv' => hv v (List.mem_of_mem_take hv')) (hv _ hm)
/-- numbers below k, none twice: at most k of them -/
theorem nodup_len : ∀ {k : Nat} {l : List Nat}, l.Nodup → (∀ x ∈ l, x < k) → l.length ≤ k
  | 0, l, _, h => by cases l with
    | nil => exact Nat.le_refl _
    | cons x l => exact absurd (h x (List.mem_cons_self ..)) (Nat.not_lt_zero _)
  | k + 1, l, hn, h => by
    have h1 : (l.erase k).length ≤ k := nodup_len (hn.erase k) fun x hx => by
      have hm := List.mem_of_mem_erase hx
      have := h x hm
      have hk : x ≠ k := fun z => by subst z; exact (List.Nodup.not_mem_erase hn) hx
      omega
    have h2 : l.length ≤ (l.erase k).length + 1 := by
      by_cases q : k ∈ l
      · rw [List.length_erase_of_mem q]; omega
      · rw [List.erase_of_not_mem q]; omega
    omega
end Wk
/-! Po: polynomials over two elements, as masks. -/
namespace Wk
def pm (a b : Nat) : Nat := if h : b = 0 then 0 else (if b.testBit 0 = true then a else 0) ^^^ pm (2 * a) (b / 2)
termination_by b
decreasing_by omega
theorem pm_zero (a : Nat) : pm a 0 = 0 := by rw [pm]; simp
theorem pm_step (a b : Nat) : pm a b = (if b.testBit 0 = true then a else 0) ^^^ pm (2 * a) (b / 2) := by
  by_cases h : b = 0
  · subst h; simp [pm_zero]
  · rw [pm, dif_neg h]
theorem two_xor (a b : Nat) : 2 * (a ^^^ b) = 2 * a ^^^ 2 * b := Nat.eq_of_testBit_eq fun i => by
  rw [Nat.testBit_xor]
  cases i with
  | zero => simp [Nat.testBit_zero]
  | succ i => rw [Nat.testBit_add_one, Nat.testBit_add_one, Nat.testBit_add_one]; simp [Nat.testBit_xor]
theorem ifx {c : Bool} {a b : Nat} : (if c = true then a ^^^ b else 0) = (if c = true then a else 0) ^^^ (if c = true then b else 0) := by cases c <;> simp
theorem xor_swap (a b c d : Nat) : (a ^^^ b) ^^^ (c ^^^ d) = (a ^^^ c) ^^^ (b ^^^ d) := by
  rw [Nat.xor_assoc, ← Nat.xor_assoc b c d, Nat.xor_comm b c, Nat.xor_assoc c b d, ← Nat.xor_assoc]
theorem pm_xor_r (b : Nat) : ∀ a c : Nat, pm a (b ^^^ c) = pm a b ^^^ pm a c := by
  induction b using Nat.strongRecOn with
  | ind b ih =>
    intro a c
    by_cases h : b = 0
    · subst h; rw [Nat.zero_xor, pm_zero, Nat.zero_xor]
    · rw [pm_step a (b ^^^ c), pm_step a b, pm_step a c, half_xor, ih (b / 2) (by omega), Nat.testBit_xor, xor_swap]
      congr 1
      cases b.testBit 0 <;> cases c.testBit 0 <;> simp
theorem pm_xor_l (c : Nat) : ∀ a b : Nat, pm (a ^^^ b) c = pm a c ^^^ pm b c := by
  induction c using Nat.strongRecOn with
  | ind c ih =>
    intro a b
    by_cases h : c = 0
    · subst h; simp [pm_zero]
    · rw [pm_step (a ^^^ b), pm_step a c, pm_step b c, two_xor, ih (c / 2) (by omega), ifx, xor_swap]
theorem pm_dbl (b : Nat) : ∀ a, pm (2 * a) b = 2 * pm a b := by
  induction b using Nat.strongRecOn with
  | ind b ih =>
    intro a
    by_cases h : b = 0
    · subst h; simp [pm_zero]
    · rw [pm_step (2 * a), pm_step a, ih (b / 2) (by omega), two_xor]
      congr 1
      cases b.testBit 0 <;> simp
theorem pm_half (a b : Nat) : pm a b = (if b.testBit 0 = true then a else 0) ^^^ 2 * pm a (b / 2) := by rw [pm_step, pm_dbl]
theorem pm_zero_l (b : Nat) : pm 0 b = 0 := by
  induction b using Nat.strongRecOn with
  | ind b ih =>
    by_cases h : b = 0
    · subst h; exact pm_zero 0
    · rw [pm_half, ih (b / 2) (by omega)]; simp
theorem pm_one_l (b : Nat) : pm 1 b = b := by
  induction b using Nat.strongRecOn with
  | ind b ih =>
    by_cases h : b = 0
    · subst h; exact pm_zero 1
    · rw [pm_half, ih (b / 2) (by omega), Nat.testBit_zero]
      rcases Nat.mod_two_eq_zero_or_one b with e | e
      · rw [if_neg (by simp [e]), Nat.zero_xor]; omega
      · rw [if_pos (by simp [e])]
        have : 1 ^^^ 2 * (b / 2) = 2 * (b / 2) + 1 := Nat.eq_of_testBit_eq fun i => by
          rw [Nat.testBit_xor]
          cases i with
          | zero => simp [Nat.testBit_zero]
          | succ i =>
            rw [Nat.testBit_add_one, Nat.testBit_add_one, Nat.testBit_add_one]
            have a : (2 * (b / 2) + 1) / 2 = 2 * (b / 2) / 2 := by omega
            rw [a]; simp
        rw [this]; omega
theorem dbl_half (b : Nat) : b = (if b.testBit 0 = true then 1 else 0) ^^^ 2 * (b / 2) := by
  have := pm_half 1 b
  rw [pm_one_l, pm_one_l] at this; exact this
theorem pm_comm (b : Nat) : ∀ a, pm a b = pm b a := by
  induction b using Nat.strongRecOn with
  | ind b ih =>
    intro a
    by_cases h : b = 0
    · subst h; rw [pm_zero, pm_zero_l]
    · rw [pm_half a b, ih (b / 2) (by omega)]
      conv => rhs; rw [dbl_half b]
      rw [pm_xor_l, pm_dbl]
      congr 1
      cases b.testBit 0 <;> simp [pm_one_l, pm_zero_l]
theorem pm_assoc (c : Nat) : ∀ a b, pm (pm a b) c = pm a (pm b c) := by
  induction c using Nat.strongRecOn with
  | ind c ih =>
    intro a b
    by_cases h : c = 0
    · subst h; simp [pm_zero]
    · rw [pm_half (pm a b) c, pm_half b c, pm_xor_r, ih (c / 2) (by omega)]
      congr 1
      · cases c.testBit 0 <;> simp [pm_zero]
      · rw [pm_comm (2 * pm b (c / 2)), pm_dbl, pm_comm a]
theorem pm_pow (a k : Nat) : pm a (2 ^ k) = a <<< k := by
  induction k with
  | zero => rw [Nat.pow_zero, pm_comm, pm_one_l, Nat.shiftLeft_zero]
  | succ k ih =>
    rw [pm_half, Nat.testBit_two_pow, decide_eq_false (by omega), Nat.pow_succ, Nat.mul_div_cancel _ (by decide), ih]
    simp [Nat.shiftLeft_eq, Nat.pow_succ, Nat.mul_comm, Nat.mul_left_comm]
theorem bits_shl {a : Nat} (h : a ≠ 0) (k : Nat) : bits (a <<< k) = bits a + k := by
  have hp := bits_pos h
  have e : bits a + k = (bits a - 1 + k) + 1 := by omega
  rw [e]
  refine bits_of_bit ?_ ?_
  · rw [Nat.testBit_shiftLeft, decide_eq_true (by omega), Bool.true_and, show bits a - 1 + k - k = bits a - 1 by omega]
    exact bits_bit h
  · rw [Nat.shiftLeft_eq, show bits a - 1 + k + 1 = bits a + k by omega, Nat.pow_add]
    exact Nat.mul_lt_mul_of_pos_right (lt_bits a) (Nat.two_pow_pos k)
theorem bits_pm (b : Nat) : ∀ a, a ≠ 0 → b ≠ 0 → bits (pm a b) + 1 = bits a + bits b := by
  induction b using Nat.strongRecOn with
  | ind b ih =>
    intro a ha hb
    have hp := bits_pos hb
    have hpa := bits_pos ha
    generalize hk : bits b - 1 = k
    have tb : b.testBit k = true := by rw [← hk]; exact bits_bit hb
    have e : b = (b ^^^ 2 ^ k) ^^^ 2 ^ k := by rw [Nat.xor_assoc, Nat.xor_self, Nat.xor_zero]
    have bp : bits (2 ^ k) = k + 1 := bits_of_bit (by rw [Nat.testBit_two_pow]; simp) (Nat.pow_lt_pow_right (by decide) (Nat.lt_succ_self _))
    have lt : bits (b ^^^ 2 ^ k) < bits b := bits_xor_eq (by rw [bp]; omega) hb
    have ltn : b ^^^ 2 ^ k < b := by
      have h1 : b ^^^ 2 ^ k < 2 ^ k := bits_le.mp (by omega)
      have h2 : 2 ^ k ≤ b := by
        refine Nat.le_of_not_lt fun z => ?_
        have := bits_le.mpr z
        omega
      omega
    have e1 : pm a b = pm a (b ^^^ 2 ^ k) ^^^ a <<< k := by
      conv => lhs; rw [e]
      rw [pm_xor_r, pm_pow]
    have s := bits_shl ha k
    have l2 : bits (pm a (b ^^^ 2 ^ k)) < bits (a <<< k) := by
      by_cases z : b ^^^ 2 ^ k = 0
      · rw [z, pm_zero, bits_zero, s]; omega
      · have := ih _ ltn a ha z
        rw [s]; omega
    rw [e1, bits_xor_ne l2, s]; omega
theorem pm_ne {a b : Nat} (ha : a ≠ 0) (hb : b ≠ 0) : pm a b ≠ 0 := fun z => by
  have := bits_pm b a ha hb
  rw [z, bits_zero] at this
  have := bits_pos ha
  have := bits_pos hb
  omega
theorem bits_pm_le (a b : Nat) : bits (pm a b) ≤ bits a + bits b := by
  by_cases ha : a = 0
  · subst ha; rw [pm_zero_l, bits_zero]; omega
  · by_cases hb : b = 0
    · subst hb; rw [pm_zero, bits_zero]; omega
    · have := bits_pm b a ha hb; omega
/-- d goes into a -/
def Dv (d a : Nat) : Prop := ∃ q, pm q d = a
theorem Dv.zero (d : Nat) : Dv d 0 := ⟨0, pm_zero_l d⟩
theorem Dv.rfl' (d : Nat) : Dv d d := ⟨1, pm_one_l d⟩
theorem Dv.xor {d a b : Nat} : Dv d a → Dv d b → Dv d (a ^^^ b) := fun ⟨q, h⟩ ⟨r, k⟩ => ⟨q ^^^ r, by rw [pm_xor_l, h, k]⟩
theorem Dv.mul {d a : Nat} (c : Nat) : Dv d a → Dv d (pm a c) := fun ⟨q, h⟩ => ⟨pm q c, by rw [pm_assoc, pm_comm d, ← pm_assoc, h]⟩
theorem Dv.mul' {d a : Nat} (c : Nat) (h : Dv d a) : Dv d (pm c a) := by rw [pm_comm]; exact h.mul c
theorem Dv.tr {a b c : Nat} : Dv a b → Dv b c → Dv a c := fun ⟨q, h⟩ ⟨r, k⟩ => ⟨pm r q, by rw [pm_assoc, h, k]⟩
theorem Dv.le {d a : Nat} (h : Dv d a) (ha : a ≠ 0) : bits d ≤ bits a ∧ d ≠ 0 := by
  obtain ⟨q, rfl⟩ := h
  have hq : q ≠ 0 := fun z => ha (by rw [z, pm_zero_l])
  have hd : d ≠ 0 := fun z => ha (by rw [z, pm_zero])
  have := bits_pm d q hq hd
  have := bits_pos hq
  exact ⟨by omega, hd⟩
theorem Dv.eq {d a : Nat} (h : Dv d a) (hb : bits a ≤ bits d) : a = d ∨ a = 0 := by
  by_cases ha : a = 0
  · exact .inr ha
  · left
    obtain ⟨q, rfl⟩ := h
    have hq : q ≠ 0 := fun z => ha (by rw [z, pm_zero_l])
    have hd : d ≠ 0 := fun z => ha (by rw [z, pm_zero])
    have := bits_pm d q hq hd
    have q1 : bits q ≤ 1 := by omega
    have : q < 2 := bits_le.mp q1
    have : q = 1 := by omega
    rw [this, pm_one_l]
theorem Dv.anti {a b : Nat} (h : Dv a b) (k : Dv b a) : a = b := by
  by_cases hb : b = 0
  · subst hb
    obtain ⟨q, h⟩ := k
    rw [← h, pm_zero]
  · have ha : a ≠ 0 := (h.le hb).2
    rcases h.eq (k.le ha).1 with e | e
    · exact e.symm
    · exact absurd e hb
/-- the rest is one alone -/
theorem rest_one {o q r q' r' : Nat} (hr : bits r < bits o) (hr' : bits r' < bits o) (e : pm q o ^^^ r = pm q' o ^^^ r') : q = q' ∧ r = r' := by
  have e1 : pm (q ^^^ q') o = r ^^^ r' := by
    rw [pm_xor_l]
    have : (pm q o ^^^ r) ^^^ (pm q' o ^^^ r') = 0 := by rw [e, Nat.xor_self]
    rw [xor_swap] at this
    exact xor0 this
  have ho : o ≠ 0 := fun z => by rw [z, bits_zero] at hr; omega
  have hl : bits (r ^^^ r') < bits o := by
    have h1 : r < 2 ^ (bits o - 1) := bits_le.mp (by omega)
    have h2 : r' < 2 ^ (bits o - 1) := bits_le.mp (by omega)
    have := bits_le.mpr (Nat.xor_lt_two_pow h1 h2)
    omega
  by_cases hq : q ^^^ q' = 0
  · have := xor0 hq
    subst this
    rw [Nat.xor_self, pm_zero_l] at e1
    exact ⟨rfl, xor0 e1.symm⟩
  · have := bits_pm o _ hq ho
    rw [e1] at this
    have := bits_pos hq
    omega
end Wk
/-! Ob: walks of any kind, objects with fields, things that are only read. -/
namespace Wk
open PySem L2
section
variable {α β S : Type} {K : PySem.W.Frag} {σ : L2.St} {F0 H0 F F' H H' : Hp} {te tl ta tb to : TE} {tt tc : TT} {tA : TA} {Q : VK} {v w u : V} {xs ys : List α} {x y : α} {D : Ends} {tu : TS} {p q : Addr} {n : Nat} {i : Int} {g : TG} {J : It} {e : Rep α} {b : Rep β} {zs : List β} {o : HO}
/-! ### walks -/
def kFor (g : TG) (tu : TS) (D : Ends) (σ : L2.St) (J : It) (H : Hp) : Prop := ∃ W : Nat → Nat → L2.St → Hp → Prop, (∃ m, W 0 m σ H) ∧ ∀ i m σ H, W i m σ H →
  (J.stop i H ∧ D.nx σ H) ∨ (J.go i H ∧ ∃ N : L2.St → Hp → Prop, (∀ σ' H', N σ' H' → ∃ m', m' < m ∧ W (i + 1) m' σ' H') ∧ ∀ x H', J.yld i H x H' → g x σ H' fun σ2 H2 => tu { D with nx := N, ct := N, bk := D.nx } σ2 H2)
def kCp (g : TG) (tc : TT) (te : TE) (vs : List Nat) (σ : L2.St) (Q : VK) (J : It) (H : Hp) : Prop := ∀ D, H D = none → ∃ W : Nat → Nat → Hp → Prop, (∃ m, W 0 m (upd H D (.lst []))) ∧ ∀ i m H, W i m H →
  (J.stop i H ∧ Q (.ref D) H) ∨ (J.go i H ∧ ∃ Nx : Hp → Prop, (∀ H', Nx H' → ∃ m', m' < m ∧ W (i + 1) m' H') ∧ ∀ x H', J.yld i H x H' → g x (wipe σ vs) H' fun σ2 H2 => wipe σ2 vs = wipe σ vs ∧ tc σ2 H2 fun b H3 =>
    if b = true then te σ2 H3 fun y H4 => ∃ acc, H4 D = some (.lst acc) ∧ acc.length < sizeLine ∧ Nx (upd H4 D (.lst (acc ++ [y]))) else Nx H3)
/-- a walk over frozen things: its turns give the items of zs -/
def TWk (J : It) (F : Hp) (b : Rep β) (zs : List β) : Prop := ∃ G Y, Walk J zs.length G Y ∧ (∀ F' H', Ex F F' → Ex F' H' → G H') ∧
  ∀ i H x H' F', i < zs.length → Ex F F' → Ex F' H → Y i H x H' → ∃ z F1, zs[i]? = some z ∧ Wf F' H F1 H' ∧ b.r F1 x z
theorem f_J {wi : TI} (h : wi σ H (kFor g tu D σ)) : tFor wi g tu D σ H := h
theorem c_J {wi : TI} {vs : List Nat} (h : wi σ H (kCp g tc te vs σ Q)) : tLc wi g tc te vs σ H Q := h
theorem w_forG {s0 : S} {k : S → Prop} {body : β → S → (S → Prop) → (S → Prop) → Prop} (T : TWk J F b zs) (Inv : S → L2.St → Hp → Hp → Prop) (hW : forW zs s0 body k) (h0 : Inv s0 σ F H)
    (ex : ∀ s σ' F' H', Inv s σ' F' H' → Ex F F' ∧ Ex F' H') (f : Ex F H)
    (turn : ∀ (N Bk : L2.St → Hp → Prop) x u s σ' F' H' F1 H1 (nx bk : S → Prop), Inv s σ' F' H' → x ∈ zs → Wf F' H' F1 H1 → b.r F1 u x → body x s nx bk → (∀ s' σ2 F2 H2, Inv s' σ2 F2 H2 → nx s' → N σ2 H2) → (∀ s' σ2 F2 H2, Inv s' σ2 F2 H2 → bk s' → Bk σ2 H2) →
      g u σ' H1 fun σ2 H2 => tu { D with nx := N, ct := N, bk := Bk } σ2 H2)
    (done : ∀ s σ' F' H', Inv s σ' F' H' → k s → D.nx σ' H') : kFor g tu D σ J H := by
  obtain ⟨G, Y, wk, hG, hY⟩ := T
  refine for_it wk (fun i σ' H' => ∃ s F', Inv s σ' F' H' ∧ forW (zs.drop i) s body k) ⟨s0, F, h0, hW⟩ (fun i σ' H' _ ⟨s, F', hI, _⟩ => hG F' H' (ex _ _ _ _ hI).1 (ex _ _ _ _ hI).2) ?_ ?_
  · rintro i u σ' H' H1 hi ⟨s, F', hI, hw⟩ hy
    obtain ⟨x, F1, hx, q, rx⟩ := hY i H' u H1 F' hi (ex _ _ _ _ hI).1 (ex _ _ _ _ hI).2 hy
    have e : zs.drop i = x :: zs.drop (i + 1) := by
      obtain ⟨h1, h2⟩ := List.getElem?_eq_some_iff.mp hx
      rw [← h2]; exact List.drop_eq_getElem_cons h1
    rw [e] at hw
    exact turn _ _ x u s σ' F' H' F1 H1 _ _ hI (List.mem_of_getElem? hx) q rx hw (fun s' σ2 F2 H2 q n => ⟨s', F2, q, n⟩) (fun s' σ2 F2 H2 q n => done s' σ2 F2 H2 q n)
  · rintro σ' H' ⟨s, F', hI, hw⟩
    rw [List.drop_of_length_le (Nat.le_refl _)] at hw
    exact done _ _ _ _ hI hw
theorem w_compG {vs : List Nat} {bd : β → (Option α → Prop) → Prop} {kk : List α → Prop} (T : TWk J F b zs) (w : Wf F0 H0 F H) (hn : zs.length < 1000000) (hW : compW zs bd kk)
    (turn : ∀ (Qy : V → Hp → Prop) (Qn : Hp → Prop) x u F1 H1 (R : Option α → Prop), Wf F H F1 H1 → x ∈ zs → b.r F1 u x → bd x R → (∀ y z F2 H2, Wf F1 H1 F2 H2 → e.r F2 y z → R (some z) → Qy y H2) → (∀ F2 H2, Wf F1 H1 F2 H2 → R none → Qn H2) →
      g u (wipe σ vs) H1 fun σ2 H2 => wipe σ2 vs = wipe σ vs ∧ tc σ2 H2 fun b H3 => if b = true then te σ2 H3 Qy else Qn H3)
    (done : ∀ p ys F' H', H p = none → Wf F H F' H' → XL e H0 F' H' p ys → kk ys → Q (.ref p) H') : kCp g tc te vs σ Q J H := by
  obtain ⟨G, Y, wk, hG, hY⟩ := T
  intro D hD
  refine lc_it wk (fun i H' => ∃ F' ac ys, Wf F H F' H' ∧ Xc H F' H' D (.lst ac) ∧ All e F' ac ys ∧ ys.length ≤ i ∧ compG (zs.drop i) ys bd kk)
    ⟨F, [], [], Wf.newX w.f hD, Xc.mk' (Wf.id w.f) hD, trivial, Nat.le_refl _, hW⟩ (fun i H' _ ⟨F', ac, ys, q, _⟩ => hG F' H' q.g q.f) ?_ ?_
  · rintro i u H' H1 hi ⟨F', ac, ys, q, xc, al, hl, hw⟩ hy
    obtain ⟨x, F1, hx, q1, rx⟩ := hY i H' u H1 F' hi q.g q.f hy
    have e' : zs.drop i = x :: zs.drop (i + 1) := by
      obtain ⟨h1, h2⟩ := List.getElem?_eq_some_iff.mp hx
      rw [← h2]; exact List.drop_eq_getElem_cons h1
    rw [e'] at hw
    have xc1 := xc.step q1
    have al1 := al.mono q1.g
    refine turn _ _ x u F1 H1 _ (q.tr q1) (List.mem_of_getElem? hx) rx hw (fun y z F2 H2 s ry hR => ?_) (fun F2 H2 s hR => ?_)
    · have xc2 := xc1.step s
      exact ⟨ac, xc2.h, by rw [al.len]; exact small_len (by omega), F2, ac ++ [y], ys ++ [z], ((q.tr q1).tr s).set xc2, xc2.set, (al1.mono s.g).snoc ry, by rw [List.length_append]; exact Nat.succ_le_succ hl, hR⟩
    · exact ⟨F2, ac, ys, (q.tr q1).tr s, xc1.step s, al1.mono s.g, Nat.le_succ_of_le hl, by simpa using hR⟩
  · rintro H' ⟨F', ac, ys, q, xc, al, hl, hw⟩
    rw [List.drop_of_length_le (Nat.le_refl _)] at hw
    exact done D ys F' H' hD q ⟨ac, ⟨w.h.non hD, xc.n, xc.h⟩, al⟩ hw
/-! sources -/
theorem TWk.pairs {γ δ : Type} {c : Rep γ} {d : Rep δ} {G : Hp → Prop} {X Y : Nat → Option V} {us : List (γ × δ)} (wk : Walk J us.length G (YPair X Y)) (hG : ∀ F' H', Ex F F' → Ex F' H' → G H')
    (hx : ∀ i F' x, Ex F F' → i < us.length → X i = some x → ∃ z, (us[i]?.map Prod.fst) = some z ∧ c.r F' x z) (hy : ∀ i F' x, Ex F F' → i < us.length → Y i = some x → ∃ z, (us[i]?.map Prod.snd) = some z ∧ d.r F' x z) : TWk J F (pT2 c d) us := by
  refine ⟨G, _, wk, hG, fun i H v H' F' hi f g hy' => ?_⟩
  obtain ⟨T, x, y, rfl, hT, rfl, h1, h2⟩ := hy'
  obtain ⟨z1, e1, r1⟩ := hx i F' x f hi h1
  obtain ⟨z2, e2, r2⟩ := hy i F' y f hi h2
  have e : us[i]? = some (z1, z2) := by
    cases q : us[i]? with
    | none => rw [q] at e1; cases e1
    | some t =>
      rw [q] at e1 e2
      have a : t.1 = z1 := Option.some.inj e1
      have b : t.2 = z2 := Option.some.inj e2
      rw [← a, ← b]
  exact ⟨(z1, z2), _, e, Wf.new g hT, ⟨T, x, y, rfl, upd_same, c.mono (Ex.new (g.non hT)) r1, d.mono (Ex.new (g.non hT)) r2⟩⟩
def enumT (xs : List α) : List (Nat × α) := (List.range xs.length).zip xs
theorem enumT_len (xs : List α) : (enumT xs).length = xs.length := by unfold enumT; rw [List.length_zip, List.length_range]; exact Nat.min_self _
theorem enumT_get (xs : List α) (i : Nat) : (enumT xs)[i]? = xs[i]?.map fun x => (i, x) := by
  show ((List.range xs.length).zip xs)[i]? = _
  by_cases h : i < xs.length
  · have h2 : i < ((List.range xs.length).zip xs).length := by rw [List.length_zip, List.length_range]; omega
    rw [List.getElem?_eq_getElem h2, List.getElem?_eq_getElem h, List.getElem_zip, List.getElem_range]; rfl
  · rw [List.getElem?_eq_none (by rw [List.length_zip, List.length_range]; omega), List.getElem?_eq_none (by omega)]; rfl
/-- enumerate(xs) -/
theorem src_enum {R : It → Hp → Prop} (r : (pL e).r F v xs) (f : Ex F H) (k : ∀ a, TWk (Ite K a) F (pT2 pN e) (enumT xs) → R (Ite K a) H) : ∃ a ws, [v] = [V.ref a] ∧ SqL K H a ws ∧ R (Ite K a) H := by
  obtain ⟨p, vs, rfl, hp, a⟩ := r
  refine ⟨p, vs, rfl, SqL.of (f _ _ hp), k p ?_⟩
  refine TWk.pairs (G := fun H => SqL K H p vs) (X := fun i => some (.int (i : Nat))) (Y := fun i => vs[i]?) (by rw [enumT_len, ← a.len]; exact walk_enum) (fun F' H' h1 h2 => SqL.of (h2 _ _ (h1 _ _ hp))) ?_ ?_
  · intro i F' x _ hi hx
    rw [enumT_len] at hi
    rw [enumT_get, List.getElem?_eq_getElem hi]
    exact ⟨i, rfl, (Option.some.inj hx).symm⟩
  · intro i F' x h1 hi hx
    obtain ⟨z, hz, rz⟩ := a.got hx
    rw [enumT_get, hz]
    exact ⟨z, rfl, e.mono h1 rz⟩
/-- zip(xs, ys) -/
theorem src_zip {γ : Type} {c : Rep γ} {us : List γ} {R : It → Hp → Prop} (r : (pL e).r F v xs) (s : (pL c).r F w us) (f : Ex F H) (k : ∀ a b, TWk (Itz K a b) F (pT2 e c) (xs.zip us) → R (Itz K a b) H) : ∃ a b ws us, [v, w] = [V.ref a, V.ref b] ∧ SqL K H a ws ∧ SqL K H b us ∧ R (Itz K a b) H := by
  obtain ⟨p, vs, rfl, hp, a⟩ := r
  obtain ⟨q, ws, rfl, hq, b⟩ := s
  refine ⟨p, q, vs, ws, rfl, SqL.of (f _ _ hp), SqL.of (f _ _ hq), k p q ?_⟩
  refine TWk.pairs (G := fun H => SqL K H p vs ∧ SqL K H q ws) (X := fun i => vs[i]?) (Y := fun i => ws[i]?) (walk_zip (by rw [List.length_zip, a.len, b.len])) (fun F' H' h1 h2 => ⟨SqL.of (h2 _ _ (h1 _ _ hp)), SqL.of (h2 _ _ (h1 _ _ hq))⟩) ?_ ?_
  · intro i F' x h1 hi hx
    obtain ⟨z, hz, rz⟩ := a.got hx
    obtain ⟨u, hu⟩ : ∃ u, us[i]? = some u := ⟨_, List.getElem?_eq_getElem (by rw [List.length_zip] at hi; omega)⟩
    exact ⟨z, by rw [(List.getElem?_zip_eq_some (z := (z, u))).mpr ⟨hz, hu⟩]; rfl, e.mono h1 rz⟩
  · intro i F' x h1 hi hx
    obtain ⟨u, hu, ru⟩ := b.got hx
    obtain ⟨z, hz⟩ : ∃ z, xs[i]? = some z := ⟨_, List.getElem?_eq_getElem (by rw [List.length_zip] at hi; omega)⟩
    exact ⟨u, by rw [(List.getElem?_zip_eq_some (z := (z, u))).mpr ⟨hz, hu⟩]; rfl, c.mono h1 ru⟩
/-- a tuple -/
theorem src_tup {R : It → Hp → Prop} (r : (pTL e).r F v xs) (f : Ex F H) (k : ∀ a, TWk (Itt K a) F e xs → R (Itt K a) H) : ∃ a, v = .ref a ∧ (∃ ws, SqT K H a ws) ∧ R (Itt K a) H := by
  obtain ⟨p, vs, rfl, hp, a⟩ := r
  refine ⟨p, rfl, ⟨vs, SqT.of (f _ _ hp)⟩, k p ⟨_, _, by rw [← a.len]; exact walk_tup, fun F' H' h1 h2 => SqT.of (h2 _ _ (h1 _ _ hp)), fun i H v H' F' hi h1 h2 hy => ?_⟩⟩
  obtain ⟨rfl, hv⟩ := hy
  obtain ⟨z, hz, rz⟩ := a.got hv
  exact ⟨z, F', hz, Wf.id h2, e.mono h1 rz⟩
/-- range(i, j) -/
theorem src_range2 {R : It → Hp → Prop} {i j : Nat} (hj : j < 1000000) (hi : i < 1000000) (k : TWk (Itr (i : Int) ((j : Int) - (i : Int)).toNat) F pN (List.range' i (j - i)) → R (Itr (i : Int) ((j : Int) - (i : Int)).toNat) H) : ∃ i' j' : Int, [V.int (i : Int), V.int (j : Int)] = [.int i', .int j'] ∧ (-(2 ^ 62) ≤ i' ∧ i' < 2 ^ 62 ∧ -(2 ^ 62) ≤ j' ∧ j' < 2 ^ 62) ∧ R (Itr i' (j' - i').toNat) H := by
  refine ⟨i, j, rfl, ⟨by omega, by omega, by omega, by omega⟩, k ⟨fun _ => True, YFn fun m => .int ((i : Int) + (m : Nat)), ?_, fun _ _ _ _ => trivial, fun m H x H' F' hm h1 h2 hy => ?_⟩⟩
  · have : ((j : Int) - (i : Int)).toNat = (List.range' i (j - i)).length := by rw [List.length_range']; omega
    rw [this]; exact walk_range
  · obtain ⟨rfl, rfl⟩ := hy
    rw [List.length_range'] at hm
    exact ⟨i + m, F', by rw [List.getElem?_range' hm]; simp, Wf.id h2, by show V.int _ = V.int _; congr 1⟩
/-! ### objects -/
theorem lk_ne {k g : Str} {v : V} {r : List (Str × V)} (h : (k == g) = false) : List.lookup k ((g, v) :: r) = List.lookup k r := by simp only [List.lookup, h]
theorem lk_eq {k : Str} {v : V} {r : List (Str × V)} : List.lookup k ((k, v) :: r) = some v := by
  have e : (k == k) = true := beq_self_eq_true k
  simp only [List.lookup, e]
/-- an instance of C that stays as it is: its fields, all told by Fs -/
def pOb (C : Addr) (Fs : Hp → List (Str × V) → α → Prop) (mono : ∀ {F F' : Hp} {fs : List (Str × V)} {x : α}, Ex F F' → Fs F fs x → Fs F' fs x) : Rep α :=
  ⟨fun F v x => ∃ p dx fs, v = .ref p ∧ F p = some (.ins C dx fs) ∧ Fs F fs x, fun h ⟨p, dx, fs, a, b, c⟩ => ⟨p, dx, fs, a, h _ _ b, mono h c⟩⟩
def F1s {α : Type} (n : Str) (e : Rep α) (F : Hp) (fs : List (Str × V)) (x : α) : Prop := ∃ u, fs = [(n, u)] ∧ e.r F u x
def F2s {α β : Type} (n m : Str) (e : Rep α) (f : Rep β) (F : Hp) (fs : List (Str × V)) (x : α × β) : Prop := ∃ u w, fs = [(n, u), (m, w)] ∧ e.r F u x.1 ∧ f.r F w x.2
def F3s {α β γ : Type} (n m l : Str) (e : Rep α) (f : Rep β) (g : Rep γ) (F : Hp) (fs : List (Str × V)) (x : α × β × γ) : Prop := ∃ u w y, fs = [(n, u), (m, w), (l, y)] ∧ e.r F u x.1 ∧ f.r F w x.2.1 ∧ g.r F y x.2.2
theorem F1s.mono {α : Type} {n : Str} {e : Rep α} {F F' : Hp} {fs : List (Str × V)} {x : α} (h : Ex F F') : F1s n e F fs x → F1s n e F' fs x := fun ⟨u, a, b⟩ => ⟨u, a, e.mono h b⟩
theorem F2s.mono {α β : Type} {n m : Str} {e : Rep α} {f : Rep β} {F F' : Hp} {fs : List (Str × V)} {x : α × β} (h : Ex F F') : F2s n m e f F fs x → F2s n m e f F' fs x := fun ⟨u, w, a, b, c⟩ => ⟨u, w, a, e.mono h b, f.mono h c⟩
theorem F3s.mono {α β γ : Type} {n m l : Str} {e : Rep α} {f : Rep β} {g : Rep γ} {F F' : Hp} {fs : List (Str × V)} {x : α × β × γ} (h : Ex F F') : F3s n m l e f g F fs x → F3s n m l e f g F' fs x := fun ⟨u, w, y, a, b, c, d⟩ => ⟨u, w, y, a, e.mono h b, f.mono h c, g.mono h d⟩
def pO1 {α : Type} (C : Addr) (n : Str) (e : Rep α) : Rep α := pOb C (F1s n e) F1s.mono
def pO2 {α β : Type} (C : Addr) (n m : Str) (e : Rep α) (f : Rep β) : Rep (α × β) := pOb C (F2s n m e f) F2s.mono
def pO3 {α β γ : Type} (C : Addr) (n m l : Str) (e : Rep α) (f : Rep β) (g : Rep γ) : Rep (α × β × γ) := pOb C (F3s n m l e f g) F3s.mono
section
variable {γ : Type} {C : Addr} {a b c : Str} {f : Rep β} {g' : Rep γ} {s : α} {t : α × β} {z : α × β × γ}
/-- reading o.f -/
theorem fl_11 (cl : Cls K C) (na : NoAttr K C a) (r : (pO1 C a e).r F v s) (h : Ex F H) : ∃ w, e.r F w s ∧ ∀ ⦃σ ta⦄, Val ta σ H v → Val (tFld K ta a) σ H w := by
  obtain ⟨p, dx, fs, rfl, hp, u, rfl, r1⟩ := r
  exact ⟨u, r1, fun _ _ ha Q k => ha _ ⟨p, C, dx, _, u, rfl, h _ _ hp, cl, na, lk_eq, k⟩⟩
theorem fl_21 (cl : Cls K C) (na : NoAttr K C a) (r : (pO2 C a b e f).r F v t) (h : Ex F H) : ∃ w, e.r F w t.1 ∧ ∀ ⦃σ ta⦄, Val ta σ H v → Val (tFld K ta a) σ H w := by
  obtain ⟨p, dx, fs, rfl, hp, u, w, rfl, r1, r2⟩ := r
  exact ⟨u, r1, fun _ _ ha Q k => ha _ ⟨p, C, dx, _, u, rfl, h _ _ hp, cl, na, lk_eq, k⟩⟩
theorem fl_22 (cl : Cls K C) (na : NoAttr K C b) (r : (pO2 C a b e f).r F v t) (h : Ex F H) (h1 : (b == a) = false := by decide +kernel) : ∃ w, f.r F w t.2 ∧ ∀ ⦃σ ta⦄, Val ta σ H v → Val (tFld K ta b) σ H w := by
  obtain ⟨p, dx, fs, rfl, hp, u, w, rfl, r1, r2⟩ := r
  exact ⟨w, r2, fun _ _ ha Q k => ha _ ⟨p, C, dx, _, w, rfl, h _ _ hp, cl, na, (lk_ne h1).trans lk_eq, k⟩⟩
theorem fl_31 (cl : Cls K C) (na : NoAttr K C a) (r : (pO3 C a b c e f g').r F v z) (h : Ex F H) : ∃ w, e.r F w z.1 ∧ ∀ ⦃σ ta⦄, Val ta σ H v → Val (tFld K ta a) σ H w := by
  obtain ⟨p, dx, fs, rfl, hp, u, w, y, rfl, r1, r2, r3⟩ := r
  exact ⟨u, r1, fun _ _ ha Q k => ha _ ⟨p, C, dx, _, u, rfl, h _ _ hp, cl, na, lk_eq, k⟩⟩
theorem fl_32 (cl : Cls K C) (na : NoAttr K C b) (r : (pO3 C a b c e f g').r F v z) (h : Ex F H) (h1 : (b == a) = false := by decide +kernel) : ∃ w, f.r F w z.2.1 ∧ ∀ ⦃σ ta⦄, Val ta σ H v → Val (tFld K ta b) σ H w := by
  obtain ⟨p, dx, fs, rfl, hp, u, w, y, rfl, r1, r2, r3⟩ := r
  exact ⟨w, r2, fun _ _ ha Q k => ha _ ⟨p, C, dx, _, w, rfl, h _ _ hp, cl, na, (lk_ne h1).trans lk_eq, k⟩⟩
theorem fl_33 (cl : Cls K C) (na : NoAttr K C c) (r : (pO3 C a b c e f g').r F v z) (h : Ex F H) (h1 : (c == a) = false := by decide +kernel) (h2 : (c == b) = false := by decide +kernel) : ∃ w, g'.r F w z.2.2 ∧ ∀ ⦃σ ta⦄, Val ta σ H v → Val (tFld K ta c) σ H w := by
  obtain ⟨p, dx, fs, rfl, hp, u, w, y, rfl, r1, r2, r3⟩ := r
  exact ⟨y, r3, fun _ _ ha Q k => ha _ ⟨p, C, dx, _, y, rfl, h _ _ hp, cl, na, (lk_ne h1).trans ((lk_ne h2).trans lk_eq), k⟩⟩
/-- the object of a method's call -/
theorem me_1 {m : Str} (r : (pO1 C a e).r F v s) (h : Ex F H) (h1 : (m == a) = false := by decide +kernel) : ∃ p dx fs, v = .ref p ∧ H p = some (.ins C dx fs) ∧ fs.lookup m = none := by
  obtain ⟨p, dx, fs, rfl, hp, u, rfl, _⟩ := r
  exact ⟨p, dx, _, rfl, h _ _ hp, (lk_ne h1).trans rfl⟩
theorem me_2 {m : Str} (r : (pO2 C a b e f).r F v t) (h : Ex F H) (h1 : (m == a) = false := by decide +kernel) (h2 : (m == b) = false := by decide +kernel) : ∃ p dx fs, v = .ref p ∧ H p = some (.ins C dx fs) ∧ fs.lookup m = none := by
  obtain ⟨p, dx, fs, rfl, hp, u, w, rfl, _⟩ := r
  exact ⟨p, dx, _, rfl, h _ _ hp, (lk_ne h1).trans ((lk_ne h2).trans rfl)⟩
theorem me_3 {m : Str} (r : (pO3 C a b c e f g').r F v z) (h : Ex F H) (h1 : (m == a) = false := by decide +kernel) (h2 : (m == b) = false := by decide +kernel) (h3 : (m == c) = false := by decide +kernel) : ∃ p dx fs, v = .ref p ∧ H p = some (.ins C dx fs) ∧ fs.lookup m = none := by
  obtain ⟨p, dx, fs, rfl, hp, u, w, y, rfl, _⟩ := r
  exact ⟨p, dx, _, rfl, h _ _ hp, (lk_ne h1).trans ((lk_ne h2).trans ((lk_ne h3).trans rfl))⟩
end
/-! one's own object, while it is made -/
/-- the heap without p -/
def wo (H : Hp) (p : Addr) : Hp := fun a => if a = p then none else H a
theorem wo_same {H : Hp} {p : Addr} : wo H p p = none := if_pos rfl
theorem wo_ne {H : Hp} {p q : Addr} (h : q ≠ p) : wo H p q = H q := if_neg h
theorem Wf.start (f : Ex F H) (n : F p = none) : Wf F (wo H p) F H := ⟨fun a o h => by
    by_cases q : a = p
    · subst q; rw [wo_same] at h; cases h
    · rw [wo_ne q] at h; exact h, f, Ex.rfl', fun a o h h0 => by rw [h] at h0; cases h0⟩
theorem Xc.start (n : F p = none) (h : H p = some o) : Xc (wo H p) F H p o := ⟨wo_same, n, h⟩
/-- behind the making of x -/
theorem Wf.made {x dx : Addr} {o u : HO} (nx : H x = none) (nd : H dx = none) (w : Wf F (wo (upd (upd H dx o) x u) x) F' H') : Wf F H F' H' := by
  have e : Ex H (wo (upd (upd H dx o) x u) x) := fun a v h => by
    have h1 : a ≠ x := ne_of_none h nx
    have h2 : a ≠ dx := ne_of_none h nd
    rw [wo_ne h1, upd_ne h1, upd_ne h2]; exact h
  exact ⟨e.tr w.h, w.f, w.g, fun a o h h0 => e.non (w.n a o h h0)⟩
theorem Ex.made {x dx : Addr} {o u : HO} (f : Ex F H) (nx : H x = none) (nd : H dx = none) : Ex F (upd (upd H dx o) x u) := fun a v h => by
  have h' := f a v h
  rw [upd_ne (ne_of_none h' nx), upd_ne (ne_of_none h' nd)]; exact h'
theorem Xc.frzO {u : HO} (x : Xc H0 F H q u) (h : Fz F F' p) (hq : q ≠ p) (g : Ex F F') : Xc H0 F' H q u := ⟨x.z, h _ hq x.n, x.h⟩
/-- self.f = v -/
theorem a_fld {C dx : Addr} {fs : List (Str × V)} {a : Str} (cl : Cls K C) (na : NoAttr K C a) (x : Xc H0 F H p (.ins C dx fs)) (w : Wf F0 H0 F H) (hl : fs.length < 1000) (ho : Val to σ H (.ref p))
    (k : ∀ H', Wf F0 H0 F H' → Xc H0 F H' p (.ins C dx (putF a v fs)) → (∀ q o, H q = some o → q ≠ p → H' q = some o) → D.nx σ H') :
    (fun y H1 => to σ H1 fun x H2 => ∃ a' C' dx' fs', x = .ref a' ∧ H2 a' = some (.ins C' dx' fs') ∧ Cls K C' ∧ NoAttr K C' a ∧ fs'.length < 1000 ∧ D.nx σ (upd H2 a' (.ins C' dx' (putF a y fs')))) v H :=
  ho _ ⟨p, C, dx, fs, rfl, x.h, cl, na, hl, k _ (w.set x) x.set fun q o h hq => by rw [upd_ne hq]; exact h⟩
theorem e_fld {tv : TE} {a : Str} (h : tv σ H fun y H1 => to σ H1 fun x H2 => ∃ a' C' dx' fs', x = .ref a' ∧ H2 a' = some (.ins C' dx' fs') ∧ Cls K C' ∧ NoAttr K C' a ∧ fs'.length < 1000 ∧ D.nx σ (upd H2 a' (.ins C' dx' (putF a y fs')))) : sFld K to tv a D σ H := h
/-- reading a field of one's own object -/
theorem fl_X {C dx : Addr} {fs : List (Str × V)} {a : Str} (cl : Cls K C) (na : NoAttr K C a) (x : Xc H0 F H p (.ins C dx fs)) (hl : fs.lookup a = some u) (ho : Val to σ H (.ref p)) : Val (tFld K to a) σ H u :=
  fun Q k => ho _ ⟨p, C, dx, fs, u, rfl, x.h, cl, na, hl, k⟩
/-- it is made: it changes no more -/
theorem Xc.frzE {o : HO} (x : Xc H0 F H p o) (w : Wf F0 H0 F H) : ∃ F', Wf F0 H0 F' H ∧ Ex F F' ∧ F' p = some o := ⟨_, w.freeze x, Ex.new x.n, upd_same⟩
/-! ### borrowed lists and dicts: read only, their place not told -/
structure BL {α : Type} (e : Rep α) (F H : Hp) (p : Addr) (xs : List α) : Prop where
  x : ∃ vs, H p = some (.lst vs) ∧ All e F vs xs
structure BD {κ α : Type} [KeyT κ] (e : Rep α) (F H : Hp) (p : Addr) (m : List (κ × α)) : Prop where
  x : ∃ kvs, H p = some (.dK kvs) ∧ DA e F kvs m
theorem BL.step (x : BL e F H p xs) (w : Wf F H F' H') : BL e F' H' p xs := let ⟨vs, a, b⟩ := x.x; ⟨vs, w.h _ _ a, b.mono w.g⟩
theorem BL.ne (x : BL e F H p xs) (h : H q = none) : p ≠ q := let ⟨_, a, _⟩ := x.x; ne_of_none a h
theorem BL.frzO {X : Prop} (x : BL e F H q xs) (h : X) (hq : q ≠ p) (g : Ex F F') : BL e F' H q xs := let ⟨vs, a, b⟩ := x.x; ⟨vs, a, b.mono g⟩
theorem BL.kept (x : BL e F H q xs) (h : ∀ q o, H q = some o → q ≠ p → H' q = some o) (hq : q ≠ p) : BL e F H' q xs := let ⟨vs, a, b⟩ := x.x; ⟨vs, h _ _ a hq, b⟩
theorem XL.bw (x : XL e H0 F H p xs) : BL e F H p xs := let ⟨vs, a, b⟩ := x.x; ⟨vs, a.h, b⟩
end
section
variable {κ α : Type} [DecidableEq κ] [KeyT κ] {e : Rep α} {K : PySem.W.Frag} {σ : L2.St} {F0 H0 F F' H H' : Hp} {te td ty tx tv : TE} {Q : VK} {v w y z : V} {m : List (κ × α)} {p q : Addr} {j : κ} {x : α} {D : Ends}
omit [DecidableEq κ] in
theorem BD.step (x : BD e F H p m) (w : Wf F H F' H') : BD e F' H' p m := let ⟨vs, a, b⟩ := x.x; ⟨vs, w.h _ _ a, b.mono w.g⟩
omit [DecidableEq κ] in
theorem BD.ne (x : BD e F H p m) (h : H q = none) : p ≠ q := let ⟨_, a, _⟩ := x.x; ne_of_none a h
omit [DecidableEq κ] in
theorem BD.frzO {X : Prop} (x : BD e F H q m) (h : X) (hq : q ≠ p) (g : Ex F F') : BD e F' H q m := let ⟨vs, a, b⟩ := x.x; ⟨vs, a, b.mono g⟩
omit [DecidableEq κ] in
theorem BD.kept (x : BD e F H q m) (h : ∀ q o, H q = some o → q ≠ p → H' q = some o) (hq : q ≠ p) : BD e F H' q m := let ⟨vs, a, b⟩ := x.x; ⟨vs, h _ _ a hq, b⟩
omit [DecidableEq κ] in
theorem XD.bw (x : XD e H0 F H p m) : BD e F H p m := let ⟨vs, a, b⟩ := x.x; ⟨vs, a.h, b⟩
omit [DecidableEq κ] in
theorem D_bw (r : (pD e).r F v m) (f : Ex F H) : ∃ p, v = .ref p ∧ BD e F H p m := let ⟨p, vs, a, b, c⟩ := r; ⟨p, a, ⟨vs, f _ _ b, c⟩⟩
theorem in_BD (r : BD e F H p m) (hy : Val ty σ H (kV (KeyT.k j))) (hd : Val td σ H (.ref p)) : Val (tDIn ty td) σ H (.bl (hasT m j)) := by
  obtain ⟨kvs, hp, a⟩ := r.x
  exact fun Q k => hy _ (hd _ ⟨p, _, rfl, DGet.k hp, by rw [a.has j]; exact k⟩)
theorem ix_BD (r : BD e F H p m) (hx : valT m j = some x) : ∃ w, e.r F w x ∧ ∀ ⦃σ td ty⦄, Val td σ H (.ref p) → Val ty σ H (kV (KeyT.k j)) → Val (tDGet td ty) σ H w := by
  obtain ⟨kvs, hp, a⟩ := r.x
  obtain ⟨w, h1, h2⟩ := (a.get j).1 x hx
  exact ⟨w, h2, fun _ _ _ hd hy Q k => hd _ (hy _ ⟨p, w, rfl, by rw [← h1]; exact DGet.k hp, k⟩)⟩
/-- list(d) -/
def keyC (κ : Type) [KeyT κ] (b : Rep κ) : Prop := ∀ (F : Hp) (k : κ), b.r F (kV (KeyT.k k)) k
theorem keyN : keyC Nat pN := fun _ _ => rfl
theorem keyI : keyC Int pI := fun _ _ => rfl
theorem keyS : keyC Str pS := fun _ _ => rfl
omit [DecidableEq κ] in
theorem DA.keys {b : Rep κ} (hb : keyC κ b) : ∀ {kvs : List (Key × V)} {m : List (κ × α)}, DA e F kvs m → All b F (kvs.map fun kv => kV kv.1) (m.map (·.1))
  | [], [], _ => trivial
  | p :: r, q :: s, ⟨a, _, c⟩ => ⟨by show b.r F (kV p.1) q.1; rw [a]; exact hb F q.1, DA.keys hb c⟩
  | [], _ :: _, q => q.elim
  | _ :: _, [], q => q.elim
def rListD : List V → Hp → VK → Prop := fun xs H Q => ∃ (a : Addr) (kvs : List (Key × V)), xs = [.ref a] ∧ Rd H a (.dK kvs) ∧ ∀ p, H p = none → Q (.ref p) (upd H p (.lst (kvs.map fun kv => kV kv.1)))
omit [DecidableEq κ] in
theorem n_listD {b : Rep κ} (hb : keyC κ b) (r : (pD e).r F v m) (w : Wf F0 H0 F H) (k : ∀ p H', H p = none → Wf F H F H' → XL b H0 F H' p (m.map (·.1)) → Q (.ref p) H') : rListD [v] H Q := by
  obtain ⟨p, kvs, rfl, hp, a⟩ := r
  exact ⟨p, kvs, rfl, .inl (w.f _ _ hp), fun l hl => k l _ hl (Wf.newX w.f hl) ⟨_, Xc.mk' w hl, a.keys hb⟩⟩
theorem n_listXD {b : Rep κ} (hb : keyC κ b) (r : XD e H0 F H q m) (w : Wf F0 H0 F H) (k : ∀ p H', H p = none → Wf F H F H' → XL b H0 F H' p (m.map (·.1)) → Q (.ref p) H') : rListD [.ref q] H Q := by
  obtain ⟨kvs, hp, a⟩ := r.rd
  exact ⟨q, kvs, rfl, .inl hp, fun l hl => k l _ hl (Wf.newX w.f hl) ⟨_, Xc.mk' w hl, a.keys hb⟩⟩
end
/-- a method that may be called -/
structure Md (P : Program) (w : World) (K : PySem.W.Frag) (mg : Str → Option Value) (base : Heap) (CX : CXT) (k : Nat) (C : Addr) (m : Str) (ps : List Str) (sp : Sp) : Prop where
  ex : ∃ f fd, FnOk P w K mg base CX k f fd ps sp ∧ Meth K C m f ∧ Binds K fd ps []
/-- a class that makes -/
structure Nw (P : Program) (w : World) (K : PySem.W.Frag) (mg : Str → Option Value) (base : Heap) (CX : CXT) (k : Nat) (C : Addr) (x : Str) (ps : List Str) (sp : Sp) : Prop where
  ex : ∃ f fd, FnOk P w K mg base CX k f fd ps sp ∧ Mk K C f ∧ mg x = some (.ref C) ∧ Binds K fd ps []
section
variable {X : Cx} {k : Nat} {C : Addr} {x m : Str} {ps : List Str} {sp : Sp} {o e : Expr} {es : List Expr} {p pos apos : Pos} {ta : TE} {t : TA} {pl : Sem Bool}
theorem pe_md (M : Md X.prog X.w X.K X.mg X.base CX0 k C m ps sp) (cl : Cls X.K C) (hr : Room k X.A) (he : PE X o ta) (ha : PA X (e :: es) t)
    (hst : starEach (e :: es) X.env = (false, eval e X.env) :: starEach es X.env := by rfl) (hpl : (backTo pos (starEach es X.env)).any (·.1) = false := by rfl)
    (ht : eval (.Call (.Attribute o m apos) (e :: es) [] pos) X.env = (do
      let ov ← eval o X.env
      standAt apos.atName
      let (f, first) ← holding [ov] (getMethod ov m pl)
      callWith pos f first (backTo pos (starEach (e :: es) X.env)) (backToKw pos (keywordEach [] X.env))) := by rfl) :
    PE X (.Call (.Attribute o m apos) (e :: es) [] pos) (tMeth C m sp [] E0 ta t) := by
  obtain ⟨f, fd, F, hm, hb⟩ := M.ex
  exact pe_meth he cl hm F hr hb .nil pass0 ha hst hpl ht
theorem pe_md0 (M : Md X.prog X.w X.K X.mg X.base CX0 k C m ps sp) (cl : Cls X.K C) (hr : Room k X.A) (he : PE X o ta)
    (ht : eval (.Call (.Attribute o m apos) [] [] pos) X.env = (do
      let ov ← eval o X.env
      standAt apos.atName
      let (f, first) ← holding [ov] (getMethod ov m pl)
      callWith pos f first (backTo pos (starEach [] X.env)) (backToKw pos (keywordEach [] X.env))) := by rfl) :
    PE X (.Call (.Attribute o m apos) [] [] pos) (tMeth C m sp [] E0 ta tNil) := by
  obtain ⟨f, fd, F, hm, hb⟩ := M.ex
  exact pe_meth0 he cl hm F hr hb .nil pass0 ht
theorem pe_nw (M : Nw X.prog X.w X.K X.mg X.base CX0 k C x ps sp) (hr : Room (k + 1) X.A) (hg : Gl X x) (ha : PA X (e :: es) t) (hdb : (x == ("__debug__" : Str)) = false := by decide)
    (he : starEach (e :: es) X.env = (false, eval e X.env) :: starEach es X.env := by rfl) (hpl : (backTo pos (starEach es X.env)).any (·.1) = false := by rfl) : PE X (.Call (.Name x p) (e :: es) [] pos) (tMake C sp [] E0 t) := by
  obtain ⟨f, fd, F, hk, hm, hb⟩ := M.ex
  exact pe_make hk F hr hg hm hb .nil pass0 ha hdb he hpl
end
section
variable {σ : L2.St} {H : Hp} {C : Addr} {m : Str} {sp : Sp} {E : XK} {ta : TE} {t : TA} {Q : VK} {v : V} {p dx : Addr} {fs : List (Str × V)} {vs : List V}
theorem e_md (h : ta σ H fun x H1 => ∃ a dx fs, x = .ref a ∧ H1 a = some (.ins C dx fs) ∧ fs.lookup m = none ∧ t σ H1 fun vs H2 => sp (x :: vs) H2 Q E) : tMeth C m sp [] E ta t σ H Q := by
  show ta σ H fun x H1 => ∃ a dx fs, x = .ref a ∧ H1 a = some (.ins C dx fs) ∧ fs.lookup m = none ∧ t σ H1 fun vs H2 => sp (x :: (vs ++ [])) H2 Q E
  simpa only [List.append_nil] using h
theorem e_nw (h : t σ H fun vs H1 => ∀ x dx, H1 x = none → H1 dx = none → dx ≠ x → sp (.ref x :: vs) (upd (upd H1 dx (.own x)) x (.ins C dx [])) (fun v H2 => v = .non ∧ Q (.ref x) H2) E) : tMake C sp [] E t σ H Q := by
  show t σ H fun vs H1 => ∀ x dx, H1 x = none → H1 dx = none → dx ≠ x → sp (.ref x :: (vs ++ [])) (upd (upd H1 dx (.own x)) x (.ins C dx [])) (fun v H2 => v = .non ∧ Q (.ref x) H2) E
  simpa only [List.append_nil] using h
end
/-- an object of which only the fields are read -/
structure BO (C : Addr) (F H : Hp) (p dx : Addr) (fs : List (Str × V)) : Prop where
  h : H p = some (.ins C dx fs)
section
variable {α β γ : Type} {K : PySem.W.Frag} {σ : L2.St} {C p q dx : Addr} {fs : List (Str × V)} {H0 F F' H H' : Hp} {to ta : TE} {Q : VK} {a b c m : Str} {u v : V} {o : HO}
theorem BO.step (x : BO C F H p dx fs) (w : Wf F H F' H') : BO C F' H' p dx fs := ⟨w.h _ _ x.h⟩
theorem BO.ne (x : BO C F H p dx fs) (h : H q = none) : p ≠ q := ne_of_none x.h h
theorem BO.frzO {X : Prop} (x : BO C F H q dx fs) (h : X) (hq : q ≠ p) (g : Ex F F') : BO C F' H q dx fs := ⟨x.h⟩
theorem BO.kept (x : BO C F H q dx fs) (h : ∀ q o, H q = some o → q ≠ p → H' q = some o) (hq : q ≠ p) : BO C F H' q dx fs := ⟨h _ _ x.h hq⟩
theorem fl_B (na : NoAttr K C a) (cl : Cls K C) (x : BO C F H p dx fs) (hl : fs.lookup a = some u) (ho : Val to σ H (.ref p)) : Val (tFld K to a) σ H u :=
  fun Q k => ho _ ⟨p, C, dx, fs, u, rfl, x.h, cl, na, hl, k⟩
def kFld (K : PySem.W.Frag) (a : Str) (Q : VK) (x : V) (H1 : Hp) : Prop := ∃ a' C dx fs v, x = .ref a' ∧ H1 a' = some (.ins C dx fs) ∧ Cls K C ∧ NoAttr K C a ∧ fs.lookup a = some v ∧ Q v H1
theorem e_tfld (h : ta σ H (kFld K a Q)) : tFld K ta a σ H Q := h
theorem fl_val (h : Val (tFld K (tC v) a) [] H u) (q : Q u H) : kFld K a Q v H := h Q q
theorem put_ne {f g : Str} {v x : V} {r : List (Str × V)} (h : ¬ g = f) : putF f v ((g, x) :: r) = (g, x) :: putF f v r := if_neg h
theorem put_eq {f : Str} {v x : V} {r : List (Str × V)} : putF f v ((f, x) :: r) = (f, v) :: r := if_pos rfl
theorem Xc.cast {fs' : List (Str × V)} (x : Xc H0 F H p (.ins C dx fs)) (e : fs = fs') : Xc H0 F H p (.ins C dx fs') := e ▸ x
/-- the first field, a dict, as it is borrowed -/
theorem st_bw {κ : Type} [KeyT κ] {e : Rep α} {f : Rep β} {g : Rep γ} {z : List (κ × α) × β × γ} (r : (pO3 C a b c (pD e) f g).r F v z) (h : Ex F H) (h1 : (m == a) = false := by decide +kernel) (h2 : (m == b) = false := by decide +kernel) (h3 : (m == c) = false := by decide +kernel) :
    ∃ p dx fs d, v = .ref p ∧ H p = some (.ins C dx fs) ∧ fs.lookup a = some (.ref d) ∧ BD e F H d z.1 ∧ fs.lookup m = none := by
  obtain ⟨p, dx, fs, rfl, hp, u, w, y, rfl, r1, r2, r3⟩ := r
  obtain ⟨d, rfl, bd⟩ := D_bw r1 h
  exact ⟨p, dx, _, d, rfl, h _ _ hp, lk_eq, bd, (lk_ne h1).trans ((lk_ne h2).trans ((lk_ne h3).trans rfl))⟩
end
section
variable {κ α : Type} [KeyT κ] {e : Rep α} {σ : L2.St} {F0 H0 F H : Hp} {tk tv : TE} {Q : VK} {v : V} {j : κ} {x : α}
/-- {k: v} -/
theorem n_disp1 (hk : ∀ H, Val tk σ H (kV (KeyT.k j))) (hv : ∀ H, Val tv σ H v) (r : e.r F v x) (w : Wf F0 H0 F H) (k : ∀ p H', H p = none → Wf F H F H' → XD e H0 F H' p [(j, x)] → Q (.ref p) H') : tDisp [(tk, tv)] σ H Q := fun p hp => by
  refine hk _ _ (hv _ _ ⟨upd_same, [(KeyT.k j, v)], rfl, (show 1 ≤ 15 by decide), ?_⟩)
  rw [upd_upd]
  exact k p _ hp (Wf.newX w.f hp) ⟨[(KeyT.k j, v)], Xc.mk' w hp, rfl, r, trivial⟩
end
theorem m_list0 {α : Type} {e : Rep α} {K : PySem.W.Frag} {σ : L2.St} {H0 F H : Hp} {p : Addr} {xs : List α} {to : TE} {Q : VK} {r : V → List V → Hp → VK → Prop} (z : XL e H0 F H p xs) (ho : Val to σ H (.ref p)) (k : r (.ref p) [] H Q) : tBM0 K "list" r to σ H Q := ho _ ⟨let ⟨_, a, _⟩ := z.x; Or.inl ⟨rfl, _, Or.inl (Or.inl a.h)⟩, k⟩
end Wk

namespace Wk
open PySem L2
section
variable {K : PySem.W.Frag} {σ : L2.St} {F0 H0 F H H' : Hp} {ta to : TE} {Q : VK} {v : V} {xs : List Nat} {p q : Addr} {x : Nat}
theorem nats_eq {vs : List V} {F : Hp} (a : All pN F vs xs) : vs = (xs.map Int.ofNat).map V.int := a.nats
def maxT (xs : List Nat) : Nat := xs.foldl max 0
theorem maxT_aux : ∀ (xs : List Nat) (a : Nat), a ≤ xs.foldl max a ∧ (∀ y ∈ xs, y ≤ xs.foldl max a) ∧ (xs.foldl max a = a ∨ xs.foldl max a ∈ xs)
  | [], a => ⟨Nat.le_refl _, fun y h => (by cases h), .inl rfl⟩
  | x :: xs, a => by
    obtain ⟨h1, h2, h3⟩ := maxT_aux xs (max a x)
    refine ⟨Nat.le_trans (Nat.le_max_left a x) h1, fun y hy => ?_, ?_⟩
    · rcases List.mem_cons.mp hy with e | m
      · subst e; exact Nat.le_trans (Nat.le_max_right a y) h1
      · exact h2 y m
    · show xs.foldl max (max a x) = a ∨ xs.foldl max (max a x) ∈ x :: xs
      rcases h3 with e | m
      · rw [e]
        rcases Nat.le_total a x with o | o
        · rw [Nat.max_eq_right o]; exact .inr (List.mem_cons_self ..)
        · rw [Nat.max_eq_left o]; exact .inl rfl
      · exact .inr (List.mem_cons_of_mem _ m)
theorem maxT_le {y : Nat} (h : y ∈ xs) : y ≤ maxT xs := (maxT_aux xs 0).2.1 y h
theorem maxT_mem (h : 0 < xs.length) : maxT xs ∈ xs := by
  rcases (maxT_aux xs 0).2.2 with e | m
  · obtain ⟨y, hy⟩ : ∃ y, y ∈ xs := by cases xs with
      | nil => exact absurd h (Nat.lt_irrefl _)
      | cons y _ => exact ⟨y, List.mem_cons_self ..⟩
    have := maxT_le hy
    have e2 : maxT xs = 0 := e
    rw [e2] at this ⊢
    have : y = 0 := by omega
    subst this; exact hy
  · exact m
/-- max(xs) -/
theorem vn_max (r : (pL pN).r F v xs) (f : Ex F H) (hl : 0 < xs.length) (ha : Val ta σ H v) : Val (tCB (L2.rMax K) (tCons ta tNil)) σ H (.int ((maxT xs : Nat) : Int)) := by
  obtain ⟨p, vs, rfl, hp, a⟩ := L_rd r f
  rw [nats_eq a] at hp
  refine v_cb1 ha fun Q k => ⟨p, _, rfl, SqL.of hp, by rw [List.length_map]; exact hl, fun m hm hle => ?_⟩
  have : m = ((maxT xs : Nat) : Int) := by
    obtain ⟨n, hn, rfl⟩ := List.mem_map.mp hm
    have h1 := maxT_le hn
    have h2 := hle _ (List.mem_map.mpr ⟨_, maxT_mem hl, rfl⟩)
    simp only [Int.ofNat_eq_natCast] at h2 ⊢
    omega
  rw [this]; exact k
theorem vn_maxX (r : XL pN H0 F H p xs) (hl : 0 < xs.length) (ha : Val ta σ H (.ref p)) : Val (tCB (L2.rMax K) (tCons ta tNil)) σ H (.int ((maxT xs : Nat) : Int)) := by
  obtain ⟨vs, hp, a⟩ := r.rd
  rw [nats_eq a] at hp
  refine v_cb1 ha fun Q k => ⟨p, _, rfl, SqL.of hp, by rw [List.length_map]; exact hl, fun m hm hle => ?_⟩
  have : m = ((maxT xs : Nat) : Int) := by
    obtain ⟨n, hn, rfl⟩ := List.mem_map.mp hm
    have h1 := maxT_le hn
    have h2 := hle _ (List.mem_map.mpr ⟨_, maxT_mem hl, rfl⟩)
    simp only [Int.ofNat_eq_natCast] at h2 ⊢
    omega
  rw [this]; exact k
theorem sum_nats : ∀ xs : List Nat, (xs.map Int.ofNat).sum = ((xs.sum : Nat) : Int)
  | [] => rfl
  | x :: xs => by rw [List.map_cons, List.sum_cons, List.sum_cons, sum_nats xs]; simp
/-- sum(xs) -/
theorem vn_sum (r : (pL pN).r F v xs) (f : Ex F H) (ha : Val ta σ H v) : Val (tCB (L2.rSum K) (tCons ta tNil)) σ H (.int ((xs.sum : Nat) : Int)) := by
  obtain ⟨p, vs, rfl, hp, a⟩ := L_rd r f
  rw [nats_eq a] at hp
  exact v_cb1 ha fun Q k => ⟨p, _, rfl, SqL.of hp, by rw [sum_nats]; exact k⟩
theorem vn_sumX (r : XL pN H0 F H p xs) (ha : Val ta σ H (.ref p)) : Val (tCB (L2.rSum K) (tCons ta tNil)) σ H (.int ((xs.sum : Nat) : Int)) := by
  obtain ⟨vs, hp, a⟩ := r.rd
  rw [nats_eq a] at hp
  exact v_cb1 ha fun Q k => ⟨p, _, rfl, SqL.of hp, by rw [sum_nats]; exact k⟩
/-- xs.remove(x) -/
theorem first_of {x : Nat} : ∀ {xs : List Nat}, x ∈ xs → ∃ j, xs[j]? = some x ∧ (∀ m, m < j → xs[m]? ≠ some x) ∧ xs.eraseIdx j = xs.erase x
  | [], h => by cases h
  | y :: xs, h => by
    by_cases e : y = x
    · subst e
      exact ⟨0, rfl, fun m hm => absurd hm (Nat.not_lt_zero _), by simp⟩
    · obtain ⟨j, h1, h2, h3⟩ := first_of (xs := xs) ((List.mem_cons.mp h).resolve_left fun z => e z.symm)
      refine ⟨j + 1, by simpa using h1, fun m hm => ?_, ?_⟩
      · cases m with
        | zero => simpa using e
        | succ m => simpa using h2 m (by omega)
      · rw [List.eraseIdx_cons_succ, h3, List.erase_cons_tail (by simpa using e)]
theorem erase_map {α β : Type} (f : α → β) : ∀ (xs : List α) (j : Nat), (xs.map f).eraseIdx j = (xs.eraseIdx j).map f
  | [], _ => rfl
  | _ :: _, 0 => rfl
  | x :: xs, j + 1 => by rw [List.map_cons, List.eraseIdx_cons_succ, List.eraseIdx_cons_succ, List.map_cons, erase_map f xs j]
theorem a_rem (z : XL pN H0 F H p xs) (w : Wf F0 H0 F H) (hx : x ∈ xs) (k : ∀ H', Wf F0 H0 F H' → XL pN H0 F H' p (xs.erase x) → (∀ q o, H q = some o → q ≠ p → H' q = some o) → Q .non H') : L2.rRemI (.ref p) [.int (x : Int)] H Q := by
  obtain ⟨vs, a, b⟩ := z.x
  have e := nats_eq b
  obtain ⟨j, h1, h2, h3⟩ := first_of hx
  have hh := a.h
  rw [e] at hh
  refine ⟨p, _, _, j, rfl, rfl, hh, by rw [List.getElem?_map, h1]; rfl, fun m hm z => h2 m hm ?_, ?_⟩
  · rw [List.getElem?_map] at z
    cases q : xs[m]? with
    | none => rw [q] at z; cases z
    | some y =>
      rw [q] at z
      have : Int.ofNat y = (x : Int) := Option.some.inj z
      have : y = x := by simp only [Int.ofNat_eq_natCast] at this; omega
      rw [this]
  · refine k _ (w.set a) ⟨_, a.set, ?_⟩ fun q o h hq => by rw [upd_ne hq]; exact h
    have e4 : ((xs.map Int.ofNat).eraseIdx j).map V.int = ((xs.erase x).map Int.ofNat).map V.int := by
      rw [← h3, erase_map]
    rw [e4]
    have go : ∀ ys : List Nat, All pN F ((ys.map Int.ofNat).map V.int) ys := by
      intro ys
      induction ys with
      | nil => trivial
      | cons y ys ih => exact ⟨rfl, ih⟩
    exact go _
/-- sorted(d), the keys numbers -/
def rSortedDI : List V → Hp → VK → Prop := fun xs H Q => ∃ (a : Addr) (kvs : List (Key × V)) (ks : List Int), xs = [.ref a] ∧ Rd H a (.dK kvs) ∧ kvs.map (·.1) = ks.map Sum.inl ∧ ks.length < 64 ∧ ∀ (ys : List Int) (p : Addr), ys.Perm ks → ys.Pairwise (· ≤ ·) → H p = none → Q (.ref p) (upd H p (.lst (ys.map V.int)))
theorem DA.nkeys {α : Type} {e : Rep α} {F : Hp} : ∀ {kvs : List (Key × V)} {m : List (Nat × α)}, DA e F kvs m → kvs.map (·.1) = ((m.map (·.1)).map Int.ofNat).map Sum.inl
  | [], [], _ => rfl
  | p :: r, q :: s, ⟨a, _, c⟩ => by rw [List.map_cons, List.map_cons, List.map_cons, List.map_cons, DA.nkeys c, a]; rfl
  | [], _ :: _, q => q.elim
  | _ :: _, [], q => q.elim
theorem n_sortD {α : Type} {e : Rep α} {m : List (Nat × α)} (r : (pD e).r F v m) (w : Wf F0 H0 F H) (hl : m.length < 64) (k : ∀ (ys : List Nat) p H', ys.Perm (m.map (·.1)) → ys.Pairwise (· ≤ ·) → H p = none → Wf F H F H' → XL pN H0 F H' p ys → Q (.ref p) H') : rSortedDI [v] H Q := by
  obtain ⟨p, kvs, rfl, hp, a⟩ := r
  refine ⟨p, kvs, (m.map (·.1)).map Int.ofNat, rfl, .inl (w.f _ _ hp), a.nkeys, by rw [List.length_map, List.length_map]; exact hl, fun ys q hperm hs hq => ?_⟩
  have e1 : ys = (ys.map Int.toNat).map Int.ofNat := by
    rw [List.map_map]
    have : ys.map (Int.ofNat ∘ Int.toNat) = ys.map id := List.map_congr_left fun y hy => by
      obtain ⟨n, _, rfl⟩ := List.mem_map.mp (hperm.mem_iff.mp hy)
      rfl
    rw [this, List.map_id]
  have e2 : (ys.map Int.toNat).Perm (m.map (·.1)) := by
    have := hperm.map Int.toNat
    rw [List.map_map (l := m.map (·.1))] at this
    have z : (m.map (·.1)).map (Int.toNat ∘ Int.ofNat) = (m.map (·.1)).map id := List.map_congr_left fun y _ => rfl
    rw [z, List.map_id] at this
    exact this
  have e3 : (ys.map Int.toNat).Pairwise (· ≤ ·) := List.pairwise_map.mpr (hs.imp fun h => Int.toNat_le_toNat h)
  have go : ∀ zs : List Nat, All pN F ((zs.map Int.ofNat).map V.int) zs := by
    intro zs
    induction zs with
    | nil => trivial
    | cons y zs ih => exact ⟨rfl, ih⟩
  have a2 := go (ys.map Int.toNat)
  rw [← e1] at a2
  exact k _ q _ e2 e3 hq (Wf.newX w.f hq) ⟨_, Xc.mk' w hq, a2⟩
end
end Wk

namespace Wk
open PySem L2
/-- one of two kinds -/
def pAlt {α β : Type} (e : Rep α) (f : Rep β) : Rep (Sum α β) := ⟨fun F v x => match x with | .inl a => e.r F v a | .inr b => f.r F v b, fun {_ _ _ x} h q => by cases x with | inl a => exact e.mono h q | inr b => exact f.mono h q⟩
theorem alt_n {α : Type} {e : Rep α} {F : Hp} {v : V} {x : Sum α Nat} {y : Nat} (r : (pAlt e pN).r F v x) (h : x = Sum.inr y) : v = .int ((y : Nat) : Int) := by subst h; exact r
theorem alt_l {α β : Type} {e : Rep α} {f : Rep β} {F : Hp} {v : V} {x : Sum α β} {y : α} (r : (pAlt e f).r F v x) (h : x = Sum.inl y) : e.r F v y := by subst h; exact r
def rLenD : List V → Hp → VK → Prop := fun xs H Q => ∃ (p : Addr) (kvs : List (Key × V)), xs = [.ref p] ∧ H p = some (.dK kvs) ∧ Q (.int kvs.length) H
theorem len_D {κ α : Type} [DecidableEq κ] [KeyT κ] {e : Rep α} {F H : Hp} {v : V} {m : List (κ × α)} {σ : L2.St} {ta : TE} (r : (pD e).r F v m) (f : Ex F H) (ha : Val ta σ H v) : Val (tCB rLenD (tCons ta tNil)) σ H (.int ((m.length : Nat) : Int)) := by
  obtain ⟨p, kvs, rfl, hp, a⟩ := D_rd r f
  exact v_cb1 ha fun Q k => ⟨p, kvs, rfl, hp, by rw [a.len]; exact k⟩
end Wk
/-! SrtD: sorted(d) of a dict whose keys are numbers, however many (after the rule for fewer than 64, with the sort of SortInts). -/
namespace Wk
open PySem PySem.Spec PyProof.Rows L2
/-- sorted(d), any number of keys -/
def rSortedDX : List V → Hp → VK → Prop := fun xs H Q => ∃ (a : Addr) (kvs : List (Key × V)) (ks : List Int), xs = [.ref a] ∧ Rd H a (.dK kvs) ∧ kvs.map (·.1) = ks.map Sum.inl ∧ ks.length < 1000000 ∧ ∀ (ys : List Int) (p : Addr), ys.Perm ks → ys.Pairwise (· ≤ ·) → H p = none → Q (.ref p) (upd H p (.lst (ys.map V.int)))
section
variable {X : Cx}
theorem call_sortedDX (hcalm : X.calm = true) : CallR X (.builtin "sorted") rSortedDX := by
  intro pins s σ H xs us Q Iv rr qq
  obtain ⟨da, kvs, ks, ex, hd, hks, hbig, qq⟩ := qq
  subst ex
  obtain ⟨u1, eu, rx⟩ := vals1 rr
  subst eu
  cases rx
  obtain ⟨zz, lo, vs, rel, dd⟩ := dk_rd Iv.hok hd
  obtain ⟨ep, hat⟩ := dd.dictAt
  have hks2 : vs.map (·.1) = ks.map Sum.inl := rel.keys.symm.trans hks
  have hln : vs.length = ks.length := by
    have el := congrArg List.length hks2
    rw [List.length_map, List.length_map] at el; exact el
  have hsz : ks.length ≤ sizeLine := by rw [sizeLine_eq]; omega
  refine Calls.call_function_entry kind_sorted plain_sorted entry_sorted (args_sorted1 _) ?_
  unfold Builtin.«sorted»
  refine wpAny_bind (m := checkCount "sorted" 1 1 _) (wpAny_pure ?_)
  refine wpAny_bind (PySem.W.kdu_collect (A := X.A.in1) (PySem.W.kdl_dict (knd := mixKind X.prog X.w) (kvs := vs) (ep := ep) lo) (Iv.ok.hd hcalm) hat (by rw [hln]; exact hsz) fun hp2 tk2 ac hkp hac => ?_)
  have hal2 : ac.toList.length = ks.length := by rw [Array.length_toList, hac.1, hln]
  have hInt : IntsAre ac.toList ks := ints_each hal2 fun j v e => by
    obtain ⟨key, x, e1, e2⟩ := hac.2 j v (by rw [← Array.getElem?_toList]; exact e)
    have e3 : (vs.map (·.1))[j]? = some key := by rw [List.getElem?_map, e1]; rfl
    rw [hks2, List.getElem?_map] at e3
    cases e4 : ks[j]? with
    | none => rw [e4] at e3; cases e3
    | some y =>
      rw [e4] at e3
      have e5 : Sum.inl y = key := Option.some.inj e3
      subst e5
      rcases keyIs_shape (show keyIs (Sum.inl y) v = true from e2) with ⟨i, t, ek, ev⟩ | ⟨z, t, ek, ev⟩
      · cases ek; exact ⟨y, t, rfl, ev⟩
      · cases ek
  have Iv2 : Inv X pins σ H { s with heap := hp2, toks := tk2 } := Iv.kept hkp
  refine wpAny_bind (wpAny_newList ?_ (by rw [hal2]; exact hsz))
  have hob2 : (hp2.push (seqObj "list" ac.toList.toArray 0)).get? hp2.objs.size = some (seqObj "list" ac.toList.toArray 0) := Heap.get?_push_size _ rfl
  show wpAny _ _ _ _ _ { s with heap := hp2.push (seqObj "list" ac.toList.toArray 0), toks := tk2 }
  refine wpAny_bind (wpAny_holding (wpAny_call_entry slot_list_sort ⟨_, hob2, rfl⟩ entry_list_sort
    (SrtO.list_sort_ord (s := { s with heap := hp2.push (seqObj "list" ac.toList.toArray 0), toks := tk2 }) SrtO.swo_int hob2 (by rw [hal2]; exact hsz) (fun h2 => SrtO.ints_sortable hInt h2) fun out g1 g2 => ⟨_, rfl, ?_⟩) (args_list_sort _)))
  obtain ⟨k1, k2, k3⟩ := SrtO.ints_out hInt g1 g2
  obtain ⟨ep2, hep2⟩ := sortedHeap_at (vs := ac.toList) (out := out.toArray) hob2
  have hlen2 : ((out.map SrtO.iv).map V.int).length ≤ sizeLine := by rw [List.length_map, k2.length_eq]; exact hsz
  refine wpAny_pure ⟨_, rfl, .ref hp2.objs.size, upd H hp2.objs.size (.lst ((out.map SrtO.iv).map V.int)), Iv2.laid (t' := tk2) (fun b u e => ?_) (Nat.le_refl _)
    (show ObjOk X.prog X.w _ _ _ (.lst ((out.map SrtO.iv).map V.int)) from ⟨hlen2, out, ep2, vals_of_ints k1, hep2⟩), rfl, qq _ _ k2 k3 (Iv2.hok.fresh (Nat.le_refl _))⟩
  have hbl : b < hp2.objs.size := Heap.lt_size e
  rw [sortedHeap_old (Nat.ne_of_lt hbl) (by rw [size_push']; exact Nat.lt_succ_of_lt hbl)]
  exact Heap.get?_push_of_some _ e
end
section
variable {K : PySem.W.Frag} {F0 H0 F H H' : Hp} {Q : VK} {v : V}
theorem n_sortDX {α : Type} {e : Rep α} {m : List (Nat × α)} (r : (pD e).r F v m) (w : Wf F0 H0 F H) (hl : m.length < 1000000) (k : ∀ (ys : List Nat) p H', ys.Perm (m.map (·.1)) → ys.Pairwise (· ≤ ·) → H p = none → Wf F H F H' → XL pN H0 F H' p ys → Q (.ref p) H') : rSortedDX [v] H Q := by
  obtain ⟨p, kvs, rfl, hp, a⟩ := r
  refine ⟨p, kvs, (m.map (·.1)).map Int.ofNat, rfl, .inl (w.f _ _ hp), a.nkeys, by rw [List.length_map, List.length_map]; exact hl, fun ys q hperm hs hq => ?_⟩
  have e1 : ys = (ys.map Int.toNat).map Int.ofNat := by
    rw [List.map_map]
    have : ys.map (Int.ofNat ∘ Int.toNat) = ys.map id := List.map_congr_left fun y hy => by
      obtain ⟨n, _, rfl⟩ := List.mem_map.mp (hperm.mem_iff.mp hy)
      rfl
    rw [this, List.map_id]
  have e2 : (ys.map Int.toNat).Perm (m.map (·.1)) := by
    have := hperm.map Int.toNat
    rw [List.map_map (l := m.map (·.1))] at this
    have z : (m.map (·.1)).map (Int.toNat ∘ Int.ofNat) = (m.map (·.1)).map id := List.map_congr_left fun y _ => rfl
    rw [z, List.map_id] at this
    exact this
  have e3 : (ys.map Int.toNat).Pairwise (· ≤ ·) := List.pairwise_map.mpr (hs.imp fun h => Int.toNat_le_toNat h)
  have go : ∀ zs : List Nat, All pN F ((zs.map Int.ofNat).map V.int) zs := by
    intro zs
    induction zs with
    | nil => trivial
    | cons y zs ih => exact ⟨rfl, ih⟩
  have a2 := go (ys.map Int.toNat)
  rw [← e1] at a2
  exact k _ q _ e2 e3 hq (Wf.newX w.f hq) ⟨_, Xc.mk' w hq, a2⟩
end
end Wk
/-! Xn: defs that may raise; try. -/
namespace Wk
open PySem L2
def tTry (K : PySem.W.Frag) (c : Value) (tb : WX → TS) (ts : Addr → Value → Option Addr → TS) (Wout : WX) : TS := fun D σ H => tb (wOnly K c ts Wout D) D σ H
theorem a_tryI {K : PySem.W.Frag} {c : Value} {tb : WX → TS} {ts : Addr → Value → Option Addr → TS} {Wout : WX} {D : Ends} {σ : L2.St} {H : Hp} (h : tb (wOnly K c ts Wout D) D σ H) : tTry K c tb ts Wout D σ H := h
theorem a_exc {K : PySem.W.Frag} {c cls : Value} {d : Option Addr} {ts : Addr → Value → Option Addr → TS} {Wout : WX} {D : Ends} {σ : L2.St} {H : Hp} (he : PySem.W.exmOne K cls c = some true) (h : ∀ a, H a = none → ts a cls d D σ H) : wOnly K c ts Wout D cls d σ H :=
  ⟨true, he, fun _ => h, fun q => Bool.noConfusion q⟩
theorem a_excO {K : PySem.W.Frag} {c cls : Value} {d : Option Addr} {ts : Addr → Value → Option Addr → TS} {Wout : WX} {D : Ends} {σ : L2.St} {H : Hp} (he : PySem.W.exmOne K cls c = some false) (h : Wout cls d σ H) : wOnly K c ts Wout D cls d σ H :=
  ⟨false, he, fun q => Bool.noConfusion q, fun _ => h⟩
/-- raise, in short -/
def tRaise (W : WX) (C : Addr) : TS := fun _ σ H => W (.ref C) none σ H
theorem e_callS {sp : Sp} {E : L2.St → XK} {tA : TA} {σ : L2.St} {H : Hp} {Q : VK} (h : tA σ H fun vs H1 => sp vs H1 Q (E σ)) : tCallS sp E tA σ H Q := h
/-- what the walk asks of an exception's class -/
structure XC (K : PySem.W.Frag) (mg : Str → Option Value) (n : Str) (C : Addr) : Prop where
  x : PySem.W.excIn K C [.type "ValueError", .type "Exception", .type "BaseException", .type "object"] "ValueError.__new__" = true
  g : mg n = some (.ref C)
  k : PySem.W.keepIn K (.ref C) = true
  b : PySem.W.subIn K (.ref C) (.type "BaseException") = some true
  t : PySem.W.typeIn K (.ref C) = some (.type "type")
theorem exm_of {K : PySem.W.Frag} {S T : Addr} {b : Bool} (h1 : PySem.W.subIn K (.ref T) (.type "BaseException") = some true) (h2 : PySem.W.isClsIn K T = true) (h3 : PySem.W.typeIn K (.ref T) = some (.type "type")) (h4 : PySem.W.subIn K (.ref S) (.ref T) = some b) :
    PySem.W.exmOne K (.ref S) (.ref T) = some b := by
  have e1 : (PySem.W.subIn K (.ref T) (.type "BaseException") == some true) = true := by rw [h1]; rfl
  have e2 : ((PySem.W.clsIn K T).isSome && PySem.W.typeIn K (.ref T) == some (.type "type")) = true := by
    have h2' : (PySem.W.clsIn K T).isSome = true := h2
    rw [h2', h3]; rfl
  show (if (PySem.W.subIn K (.ref T) (.type "BaseException") == some true) = true then (if ((PySem.W.clsIn K T).isSome && PySem.W.typeIn K (.ref T) == some (.type "type")) = true then PySem.W.subIn K (.ref S) (.ref T) else none) else none) = some b
  rw [if_pos e1, if_pos e2]; exact h4
section
variable {X : Cx} {k : Nat} {C : Addr} {x m : Str} {ps : List Str} {sp : Sp} {W : WX} {o e : Expr} {es : List Expr} {p pos apos : Pos} {ta : TE} {t : TA} {pl : Sem Bool}
theorem pe_fnL (F : Fn X.prog X.w X.K X.mg X.base (L2.CX X.prog X.w) k x ps sp) (hr : Room k X.A) (hg : Gl X x) (ha : PA X (e :: es) t) (hdb : (x == ("__debug__" : Str)) = false := by decide)
    (he : starEach (e :: es) X.env = (false, eval e X.env) :: starEach es X.env := by rfl) (hpl : (backTo pos (starEach es X.env)).any (·.1) = false := by rfl) : PE X (.Call (.Name x p) (e :: es) [] pos) (tCall sp [] E0 t) := by
  obtain ⟨f, fd, F, hm, hk, hb⟩ := F.ex
  exact pe_call F hr hg hm hk hb .nil passL ha hdb he hpl
theorem pe_fnS (F : Fn X.prog X.w X.K X.mg X.base (L2.CX X.prog X.w) k x ps sp) (tk : Takes X W) (hr : Room k X.A) (hg : Gl X x) (ha : PA X (e :: es) t) (hdb : (x == ("__debug__" : Str)) = false := by decide)
    (he : starEach (e :: es) X.env = (false, eval e X.env) :: starEach es X.env := by rfl) (hpl : (backTo pos (starEach es X.env)).any (·.1) = false := by rfl) : PE X (.Call (.Name x p) (e :: es) [] pos) (tCallS sp (WE W) t) := by
  obtain ⟨f, fd, F, hm, hk, hb⟩ := F.ex
  exact pe_callS F hr hg hm hk hb (fun σ => passAt tk σ) ha hdb he hpl
/-- methods -/
theorem pe_mdL (M : Md X.prog X.w X.K X.mg X.base (L2.CX X.prog X.w) k C m ps sp) (cl : Cls X.K C) (hr : Room k X.A) (he : PE X o ta) (ha : PA X (e :: es) t)
    (hst : starEach (e :: es) X.env = (false, eval e X.env) :: starEach es X.env := by rfl) (hpl : (backTo pos (starEach es X.env)).any (·.1) = false := by rfl)
    (ht : eval (.Call (.Attribute o m apos) (e :: es) [] pos) X.env = (do
      let ov ← eval o X.env
      standAt apos.atName
      let (f, first) ← holding [ov] (getMethod ov m pl)
      callWith pos f first (backTo pos (starEach (e :: es) X.env)) (backToKw pos (keywordEach [] X.env))) := by rfl) :
    PE X (.Call (.Attribute o m apos) (e :: es) [] pos) (tMeth C m sp [] E0 ta t) := by
  obtain ⟨f, fd, F, hm, hb⟩ := M.ex
  exact pe_meth he cl hm F hr hb .nil passL ha hst hpl ht
def tMdS (C : Addr) (m : Str) (sp : Sp) (E : L2.St → XK) (ta : TE) (t : TA) : TE := fun σ H Q => ta σ H fun x H1 => ∃ a dx fs, x = .ref a ∧ H1 a = some (.ins C dx fs) ∧ fs.lookup m = none ∧ t σ H1 fun vs H2 => sp (x :: vs) H2 Q (E σ)
theorem e_mdS {E : L2.St → XK} {σ : L2.St} {H : Hp} {Q : VK} (h : ta σ H fun x H1 => ∃ a dx fs, x = .ref a ∧ H1 a = some (.ins C dx fs) ∧ fs.lookup m = none ∧ t σ H1 fun vs H2 => sp (x :: vs) H2 Q (E σ)) : tMdS C m sp E ta t σ H Q := h
theorem pe_mdS (M : Md X.prog X.w X.K X.mg X.base (L2.CX X.prog X.w) k C m ps sp) (tk : Takes X W) (cl : Cls X.K C) (hr : Room k X.A) (he : PE X o ta) (ha : PA X (e :: es) t)
    (hst : starEach (e :: es) X.env = (false, eval e X.env) :: starEach es X.env := by rfl) (hpl : (backTo pos (starEach es X.env)).any (·.1) = false := by rfl)
    (ht : eval (.Call (.Attribute o m apos) (e :: es) [] pos) X.env = (do
      let ov ← eval o X.env
      standAt apos.atName
      let (f, first) ← holding [ov] (getMethod ov m pl)
      callWith pos f first (backTo pos (starEach (e :: es) X.env)) (backToKw pos (keywordEach [] X.env))) := by rfl) :
    PE X (.Call (.Attribute o m apos) (e :: es) [] pos) (tMdS C m sp (WE W) ta t) := by
  obtain ⟨f, fd, F, hm, hb⟩ := M.ex
  refine ⟨fun pins s σ H Q Iv hh => ?_⟩
  refine PySem.W.methodCall_KW (pl := pl) (thn (he.run pins s σ H _ Iv hh) fun u s1 ⟨x, H1, Iv1, rx, a, dx, fs, ex, ea, lk, qq⟩ => ?_) ht
  subst ex
  obtain rfl : u = Value.ref a := rx
  refine getmeth_ok Iv1 ea cl hm lk ?_
  refine PySem.W.callWith_K (first := [.ref a]) (h₀ := X.base) Iv1.ok.mod.kin hm.kp (thn (ha.run pos pins s1 σ H1 _ Iv1 qq) fun us s2 ⟨vs, H2, Iv2, rv, q2⟩ => ⟨Iv2.kIn, ?_⟩) hst hpl
  exact run_fnS (us := .ref a :: us) (vs := .ref a :: vs) F hr hb (passAt tk σ) Iv2 (.cons rfl rv) q2
end
theorem a_par {i j : Nat} {tA : TA} {D : Ends} {σ : L2.St} {H : Hp} (h : tA σ H fun vs H1 => ∃ v w, vs = [v, w] ∧ D.nx ((σ.set i (some v)).set j (some w)) H1) : tPar i j tA D σ H := h
theorem a_raise {W : WX} {C : Addr} {D : Ends} {σ : L2.St} {H : Hp} (h : W (.ref C) none σ H) : tRaise W C D σ H := h
end Wk
/-! An: things of any kind; constants of the module. -/
namespace Wk
open PySem L2
/-- a thing: a whole number, a truth, None, a text, or another one of a kind that is told -/
inductive An where
  | i (n : Int)
  | b (b : Bool)
  | n
  | s (x : Str)
  | o (T : String)
  | l (xs : List An)
  | t (xs : List An)
mutual
def anR (F : Hp) : An → V → Prop
  | .i n, v => v = .int n
  | .b b, v => v = .bl b
  | .n, v => v = .non
  | .s x, v => v = .str x
  | .o T, v => ∃ p, v = .ref p ∧ ((T = "list" ∧ ∃ vs, F p = some (.lst vs)) ∨ (T = "tuple" ∧ ∃ vs, F p = some (.tup vs)) ∨ (T = "dict" ∧ ∃ kvs, F p = some (.dK kvs)))
  | .l xs, v => ∃ p vs, v = .ref p ∧ F p = some (.lst vs) ∧ anRs F xs vs
  | .t xs, v => ∃ p vs, v = .ref p ∧ F p = some (.tup vs) ∧ anRs F xs vs
def anRs (F : Hp) : List An → List V → Prop
  | [], [] => True
  | x :: xs, v :: vs => anR F x v ∧ anRs F xs vs
  | _, _ => False
end
mutual
theorem anR_mono {F F' : Hp} (h : Ex F F') : ∀ {x : An} {v : V}, anR F x v → anR F' x v
  | .i _, _, r => r
  | .b _, _, r => r
  | .n, _, r => r
  | .s _, _, r => r
  | .o T, v, r => by
    obtain ⟨p, e, q⟩ := (show ∃ p, v = .ref p ∧ _ from r)
    refine ⟨p, e, ?_⟩
    rcases q with ⟨t, vs, q⟩ | ⟨t, vs, q⟩ | ⟨t, vs, q⟩
    · exact .inl ⟨t, vs, h _ _ q⟩
    · exact .inr (.inl ⟨t, vs, h _ _ q⟩)
    · exact .inr (.inr ⟨t, vs, h _ _ q⟩)
  | .l _, _, ⟨p, vs, a, b, c⟩ => ⟨p, vs, a, h _ _ b, anRs_mono h c⟩
  | .t _, _, ⟨p, vs, a, b, c⟩ => ⟨p, vs, a, h _ _ b, anRs_mono h c⟩
theorem anRs_mono {F F' : Hp} (h : Ex F F') : ∀ {xs : List An} {vs : List V}, anRs F xs vs → anRs F' xs vs
  | [], [], _ => trivial
  | _ :: _, _ :: _, ⟨a, b⟩ => ⟨anR_mono h a, anRs_mono h b⟩
  | [], _ :: _, r => r.elim
  | _ :: _, [], r => r.elim
end
def pA : Rep An := ⟨fun F v x => anR F x v, fun h r => anR_mono h r⟩
theorem anRs_all {F : Hp} : ∀ {xs : List An} {vs : List V}, anRs F xs vs ↔ All pA F vs xs
  | [], [] => Iff.rfl
  | x :: xs, v :: vs => ⟨fun ⟨a, b⟩ => ⟨a, anRs_all.mp b⟩, fun ⟨a, b⟩ => ⟨a, anRs_all.mpr b⟩⟩
  | [], _ :: _ => ⟨fun q => q.elim, fun q => q.elim⟩
  | _ :: _, [] => ⟨fun q => q.elim, fun q => q.elim⟩
theorem an_l {F : Hp} {v : V} {xs : List An} : pA.r F v (.l xs) ↔ (pL pA).r F v xs :=
  ⟨fun r => let ⟨p, vs, a, b, c⟩ := (show ∃ p vs, v = .ref p ∧ F p = some (.lst vs) ∧ anRs F xs vs from r); ⟨p, vs, a, b, anRs_all.mp c⟩, fun ⟨p, vs, a, b, c⟩ => (show ∃ p vs, v = .ref p ∧ F p = some (.lst vs) ∧ anRs F xs vs from ⟨p, vs, a, b, anRs_all.mpr c⟩)⟩
theorem an_t {F : Hp} {v : V} {xs : List An} : pA.r F v (.t xs) ↔ (pTL pA).r F v xs :=
  ⟨fun r => let ⟨p, vs, a, b, c⟩ := (show ∃ p vs, v = .ref p ∧ F p = some (.tup vs) ∧ anRs F xs vs from r); ⟨p, vs, a, b, anRs_all.mp c⟩, fun ⟨p, vs, a, b, c⟩ => (show ∃ p vs, v = .ref p ∧ F p = some (.tup vs) ∧ anRs F xs vs from ⟨p, vs, a, b, anRs_all.mpr c⟩)⟩
/-- readings as things of any kind -/
def Cv {α : Type} (e : Rep α) (f : α → An) : Prop := ∀ {F : Hp} {v : V} {x : α}, e.r F v x → pA.r F v (f x)
theorem cv_nat : Cv pN (fun n => .i (n : Int)) := fun r => r
theorem cv_int : Cv pI .i := fun r => r
theorem cv_bool : Cv pB .b := fun r => r
theorem cv_str : Cv pS .s := fun r => r
theorem cv_any : Cv pA (fun x => x) := fun r => r
theorem cv_unit : Cv pU (fun _ => .n) := fun r => r
theorem cv_all {α : Type} {e : Rep α} {f : α → An} (h : Cv e f) {F : Hp} : ∀ {vs : List V} {xs : List α}, All e F vs xs → All pA F vs (xs.map f)
  | [], [], _ => trivial
  | _ :: _, _ :: _, ⟨a, b⟩ => ⟨h a, cv_all h b⟩
  | [], _ :: _, q => q.elim
  | _ :: _, [], q => q.elim
theorem cv_L {α : Type} {e : Rep α} {f : α → An} (h : Cv e f) : Cv (pL e) (fun xs => .l (xs.map f)) := fun ⟨p, vs, a, b, c⟩ => an_l.mpr ⟨p, vs, a, b, cv_all h c⟩
theorem cv_TL {α : Type} {e : Rep α} {f : α → An} (h : Cv e f) : Cv (pTL e) (fun xs => .t (xs.map f)) := fun ⟨p, vs, a, b, c⟩ => an_t.mpr ⟨p, vs, a, b, cv_all h c⟩
theorem cv_T2 {α β : Type} {e : Rep α} {g : Rep β} {f : α → An} {k : β → An} (h : Cv e f) (h2 : Cv g k) : Cv (pT2 e g) (fun x => .t [f x.1, k x.2]) := fun ⟨p, u, w, a, b, c, d⟩ => an_t.mpr ⟨p, _, a, b, h c, h2 d, trivial⟩
theorem cv_T3 {α β γ : Type} {e : Rep α} {g : Rep β} {g2 : Rep γ} {f : α → An} {k : β → An} {k2 : γ → An} (h : Cv e f) (h2 : Cv g k) (h3 : Cv g2 k2) : Cv (pT3 e g g2) (fun x => .t [f x.1, k x.2.1, k2 x.2.2]) := fun ⟨p, u, w, y, a, b, c, d, q⟩ => an_t.mpr ⟨p, _, a, b, h c, h2 d, h3 q, trivial⟩
def An.ty : An → String
  | .i _ => "int"
  | .b _ => "bool"
  | .n => "NoneType"
  | .s _ => "str"
  | .o T => T
  | .l _ => "list"
  | .t _ => "tuple"
/-- isinstance(x, T) for a built-in T -/
def isA (T : String) (x : An) : Bool := x.ty == T || (T == "int" && x.ty == "bool")
section
variable {α β : Type} {e : Rep α} {f : Rep β} {K : PySem.W.Frag} {σ : L2.St} {F F' H : Hp} {ta : TE} {v : V} {x : An} {xs : List α} {y : α × β}
theorem an_L (r : (pL e).r F v xs) : pA.r F v (.o "list") := let ⟨p, vs, a, b, _⟩ := r; (show ∃ p, v = .ref p ∧ _ from ⟨p, a, .inl ⟨rfl, vs, b⟩⟩)
theorem an_TL (r : (pTL e).r F v xs) : pA.r F v (.o "tuple") := let ⟨p, vs, a, b, _⟩ := r; (show ∃ p, v = .ref p ∧ _ from ⟨p, a, .inr (.inl ⟨rfl, vs, b⟩)⟩)
theorem an_T2 (r : (pT2 e f).r F v y) : pA.r F v (.o "tuple") := let ⟨p, u, w, a, b, _⟩ := r; (show ∃ p, v = .ref p ∧ _ from ⟨p, a, .inr (.inl ⟨rfl, _, b⟩)⟩)
theorem an_ty (r : pA.r F v x) (h : Ex F H) : TyX K H v (.type x.ty) := by
  cases x with
  | i n => cases (show v = V.int n from r); exact .base (.int _)
  | b b => cases (show v = V.bl b from r); exact .base (.bl _)
  | n => cases (show v = V.non from r); exact .base .non
  | s x => cases (show v = V.str x from r); exact .base (.str _)
  | o T =>
    obtain ⟨p, rfl, q⟩ := (show ∃ p, v = .ref p ∧ _ from r)
    rcases q with ⟨rfl, vs, q⟩ | ⟨rfl, vs, q⟩ | ⟨rfl, vs, q⟩
    · exact .base (.lst (h _ _ q))
    · exact .base (.tup (h _ _ q))
    · exact .base (.dK (h _ _ q))
  | l xs =>
    obtain ⟨p, vs, rfl, q, _⟩ := an_l.mp r
    exact .base (.lst (h _ _ q))
  | t xs =>
    obtain ⟨p, vs, rfl, q, _⟩ := an_t.mp r
    exact .base (.tup (h _ _ q))
/-- the classes that are asked for -/
def okT (T : String) : Bool := ["int", "bool", "str", "list", "tuple", "dict"].all fun t => ["int", "bool", "NoneType", "str", "list", "tuple", "dict"].all fun u => kitB u T == some (u == T || (T == "int" && u == "bool"))
theorem kit_isA (T : String) (r : pA.r F v x) (hT : ∀ u ∈ ["int", "bool", "NoneType", "str", "list", "tuple", "dict"], kitB u T = some (u == T || (T == "int" && u == "bool"))) : kitB x.ty T = some (isA T x) := by
  unfold isA
  cases x with
  | i n => exact hT "int" (by simp)
  | b b => exact hT "bool" (by simp)
  | n => exact hT "NoneType" (by simp)
  | s x => exact hT "str" (by simp)
  | o T' =>
    obtain ⟨p, _, q⟩ := (show ∃ p, v = .ref p ∧ _ from r)
    rcases q with ⟨e, _⟩ | ⟨e, _⟩ | ⟨e, _⟩ <;> subst e
    · exact hT "list" (by simp)
    · exact hT "tuple" (by simp)
    · exact hT "dict" (by simp)
  | l xs => exact hT "list" (by simp)
  | t xs => exact hT "tuple" (by simp)
theorem v_isiA (T : String) (ha : Val ta σ H v) (r : pA.r F v x) (h : Ex F H) (hT : ∀ u ∈ ["int", "bool", "NoneType", "str", "list", "tuple", "dict"], kitB u T = some (u == T || (T == "int" && u == "bool")) := by decide +kernel) : Val (tCB (rIsi K) (tCons ta (tCons (tC (.ty T)) tNil))) σ H (.bl (isA T x)) :=
  v_isi ha (an_ty r h) (kit_isA T r hT)
theorem an_i {n : Int} (r : pA.r F v x) (h : x = An.i n) : v = .int n := by subst h; exact r
theorem an_toL {ys : List An} (r : pA.r F v x) (h : x = An.l ys) : (pL pA).r F v ys := by subst h; exact an_l.mp r
end
/-- a constant of the module -/
theorem pe_globE {X : Cx} {x : Str} {v : V} {pos : Pos} (h : ∃ u, X.mg x = some u ∧ RelV v u) (hg : Gl X x) (hd : (x == ("__debug__" : Str)) = false := by decide) : PE X (.Name x pos) (tC v) := by
  obtain ⟨u, h1, h2⟩ := h
  exact pe_glob hg h1 h2 hd
end Wk
/-! ETup: enumerate(a tuple), after the rule for lists. -/
namespace PySem
open Sem (wp)
open AutoSeq1 (wpAny_loadPart')
theorem enumT_meets (tt : Addr) (o : Obj) (items : Array Value) (n : Nat) (hcls : o.cls = .type "tuple") (hdat : o.data = .seq items n) :
    Meets (Builtin.«enumerate.__new__» ⟨[.type "enumerate", .ref tt], []⟩) (fun _ R s => s.heap.get? tt = some o ∧
      R (.ok (.ret (.ref (s.heap.push { cls := .type "tuple_iterator", data := .fields #[.ref tt, .int 0 0] }).objs.size)))
        { s with heap := (s.heap.push { cls := .type "tuple_iterator", data := .fields #[.ref tt, .int 0 0] }).push { cls := .type "enumerate", data := .fields #[.none, .bool false, .ref s.heap.objs.size, rawInt 0, .none, .none] } }) :=
  .of_wp fun prog w A R s h => by
    obtain ⟨hp, g, d, tk, os⟩ := s
    obtain ⟨hl, h⟩ := h
    have hsub := sub_enumerate
    obtain ⟨oc, od, odt, osl⟩ := o
    replace hcls : oc = .type "tuple" := hcls
    replace hdat : odt = .seq items n := hdat
    subst hcls hdat
    have hT : Heap.IsTuple (Shared.heap ⟨hp, g, d, tk, os⟩) tt items := ⟨_, hl, rfl, n, rfl⟩
    wp_walk using wpAny_loadPart' hl
    refine wpAny_stack_any fun st => wpAny_pure ?_
    split
    · rename_i c _ _ _ _ _
      cases (c == Value.type "enumerate")
      · (wp_walk using wpAny_loadPart' hl, wpAny_pyIter_tuple hT); exact ⟨_, rfl, h⟩
      · (wp_walk using wpAny_loadPart' hl, wpAny_pyIter_tuple hT); exact ⟨_, rfl, h⟩
    · (wp_walk using wpAny_loadPart' hl, wpAny_pyIter_tuple hT); exact ⟨_, rfl, h⟩
section
variable {prog : Program} {w : World} {A : Around} {E : Value → Shared → Prop} {s : Shared}
theorem call_enumT {tt : Addr} {items : Array Value} {Q : Value → Shared → Prop} (hL : s.heap.IsTuple tt items)
    (h : ∀ h', IsEnum h' (s.heap.objs.size + 1) s.heap.objs.size 0 .none → h'.IsTupleIter s.heap.objs.size tt 0 → h'.objs.size = s.heap.objs.size + 2 → (∀ b o, s.heap.get? b = some o → h'.get? b = some o) → Q (.ref (s.heap.objs.size + 1)) { s with heap := h' }) :
    wpAny (model prog w) A (call (.type "enumerate") [.ref tt]) Q E s := by
  obtain ⟨ob, hl, hcl, n, hda⟩ := hL
  refine callType_new F.called_enumerate (by decide) (F.typeCall_enumerate_1 _) (F.newCall_enumerate_1 _) (fun obj => F.args_object_init_2 obj _) F.entry_enumerate_new (enumT_meets tt ob items n hcl hda) ⟨hl, ?_⟩
  have hsz : (s.heap.push { cls := .type "tuple_iterator", data := .fields #[.ref tt, .int 0 0] }).objs.size = s.heap.objs.size + 1 := Heap.size_push ..
  show _ ∧ _
  rw [hsz]
  have hen : IsEnum ((s.heap.push { cls := .type "tuple_iterator", data := .fields #[.ref tt, .int 0 0] }).push { cls := .type "enumerate", data := .fields #[.none, .bool false, .ref s.heap.objs.size, rawInt 0, .none, .none] }) (s.heap.objs.size + 1) s.heap.objs.size 0 .none := by
    have q := Heap.get?_push_size (s.heap.push { cls := .type "tuple_iterator", data := .fields #[.ref tt, .int 0 0] }) (o := { cls := .type "enumerate", data := .fields #[.none, .bool false, .ref s.heap.objs.size, rawInt 0, .none, .none] }) rfl
    rw [hsz] at q; exact q
  exact ⟨⟨_, hen, rfl⟩, h _ hen ⟨_, Heap.get?_push_of_some _ (Heap.get?_push_size _ rfl), rfl, rfl⟩ (by rw [Heap.size_push, hsz]) fun b o x => Heap.get?_push_of_some _ (Heap.get?_push_of_some _ x)⟩
end
end PySem
namespace Wk
open PySem PySem.Spec PyProof.Rows L2
/-- the tuple at a as it stands at each turn, each item in a new pair -/
def IteT (K : PySem.W.Frag) (a : Addr) : It :=
  ⟨fun i H => ∃ (xs : List V) (x : V), SqT K H a xs ∧ xs[i]? = some x, fun i H v H' => ∃ T x, v = .ref T ∧ H T = none ∧ H' = upd H T (.tup [.int (i : Nat), x]) ∧ ∀ xs, SqT K H a xs → xs[i]? = some x, fun i H => ∃ xs : List V, SqT K H a xs ∧ xs.length ≤ i⟩
theorem enumT_end {prog : Program} {w : World} {A : Around} {E : Value → Shared → Prop} {s : Shared} {en iw tt : Addr} {c : Int} {i : Nat} {items : Array Value} {old : Value} {Q : Option Value → Shared → Prop} (hh : A.handled = none)
    (hen : IsEnum s.heap en iw c old) (hit : s.heap.IsTupleIter iw tt i) (ht : s.heap.IsTuple tt items) (hx : items[i]? = none) (hQ : ∀ h', Heap.ExtBut iw s.heap h' → Q none { s with heap := h' }) : wpAny (model prog w) A (pyNext (.ref en)) Q E s := by
  have hTy2 : s.TypeIs (.ref en) "enumerate" := ⟨_, hen, rfl⟩
  unfold pyNext
  refine wpAny_bind (wpAny_attempt (wpAny_callSpecial?_slot (name := Str.ofString "__next__") hTy2 F.slot_enumerate_next (wpAny_call_entry F.slot_enumerate_next hTy2 F.entry_enumerate_next ?_ (F.args_enumerate_next_1 _))))
  show wpAny _ _ (field (.ref en) 2 >>= _) _ _ _
  refine wpAny_bind (wpAny_field hen rfl (x := .ref iw) rfl ?_)
  refine wpAny_bind (wpAny_nextOf_tuple_end hh hit ht hx fun h' x2 hx1 hx2 => ?_)
  obtain ⟨ob, ho, hcl⟩ := hx2
  refine wpAny_bind (wpAny_isInstance (T := "StopIteration") (b := true) ⟨ob, ho, hcl⟩ isSubtype_stop ?_)
  exact wpAny_pure (hQ _ hx1)
theorem turn_enumT {P : Program} {w : World} {K : PySem.W.Frag} {elts : List Expr} {kk : Nat} {tpos : Pos} (a en iw : Addr) :
    Turn P w K (.Tuple elts kk tpos) (IteT K a) [en, iw] en (fun i h => (∃ old, IsEnum h en iw ((i : Nat) : Int) old) ∧ h.IsTupleIter iw a i ∧ en ≠ iw ∧ a ≠ iw ∧ en ≠ a) where
  mem := by simp
  obj := fun i h stt b hb => by
    obtain ⟨⟨old, hen⟩, ⟨o, ho, hc, hd⟩, _⟩ := stt
    have e' : b = en ∨ b = iw := by simpa using hb
    rcases e' with z | z
    · rw [z]; exact ⟨_, hen, fun v q => nomatch q⟩
    · rw [z]; exact ⟨o, ho, fun v q => by rw [hd] at q; cases q⟩
  keep := fun i h h' stt k => let ⟨⟨old, hen⟩, hi, hne⟩ := stt; ⟨⟨old, k en (by simp) _ hen⟩, hi.at fun o q => k iw (by simp) o q, hne⟩
  item := by
    intro X hP hw hK hc i pins s σ H E Iv hff stt hg
    subst hP hw hK
    obtain ⟨⟨old, hen⟩, hit, hne, hai, hea⟩ := stt
    obtain ⟨xs, x, hq, hx⟩ := hg
    obtain ⟨its, rv, pt, hz⟩ := Iv.tuple hq
    obtain ⟨u, hu, ru⟩ := rv.get hx
    have hT0 : s.heap.IsTuple a its.toArray := pt
    have hel : en < s.heap.objs.size := Heap.lt_size hen
    have hil : iw < s.heap.objs.size := by obtain ⟨_, q, _⟩ := hit; exact Heap.lt_size q
    have hlt : i < its.toArray.size := by rw [List.size_toArray]; exact (List.getElem?_eq_some_iff.mp hu).1
    refine wpAny_pyNext_enum_itemD (Draws.tuple (A := X.A.in1) (Iv.ok.hd hc) iw a hai its.toArray) hen ⟨hit, hT0⟩ hlt hne (by simp [hne, hea]) fun x2 h' tk hP ho hstt' hT hsz hkp => ?_
    obtain rfl : x2 = u := by
      have h1 : its[i]? = some x2 := by simpa using hP
      rw [hu] at h1; exact (Option.some.inj h1).symm
    refine ⟨_, rfl, wpAny_letOwnedTupleGo_enum (s := { s with heap := h', toks := tk + 1 }) ho fun h'' he' sb => ?_⟩
    have hT2 : h''.get? s.heap.objs.size = some { cls := .type "tuple", data := .seq #[.int i tk, x2] } := (sb.2 _ (Nat.ne_of_gt hel)).trans hT
    have newt : ObjOk X.prog X.w (upd H s.heap.objs.size (.tup [.int (i : Nat), x])) h'' s.heap.objs.size (.tup [.int (i : Nat), x]) :=
      ⟨by show 2 ≤ sizeLine; decide, [.int i tk, x2], .cons ⟨_, rfl⟩ (.cons ru .nil), ⟨_, hT2, rfl, _, rfl⟩⟩
    have Iv1 : Inv X pins σ (upd H s.heap.objs.size (.tup [.int (i : Nat), x])) { s with heap := h'', toks := tk + 1 } :=
      Iv.turnedNew (ch := [en, iw]) (fun b ob hb q => (sb.2 b (fun z => hb (by simp [z]))).trans (hkp b ob (fun z => hb (by simp [z])) (fun z => hb (by simp [z])) q)) hff (Nat.le_refl _) newt
    refine ⟨.ref s.heap.objs.size, _, Iv1, rfl, ⟨_, x, rfl, Iv.hok.fresh (Nat.le_refl _), rfl, fun ys hy => by rw [Iv.tuple_inj hy hq]; exact hx⟩, ⟨⟨x2, ?_⟩, hstt'.1.at fun o q => (sb.2 iw (Ne.symm hne)).trans q, hne, hai, hea⟩, fun b hb => ?_⟩
    · have e1 : ((i + 1 : Nat) : Int) = (i : Int) + 1 := by omega
      rw [e1]; exact he'
    · have hb' : b < s.heap.objs.size := by
        have e' : b = en ∨ b = iw := by simpa using hb
        rcases e' with z | z <;> rw [z] <;> assumption
      rw [upd_ne (Nat.ne_of_lt hb')]
      exact (hff b hb).1
  done := by
    intro X hP hw hK hc i pins s σ H E Iv hff stt hg
    subst hP hw hK
    obtain ⟨⟨old, hen⟩, hit, hne, hai, hea⟩ := stt
    obtain ⟨xs, hq, hx⟩ := hg
    obtain ⟨its, rv, pt, hz⟩ := Iv.tuple hq
    obtain ⟨f0, f1, f2, f3, f4, f5⟩ := hff iw (by simp)
    have hlen := rv.length
    have hT0 : s.heap.IsTuple a its.toArray := pt
    exact enumT_end (Iv.ok.hd hc) hen hit hT0 (by simp; omega) fun h' eb => ⟨rfl, Iv.turned (t' := s.toks) (fun b o hb q => eb b o hb q) f0 f1 f3 f4 f5⟩
  self := fun A i s Q E stt h => let ⟨⟨_, hen⟩, _⟩ := stt; wpAny_pyIter_enum hen h
def iEnumT (K : PySem.W.Frag) (ta : TA) : TI := fun σ H R => ta σ H fun vs H1 => ∃ a xs, vs = [.ref a] ∧ SqT K H1 a xs ∧ R (IteT K a) H1
theorem pi_enumT {X : Cx} {e : Expr} {ta : TA} {p pos tpos : Pos} {elts : List Expr} {kk : Nat} (hg : Gl X "enumerate") (hm : X.mg "enumerate" = none) (ha : PA X [e] ta) (hs : starEach [e] X.env = [(false, eval e X.env)] := by rfl) :
    PI X (.Tuple elts kk tpos) (.Call (.Name "enumerate" p) [e] [] pos) (iEnumT X.K ta) := by
  refine ⟨fun pins s σ H R Iv h => ?_⟩
  refine Call_ (ld_blt Iv hg hm boot_enumerate (PyProof.Rows.callWith_type1 (thn (ha.run pos pins s σ H _ Iv h) fun us s1 ⟨vs, H1, Iv1, r1, q1⟩ => ?_) hs rfl))
  obtain ⟨a, xs, ex, hq, qq⟩ := q1
  subst ex
  cases r1 with
  | cons r rr =>
    cases rr
    cases r
    obtain ⟨its, rv, pt, hz⟩ := Iv1.tuple hq
    have hT0 : s1.heap.IsTuple a its.toArray := pt
    have hal : a < s1.heap.objs.size := by obtain ⟨o, ho, _⟩ := hT0; exact Heap.lt_size ho
    refine call_enumT hT0 fun h' hen hit hsz hkp => wpAny_pyIter_enum hen ?_
    have Iv2 : Inv X pins σ H1 { s1 with heap := h' } := Iv1.kept (t' := s1.toks) hkp
    refine ⟨s1.heap.objs.size + 1, [s1.heap.objs.size + 1, s1.heap.objs.size], _, _, H1, rfl, Iv2, turn_enumT a (s1.heap.objs.size + 1) s1.heap.objs.size, ⟨⟨.none, hen⟩, hit, Nat.succ_ne_self _, Nat.ne_of_lt hal, Nat.ne_of_gt (Nat.lt_succ_of_lt hal)⟩, fun b hb => ?_, qq⟩
    have hle2 : s1.heap.objs.size ≤ b := by
      have z : b = s1.heap.objs.size + 1 ∨ b = s1.heap.objs.size := by simpa using hb
      rcases z with z | z
      · rw [z]; exact Nat.le_succ _
      · rw [z]; exact Nat.le_refl _
    exact Iv1.fpOk hle2 (Iv1.hok.fresh hle2)
section
variable {α : Type} {e : Rep α} {K : PySem.W.Frag} {F H : Hp} {v : V} {xs : List α}
theorem src_enumT {R : It → Hp → Prop} (r : (pTL e).r F v xs) (f : Ex F H) (k : ∀ a, TWk (IteT K a) F (pT2 pN e) (enumT xs) → R (IteT K a) H) : ∃ a ws, [v] = [V.ref a] ∧ SqT K H a ws ∧ R (IteT K a) H := by
  obtain ⟨p, vs, rfl, hp, a⟩ := r
  refine ⟨p, vs, rfl, SqT.of (f _ _ hp), k p ?_⟩
  refine TWk.pairs (G := fun H => SqT K H p vs) (X := fun i => some (.int (i : Nat))) (Y := fun i => vs[i]?) ?_ (fun F' H' h1 h2 => SqT.of (h2 _ _ (h1 _ _ hp))) ?_ ?_
  · rw [enumT_len, ← a.len]
    refine ⟨fun i _ hi q => ⟨vs, vs[i], q, by simp [hi]⟩, fun _ q => ⟨vs, q, Nat.le_refl _⟩, fun i H v H' _ q y => ?_⟩
    obtain ⟨T, x, h1, h2, h3, h4⟩ := y
    exact ⟨T, .int (i : Nat), x, h1, h2, h3, rfl, h4 vs q⟩
  · intro i F' x _ hi hx
    rw [enumT_len] at hi
    rw [enumT_get, List.getElem?_eq_getElem hi]
    exact ⟨i, rfl, (Option.some.inj hx).symm⟩
  · intro i F' x h1 hi hx
    obtain ⟨z, hz, rz⟩ := a.got hx
    rw [enumT_get, hz]
    exact ⟨z, rfl, e.mono h1 rz⟩
/-- tuple(a list) -/
def rTupOf (K : PySem.W.Frag) : List V → Hp → VK → Prop := fun xs H Q => ∃ p ys, xs = [.ref p] ∧ ((SqL K H p ys ∧ ∀ l, H l = none → Q (.ref l) (upd H l (.tup ys))) ∨ (SqT K H p ys ∧ Q (.ref p) H))
theorem n_tupOf {F0 H0 : Hp} {Q : VK} (r : (pL e).r F v xs) (w : Wf F0 H0 F H) (k : ∀ p F' H', Wf F H F' H' → (pTL e).r F' (.ref p) xs → Q (.ref p) H') : rTupOf K [v] H Q := by
  obtain ⟨p, vs, rfl, hp, a⟩ := r
  exact ⟨p, vs, rfl, .inl ⟨SqL.of (w.f _ _ hp), fun l hl => k l _ _ (Wf.new w.f hl) ⟨l, vs, rfl, upd_same, a.mono (Ex.new (w.f.non hl))⟩⟩⟩
end
end Wk
namespace Wk
open PySem PySem.Spec PyProof.Rows L2
/-- a list or a tuple of things of one kind -/
def pSq {α : Type} (e : Rep α) : Rep (List α) := ⟨fun F v xs => ∃ p vs, v = .ref p ∧ (F p = some (.lst vs) ∨ F p = some (.tup vs)) ∧ All e F vs xs, fun h ⟨p, vs, a, b, c⟩ => ⟨p, vs, a, b.imp (h _ _) (h _ _), c.mono h⟩⟩
def iEnumA (K : PySem.W.Frag) (ta : TA) : TI := fun σ H R => ta σ H fun vs H1 => ∃ a xs, vs = [.ref a] ∧ ((SqL K H1 a xs ∧ R (Ite K a) H1) ∨ (SqT K H1 a xs ∧ R (IteT K a) H1))
theorem pi_enumA {X : Cx} {e : Expr} {ta : TA} {p pos tpos : Pos} {elts : List Expr} {kk : Nat} (hg : Gl X "enumerate") (hm : X.mg "enumerate" = none) (ha : PA X [e] ta) (hs : starEach [e] X.env = [(false, eval e X.env)] := by rfl) :
    PI X (.Tuple elts kk tpos) (.Call (.Name "enumerate" p) [e] [] pos) (iEnumA X.K ta) := by
  refine ⟨fun pins s σ H R Iv h => ?_⟩
  refine Call_ (ld_blt Iv hg hm boot_enumerate (PyProof.Rows.callWith_type1 (thn (ha.run pos pins s σ H _ Iv h) fun us s1 ⟨vs, H1, Iv1, r1, q1⟩ => ?_) hs rfl))
  obtain ⟨a, xs, ex, qq⟩ := q1
  subst ex
  cases r1 with
  | cons r rr =>
    cases rr
    cases r
    have hle3 : ∀ b ∈ [s1.heap.objs.size + 1, s1.heap.objs.size], FpOk X pins H1 b := fun b hb => by
      have hle2 : s1.heap.objs.size ≤ b := by
        have z : b = s1.heap.objs.size + 1 ∨ b = s1.heap.objs.size := by simpa using hb
        rcases z with z | z
        · rw [z]; exact Nat.le_succ _
        · rw [z]; exact Nat.le_refl _
      exact Iv1.fpOk hle2 (Iv1.hok.fresh hle2)
    rcases qq with ⟨hq, qq⟩ | ⟨hq, qq⟩
    · obtain ⟨its, rv, pt, hz⟩ := Iv1.list hq
      refine call_enumerate_list pt.isList fun h' hen hit hsz hkp => wpAny_pyIter_enum hen ?_
      have Iv2 : Inv X pins σ H1 { s1 with heap := h' } := Iv1.kept (t' := s1.toks) hkp
      exact ⟨s1.heap.objs.size + 1, [s1.heap.objs.size + 1, s1.heap.objs.size], _, _, H1, rfl, Iv2, turn_enum a (s1.heap.objs.size + 1) s1.heap.objs.size, ⟨⟨.none, hen⟩, hit, Nat.succ_ne_self _⟩, hle3, qq⟩
    · obtain ⟨its, rv, pt, hz⟩ := Iv1.tuple hq
      have hT0 : s1.heap.IsTuple a its.toArray := pt
      have hal : a < s1.heap.objs.size := by obtain ⟨o, ho, _⟩ := hT0; exact Heap.lt_size ho
      refine call_enumT hT0 fun h' hen hit hsz hkp => wpAny_pyIter_enum hen ?_
      have Iv2 : Inv X pins σ H1 { s1 with heap := h' } := Iv1.kept (t' := s1.toks) hkp
      exact ⟨s1.heap.objs.size + 1, [s1.heap.objs.size + 1, s1.heap.objs.size], _, _, H1, rfl, Iv2, turn_enumT a (s1.heap.objs.size + 1) s1.heap.objs.size, ⟨⟨.none, hen⟩, hit, Nat.succ_ne_self _, Nat.ne_of_lt hal, Nat.ne_of_gt (Nat.lt_succ_of_lt hal)⟩, hle3, qq⟩
section
variable {α : Type} {e : Rep α} {K : PySem.W.Frag} {F H : Hp} {v : V} {xs : List α}
theorem sq_L (r : (pL e).r F v xs) : (pSq e).r F v xs := let ⟨p, vs, a, b, c⟩ := r; ⟨p, vs, a, .inl b, c⟩
theorem sq_TL (r : (pTL e).r F v xs) : (pSq e).r F v xs := let ⟨p, vs, a, b, c⟩ := r; ⟨p, vs, a, .inr b, c⟩
theorem src_enumA {R : It → Hp → Prop} (r : (pSq e).r F v xs) (f : Ex F H) (k : ∀ J, TWk J F (pT2 pN e) (enumT xs) → R J H) : ∃ a ws, [v] = [V.ref a] ∧ ((SqL K H a ws ∧ R (Ite K a) H) ∨ (SqT K H a ws ∧ R (IteT K a) H)) := by
  obtain ⟨p, vs, rfl, hp, a⟩ := r
  rcases hp with hp | hp
  · obtain ⟨q, ws, e1, e2, e3⟩ := src_enum (K := K) (R := R) ⟨p, vs, rfl, hp, a⟩ f fun b T => k _ T
    exact ⟨q, ws, e1, .inl ⟨e2, e3⟩⟩
  · obtain ⟨q, ws, e1, e2, e3⟩ := src_enumT (K := K) (R := R) ⟨p, vs, rfl, hp, a⟩ f fun b T => k _ T
    exact ⟨q, ws, e1, .inr ⟨e2, e3⟩⟩
end
end Wk
namespace Wk
open PySem L2
/-- xs[i] = v -/
theorem a_lset {α : Type} {e : Rep α} {σ : L2.St} {F0 H0 F H : Hp} {p : Addr} {xs : List α} {y : α} {i : Nat} {v : V} {to ti : TE} {Q : L2.St → Hp → Prop} (x : XL e H0 F H p xs) (w : Wf F0 H0 F H) (hi : i < xs.length) (r : e.r F v y) (ho : Val to σ H (.ref p)) (hx : Val ti σ H (.int (i : Int)))
    (k : ∀ H', Wf F0 H0 F H' → XL e H0 F H' p (xs.set i y) → (∀ q o, H q = some o → q ≠ p → H' q = some o) → Q σ H') : gSub to ti rSetL v σ H Q := by
  obtain ⟨vs, a, b⟩ := x.x
  refine ho _ (hx _ ⟨p, vs, _, i, rfl, rfl, a.h, ?_, k _ (w.set a) ⟨_, a.set, b.set i r⟩ fun q o h hq => by rw [upd_ne hq]; exact h⟩)
  unfold ixN
  rw [if_pos (by omega), if_pos (by rw [b.len]; omega)]; rfl
theorem rcb1' {r : List V → Hp → VK → Prop} {x z : V} {H : Hp} {Q : VK} (h : Val (tCB r (tCons (tC x) tNil)) [] H z) (q : Q z H) : r [x] H Q := h Q q
end Wk
namespace Wk
open PySem L2
theorem kCpR_int {g : TG} {tc : TT} {te : TE} {vs : List Nat} {σ : L2.St} {Q : VK} {H : Hp} {j : Int} (h1 : -1000000 < j) (h : kCpR g tc te vs σ Q (.int ((j.toNat : Nat) : Int)) H) : kCpR g tc te vs σ Q (.int j) H := by
  obtain ⟨j', e, a, b, c⟩ := h
  have e' : ((j.toNat : Nat) : Int) = j' := V.int.inj (List.cons.inj e).1
  refine ⟨j, rfl, by omega, by omega, ?_⟩
  have : j'.toNat = j.toNat := by omega
  rw [← this]; exact c
end Wk
/-! Rc: rows of bits that go on by a rule. -/
namespace Wk
def dot (c : Nat) (f : Nat → Bool) : Nat → Bool
  | 0 => false
  | m + 1 => xor (dot c f m) (c.testBit m && f m)
theorem dot_congr {c : Nat} {f g : Nat → Bool} : ∀ {m : Nat}, (∀ j, j < m → f j = g j) → dot c f m = dot c g m
  | 0, _ => rfl
  | m + 1, h => by
    show xor (dot c f m) (c.testBit m && f m) = xor (dot c g m) (c.testBit m && g m)
    rw [dot_congr (m := m) fun j hj => h j (by omega), h m (by omega)]
theorem dot_false {c : Nat} : ∀ m : Nat, dot c (fun _ => false) m = false
  | 0 => rfl
  | m + 1 => by show xor (dot c _ m) (c.testBit m && false) = false; rw [dot_false m]; simp
theorem dot_xor {c : Nat} {f g : Nat → Bool} : ∀ m : Nat, dot c (fun i => xor (f i) (g i)) m = xor (dot c f m) (dot c g m)
  | 0 => rfl
  | m + 1 => by
    show xor (dot c _ m) (c.testBit m && xor (f m) (g m)) = xor (xor (dot c f m) (c.testBit m && f m)) (xor (dot c g m) (c.testBit m && g m))
    rw [dot_xor m]
    cases dot c f m <;> cases dot c g m <;> cases c.testBit m <;> cases f m <;> cases g m <;> rfl
theorem dot_and {c : Nat} {f : Nat → Bool} (b : Bool) : ∀ m : Nat, dot c (fun i => b && f i) m = (b && dot c f m)
  | 0 => by cases b <;> rfl
  | m + 1 => by
    show xor (dot c _ m) (c.testBit m && (b && f m)) = (b && xor (dot c f m) (c.testBit m && f m))
    rw [dot_and b m]
    cases b <;> cases dot c f m <;> cases c.testBit m <;> cases f m <;> rfl
theorem dot_swap {c d : Nat} {F : Nat → Nat → Bool} (p : Nat) : ∀ q : Nat, dot d (fun j => dot c (fun i => F j i) p) q = dot c (fun i => dot d (fun j => F j i) q) p
  | 0 => (dot_false p).symm
  | q + 1 => by
    show xor (dot d _ q) (d.testBit q && dot c (fun i => F q i) p) = dot c (fun i => xor (dot d (fun j => F j i) q) (d.testBit q && F q i)) p
    rw [dot_swap p q, dot_xor, dot_and]
/-- a rule that holds for ever, and one that holds long enough -/
theorem goes_on {a : Nat → Bool} {c d m0 m L : Nat} (h0 : ∀ t, a (t + m0) = dot c (fun i => a (t + i)) m0) (h : ∀ t, t < L → a (t + m) = dot d (fun j => a (t + j)) m) (hL : m0 ≤ L) : ∀ t, a (t + m) = dot d (fun j => a (t + j)) m := by
  intro t
  have e : xor (a (t + m)) (dot d (fun j => a (t + j)) m) = false := by
    induction t using Nat.strongRecOn with
    | ind t ih =>
      by_cases c1 : t < L
      · rw [h t c1]; simp
      · obtain ⟨u, rfl⟩ : ∃ u, t = u + m0 := ⟨t - m0, by omega⟩
        have e1 : a (u + m0 + m) = dot c (fun i => a (u + i + m)) m0 := by
          rw [show u + m0 + m = (u + m) + m0 by omega, h0]
          exact dot_congr fun i _ => by rw [show u + m + i = u + i + m by omega]
        have e2 : dot d (fun j => a (u + m0 + j)) m = dot c (fun i => dot d (fun j => a (u + i + j)) m) m0 := by
          rw [← dot_swap]
          refine dot_congr fun j _ => ?_
          rw [show u + m0 + j = (u + j) + m0 by omega, h0]
          exact dot_congr fun i _ => by rw [show u + j + i = u + i + j by omega]
        rw [e1, e2, ← dot_xor]
        by_cases z : m0 = 0
        · subst z; rfl
        · rw [← dot_false (c := c) m0]
          exact dot_congr fun i hi => ih (u + i) (by omega)
  revert e
  cases a (t + m) <;> cases dot d (fun j => a (t + j)) m <;> simp
theorem dot_and_l {c : Nat} {f : Nat → Bool} : ∀ {m : Nat}, (∀ j, m ≤ j → f j = false) → ∀ k, dot c f (m + k) = dot c f m
  | m, h, 0 => rfl
  | m, h, k + 1 => by
    show xor (dot c f (m + k)) (c.testBit (m + k) && f (m + k)) = _
    rw [h (m + k) (by omega), dot_and_l h k]; simp
/-- parity as a sum -/
theorem par_dot {s : Nat} : ∀ {m c : Nat}, c < 2 ^ m → par (c &&& s) = dot c s.testBit m
  | 0, c, h => by
    have : c = 0 := by simpa using h
    subst this; rw [Nat.zero_and, par_zero]; rfl
  | m + 1, c, h => by
    have hl : c % 2 ^ m < 2 ^ m := Nat.mod_lt _ (Nat.two_pow_pos m)
    have e : c = (c % 2 ^ m) ^^^ (if c.testBit m = true then 2 ^ m else 0) := Nat.eq_of_testBit_eq fun i => by
      rw [Nat.testBit_xor, Nat.testBit_mod_two_pow]
      by_cases q : c.testBit m = true
      · rw [if_pos q, Nat.testBit_two_pow]
        by_cases o : i = m
        · subst o; rw [q]; simp
        · by_cases o2 : i < m
          · rw [decide_eq_true o2, decide_eq_false (fun z => o z.symm)]; simp
          · rw [decide_eq_false o2, decide_eq_false (fun z => o z.symm), testBit_big h (by omega)]; rfl
      · rw [if_neg q, Nat.zero_testBit]
        by_cases o2 : i < m
        · rw [decide_eq_true o2]; simp
        · rw [decide_eq_false o2]
          by_cases o : i = m
          · subst o; simpa using q
          · rw [testBit_big h (by omega)]; rfl
    have ih := par_dot (s := s) hl
    have e3 : par (c &&& s) = xor (par ((c % 2 ^ m) &&& s)) (c.testBit m && s.testBit m) := by
      conv => lhs; rw [e]
      have ax : ∀ a b c : Nat, (a ^^^ b) &&& c = (a &&& c) ^^^ (b &&& c) := fun a b c => Nat.eq_of_testBit_eq fun i => by
        rw [Nat.testBit_and, Nat.testBit_xor, Nat.testBit_xor, Nat.testBit_and, Nat.testBit_and]
        cases a.testBit i <;> cases b.testBit i <;> cases c.testBit i <;> rfl
      rw [ax, par_xor]
      congr 1
      by_cases q : c.testBit m = true
      · rw [if_pos q, q]
        by_cases r : s.testBit m = true
        · have : 2 ^ m &&& s = 2 ^ m := Nat.eq_of_testBit_eq fun i => by
            rw [Nat.testBit_and, Nat.testBit_two_pow]
            by_cases o : m = i
            · subst o; rw [r]; simp
            · rw [decide_eq_false o]; rfl
          rw [this, par_two_pow, r]; rfl
        · have : 2 ^ m &&& s = 0 := Nat.eq_of_testBit_eq fun i => by
            rw [Nat.testBit_and, Nat.testBit_two_pow, Nat.zero_testBit]
            by_cases o : m = i
            · subst o; rw [decide_eq_true rfl]; simpa using r
            · rw [decide_eq_false o]; rfl
          rw [this, par_zero]; simpa using r
      · rw [if_neg q, Nat.zero_and, par_zero]
        have : c.testBit m = false := by simpa using q
        rw [this]; rfl
    rw [e3, ih]
    show xor (dot (c % 2 ^ m) s.testBit m) _ = xor (dot c s.testBit m) _
    congr 1
    have go : ∀ k, k ≤ m → dot (c % 2 ^ m) s.testBit k = dot c s.testBit k := by
      intro k
      induction k with
      | zero => exact fun _ => rfl
      | succ k ih2 =>
        intro hk
        show xor (dot _ _ k) ((c % 2 ^ m).testBit k && s.testBit k) = xor (dot _ _ k) (c.testBit k && s.testBit k)
        rw [ih2 (by omega), Nat.testBit_mod_two_pow, decide_eq_true (by omega), Bool.true_and]
    exact go m (Nat.le_refl _)
/-- of n + 1 masks below 2 ** n one is a sum of those ahead -/
theorem some_sum {n : Nat} {vs : List Nat} (hl : vs.length = n + 1) (hv : ∀ v ∈ vs, v < 2 ^ n) : ∃ j, j ≤ n ∧ Span (vs.take j) (vs.getD j 0) := by
  refine Classical.byContradiction fun hno => ?_
  have inj : ∀ S, S < 2 ^ (n + 1) → comb vs S = 0 → S = 0 := by
    intro S hS h0
    refine Classical.byContradiction fun z => ?_
    have hp := bits_pos z
    generalize hk : bits S - 1 = k at *
    have kb : S.testBit k = true := by rw [← hk]; exact bits_bit z
    have kn : k ≤ n := by have := bits_le.mpr hS; omega
    refine hno ⟨k, kn, S, ?_⟩
    have e1 : comb vs S = comb (vs.take (k + 1)) S := by
      have : ∀ (vs : List Nat) (k S : Nat), bits S ≤ k → comb vs S = comb (vs.take k) S := by
        intro vs
        induction vs with
        | nil => intro k S _; rw [List.take_nil]
        | cons v vs ih =>
          intro k S hb
          cases k with
          | zero =>
            have : S = 0 := bits_eq_zero.mp (by omega)
            subst this; rw [comb_zero]; rfl
          | succ k =>
            show (if S.testBit 0 = true then v else 0) ^^^ comb vs (S / 2) = (if S.testBit 0 = true then v else 0) ^^^ comb (vs.take k) (S / 2)
            rw [ih k (S / 2) (bits_le.mpr (by have := bits_le.mp hb; rw [Nat.pow_succ] at this; omega))]
      exact this vs (k + 1) S (by omega)
    have lt : k < vs.length := by omega
    have e2 : vs.take (k + 1) = vs.take k ++ [vs[k]] := List.take_succ_eq_append_getElem lt
    rw [e1, e2, comb_snoc, show (vs.take k).length = k by rw [List.length_take]; omega, if_pos kb] at h0
    rw [List.getD_eq_getElem?_getD, List.getElem?_eq_getElem lt]
    exact xor0 h0
  have nd : ((List.range (2 ^ (n + 1))).map (comb vs)).Nodup := by
    refine List.pairwise_map.mpr (List.Pairwise.imp_of_mem (fun {a b} ha hb hne e => hne ?_) List.nodup_range)
    have ha' := List.mem_range.mp ha
    have hb' := List.mem_range.mp hb
    exact xor0 (inj _ (Nat.xor_lt_two_pow ha' hb') (by rw [comb_xor, e, Nat.xor_self]))
  have := nodup_len (k := 2 ^ n) nd fun x hx => by
    obtain ⟨S, _, rfl⟩ := List.mem_map.mp hx
    exact comb_lt hv
  rw [List.length_map, List.length_range, Nat.pow_succ] at this
  have := Nat.two_pow_pos n
  omega
/-- parity of a sum of masks -/
theorem par_comb {s : Nat} : ∀ (vs : List Nat) (S : Nat), par (comb vs S &&& s) = dot S (fun j => par (vs.getD j 0 &&& s)) vs.length := by
  intro vs
  suffices h : ∀ k, k ≤ vs.length → ∀ S, par (comb (vs.take k) S &&& s) = dot S (fun j => par (vs.getD j 0 &&& s)) k by
    intro S
    have := h vs.length (Nat.le_refl _) S
    rwa [List.take_length] at this
  intro k
  induction k with
  | zero => intro _ S; show par (0 &&& s) = false; rw [Nat.zero_and, par_zero]
  | succ k ih =>
    intro hk S
    have e2 : vs.take (k + 1) = vs.take k ++ [vs[k]'(by omega)] := List.take_succ_eq_append_getElem (by omega)
    have el : (vs.take k).length = k := by rw [List.length_take]; omega
    have eg : vs.getD k 0 = vs[k]'(by omega) := by rw [List.getD_eq_getElem?_getD, List.getElem?_eq_getElem (by omega)]; rfl
    have ax : ∀ a b c : Nat, (a ^^^ b) &&& c = (a &&& c) ^^^ (b &&& c) := fun a b c => Nat.eq_of_testBit_eq fun i => by
      rw [Nat.testBit_and, Nat.testBit_xor, Nat.testBit_xor, Nat.testBit_and, Nat.testBit_and]
      cases a.testBit i <;> cases b.testBit i <;> cases c.testBit i <;> rfl
    rw [e2, comb_snoc, el, ax, par_xor, ih (by omega)]
    show _ = xor (dot S _ k) (S.testBit k && par (vs.getD k 0 &&& s))
    congr 1
    rw [eg]
    by_cases q : S.testBit k = true
    · rw [if_pos q, q]; simp
    · rw [if_neg q, Nat.zero_and, par_zero]
      have : S.testBit k = false := by simpa using q
      rw [this]; rfl
end Wk
/-! LZip: list(zip(a, b)) of two lists. -/
namespace Wk.LZ
open PySem PyProof.Rows L2
theorem zip_no_len : typeLookup (.type "zip") "__len__" = pure none := am_miss_of_fast (by decide +kernel)
theorem zip_no_hint : typeLookup (.type "zip") "__length_hint__" = pure none := am_miss_of_fast (by decide +kernel)
/-- the zip's own things at turn i; S: a list that is none of them -/
structure ZS (h : Heap) (z TI TO i1 i2 l1 l2 S : Addr) (i : Nat) (xs ys : Array Value) : Prop where
  ti : IsPair h TI (.ref i1) (.ref i2)
  to : ∃ x y, IsPair h TO x y
  h1 : h.IsListIter i1 l1 i
  h2 : h.IsListIter i2 l2 i
  a1 : h.IsList l1 xs
  a2 : h.IsList l2 ys
  zz : IsZip h z TI TO .none ∨ ∃ T f oT, IsZipHeld h z TI TO T f ∧ h.get? T = some oT ∧ T ≠ S ∧ T ≠ z ∧ T ≠ i1 ∧ T ≠ i2
section
variable {prog : Program} {w : World} {A : Around} {E : Value → Shared → Prop} {s : Shared} {z TI TO i1 i2 l1 l2 S : Addr} {i : Nat} {xs ys : Array Value}
theorem ZS.ty (h : ZS s.heap z TI TO i1 i2 l1 l2 S i xs ys) : s.TypeIs (.ref z) "zip" := by
  rcases h.zz with q | ⟨T, f, oT, q, _⟩
  · exact ⟨_, q, rfl⟩
  · exact ⟨_, q, rfl⟩
theorem ZS.frame {h h' : Heap} (q : ZS h z TI TO i1 i2 l1 l2 S i xs ys) (n : ∀ b ∈ [z, TI, TO, i1, i2, l1, l2], b ≠ S) (k : ∀ b o, b ≠ S → h.get? b = some o → h'.get? b = some o) : ZS h' z TI TO i1 i2 l1 l2 S i xs ys := by
  refine ⟨k _ _ (n _ (by simp)) q.ti, ?_, q.h1.at fun o e => k _ o (n _ (by simp)) e, q.h2.at fun o e => k _ o (n _ (by simp)) e, q.a1.at fun o e => k _ o (n _ (by simp)) e, q.a2.at fun o e => k _ o (n _ (by simp)) e, ?_⟩
  · obtain ⟨x, y, e⟩ := q.to; exact ⟨x, y, k _ _ (n _ (by simp)) e⟩
  · rcases q.zz with e | ⟨T, f, oT, e1, e2, e3⟩
    · exact .inl (k _ _ (n _ (by simp)) e)
    · exact .inr ⟨T, f, oT, k _ _ (n _ (by simp)) e1, k _ _ e3.1 e2, e3⟩
theorem next_item {Q : Option Value → Shared → Prop} {x y : Value} (D : ZipApart z TI TO i1 i2 l1 l2) (q : ZS s.heap z TI TO i1 i2 l1 l2 S i xs ys) (hS : S < s.heap.objs.size) (hx : xs[i]? = some x) (hy : ys[i]? = some y)
    (hQ : ∀ h', ZS h' z TI TO i1 i2 l1 l2 S (i + 1) xs ys → IsPair h' s.heap.objs.size x y → h'.objs.size = s.heap.objs.size + 1 →
      (∀ c o, c ≠ z → c ≠ TO → c ≠ i1 → c ≠ i2 → s.heap.get? c = some o → h'.get? c = some o) → Q (some (.ref s.heap.objs.size)) { s with heap := h' }) :
    wpAny (model prog w) A (pyNext (.ref z)) Q E s := by
  obtain ⟨ti, ⟨x0, y0, to⟩, h1, h2, a1, a2, zz⟩ := q
  rcases zz with e | ⟨T, f, oT, e1, e2, e3⟩
  · refine wpAny_pyNext_zip_item D e ti to h1 h2 a1 a2 hx hy fun h' z' TO' h1' h2' hT hsz hk => ?_
    exact hQ h' ⟨hk _ _ D.TIz D.TITO D.TIi1 D.TIi2 ti, ⟨_, _, TO'⟩, h1', h2', a1.at fun o e => hk _ o D.l1z D.l1TO D.l1i1 D.l1i2 e, a2.at fun o e => hk _ o D.l2z D.l2TO D.l2i1 D.l2i2 e, .inr ⟨_, false, _, z', hT, Nat.ne_of_gt hS, Nat.ne_of_gt (Heap.lt_size e), (by obtain ⟨_, q, _⟩ := h1; exact Nat.ne_of_gt (Heap.lt_size q)), (by obtain ⟨_, q, _⟩ := h2; exact Nat.ne_of_gt (Heap.lt_size q))⟩⟩ hT hsz hk
  · refine wpAny_pyNext_zip_item_held D e1 e2 ti h1 h2 a1 a2 hx hy fun h' z' h1' h2' hT hsz hk => ?_
    exact hQ h' ⟨hk _ _ D.TIz D.TIi1 D.TIi2 ti, ⟨_, _, hk _ _ D.TOz D.TOi1 D.TOi2 to⟩, h1', h2', a1.at fun o e => hk _ o D.l1z D.l1i1 D.l1i2 e, a2.at fun o e => hk _ o D.l2z D.l2i1 D.l2i2 e, .inr ⟨T, true, oT, z', hk _ _ e3.2.1 e3.2.2.1 e3.2.2.2 e2, e3⟩⟩ hT hsz fun c o c1 _ c3 c4 e => hk c o c1 c3 c4 e
theorem next_end {Q : Option Value → Shared → Prop} (hh : A.handled = none) (D : ZipApart z TI TO i1 i2 l1 l2) (q : ZS s.heap z TI TO i1 i2 l1 l2 S i xs ys) (he : xs[i]? = none ∨ ys[i]? = none)
    (hQ : ∀ h', (∀ c o, c ≠ z → c ≠ TO → c ≠ i1 → c ≠ i2 → s.heap.get? c = some o → h'.get? c = some o) → Q none { s with heap := h' }) : wpAny (model prog w) A (pyNext (.ref z)) Q E s := by
  obtain ⟨ti, ⟨x0, y0, to⟩, h1, h2, a1, a2, zz⟩ := q
  rcases zz with e | ⟨T, f, oT, e1, e2, e3⟩
  · exact wpAny_pyNext_zip_end hh D e ti to h1 h2 a1 a2 he fun h' hk => hQ h' fun c o c1 c2 c3 c4 e => hk c o c1 c2 c3 c4 e
  · exact wpAny_pyNext_zip_end_held hh D e1 e2 ti h1 h2 a1 a2 he fun h' hk => hQ h' fun c o c1 _ c3 c4 e => hk c o c1 c3 c4 e
end
/-- one tuple after the other is made -/
def NewT : Hp → List (V × V) → List V → Hp → Prop
  | H, [], ts, H' => ts = [] ∧ H' = H
  | H, (x, y) :: r, ts, H' => ∃ T ts', ts = .ref T :: ts' ∧ H T = none ∧ NewT (upd H T (.tup [x, y])) r ts' H'
theorem lst_get {S : Addr} {h : Heap} {acc : Array Value} {c : Nat} {f : Array Value → Array Value} (e : h.get? S = some { cls := .type "list", dict := none, data := .seq acc c, slots := #[] }) : ∃ c', (h.update S (Obj.mapSeq f)).get? S = some { cls := .type "list", dict := none, data := .seq (f acc) c', slots := #[] } :=
  ⟨_, Heap.get?_update_self (Obj.mapSeq f) e rfl⟩
section
variable {X : Cx} {pins : List (Addr × Obj)} {σ : L2.St} {z TI TO i1 i2 l1 l2 S : Addr} {vx vy : List V} {ix iy : List Value}
theorem loop {R : Result → Shared → Prop} {A : Around} (hh : A.handled = none) (D : ZipApart z TI TO i1 i2 l1 l2) (hS : ∀ b ∈ [z, TI, TO, i1, i2, l1, l2], b ≠ S) (rx : Vals vx ix) (ry : Vals vy iy) (hx : vx.length ≤ sizeLine) (res : Value) :
    ∀ (rest : List (V × V)) (i : Nat) (s : Shared) (H : Hp) (acc : Array Value) (c : Nat) (outs : List V), (vx.zip vy).drop i = rest → i ≤ (vx.zip vy).length → Inv X pins σ H s → (∀ b ∈ [S, z, TO, i1, i2], FpOk X pins H b) → ZS s.heap z TI TO i1 i2 l1 l2 S i ix.toArray iy.toArray →
    s.heap.get? S = some { cls := .type "list", dict := none, data := .seq acc c, slots := #[] } → Vals outs acc.toList → outs.length = i →
    (∀ s' H' acc' c' ts, Inv X pins σ H' s' → (∀ b ∈ [S, z, TO, i1, i2], FpOk X pins H' b) → s'.heap.get? S = some { cls := .type "list", dict := none, data := .seq acc' c', slots := #[] } → NewT H rest ts H' → Vals (outs ++ ts) acc'.toList → R (.ok (.ret res)) s') →
    codeAny (model X.prog X.w) A (.builtin "list.extend.loop" ⟨[.ref S, .ref z, res], []⟩) R s := by
  intro rest
  induction rest with
  | nil =>
    intro i s H acc c outs hd hi I hf q hL r hl hR
    have hin : (vx.zip vy).length ≤ i := List.drop_eq_nil_iff.mp hd
    rw [List.length_zip] at hin
    have he : ix.toArray[i]? = none ∨ iy.toArray[i]? = none := by
      have l1 := rx.length
      have l2 := ry.length
      rcases Nat.le_total vx.length vy.length with h | h
      · rw [Nat.min_eq_left h] at hin; exact .inl (by simp; omega)
      · rw [Nat.min_eq_right h] at hin; exact .inr (by simp; omega)
    refine codeAny_builtin F.entry_extend_loop ?_
    rw [Around.under_plainId F.plain_extend_loop _]
    show wpAny _ A.in1 (pyNext (.ref z) >>= _) _ _ s
    refine wpAny_bind (next_end hh D q he fun h' hk => ?_)
    have I' : Inv X pins σ H { s with heap := h' } := I.turnedL (t' := s.toks) (ch := [S, z, TO, i1, i2]) (fun b o hb e => hk b o (fun q => hb (by simp [q])) (fun q => hb (by simp [q])) (fun q => hb (by simp [q])) (fun q => hb (by simp [q])) e) hf
    exact wpAny_pure (hR _ H acc c [] I' hf (hk S _ (hS _ (by simp)).symm (hS _ (by simp)).symm (hS _ (by simp)).symm (hS _ (by simp)).symm hL) ⟨rfl, rfl⟩ (by rw [List.append_nil]; exact r))
  | cons p rest ih =>
    obtain ⟨x, y⟩ := p
    intro i s H acc c outs hd hi I hf q hL r hl hR
    have hget : (vx.zip vy)[i]? = some (x, y) := by
      have e : ((vx.zip vy).drop i)[0]? = some (x, y) := by rw [hd]; rfl
      rw [List.getElem?_drop] at e; exact e
    have hlt : i < (vx.zip vy).length := (List.getElem?_eq_some_iff.mp hget).1
    obtain ⟨ex, ey⟩ := List.getElem?_zip_eq_some.mp hget
    obtain ⟨u, hu, ru⟩ := rx.get ex
    obtain ⟨u2, hu2, ru2⟩ := ry.get ey
    have hmin : (vx.zip vy).length ≤ vx.length := by rw [List.length_zip]; exact Nat.min_le_left _ _
    have hacc : acc.size = i := by rw [← Array.length_toList, ← r.length]; exact hl
    refine codeAny_builtin F.entry_extend_loop ?_
    rw [Around.under_plainId F.plain_extend_loop _]
    show wpAny _ A.in1 (pyNext (.ref z) >>= _) _ _ s
    have hSl : S < s.heap.objs.size := Heap.lt_size hL
    refine wpAny_bind (next_item D q hSl (x := u) (y := u2) (by simpa using hu) (by simpa using hu2) fun h' q' hT hsz hk => ?_)
    have new : ObjOk X.prog X.w (upd H s.heap.objs.size (.tup [x, y])) h' s.heap.objs.size (.tup [x, y]) :=
      ⟨by show 2 ≤ sizeLine; decide, [u, u2], .cons ru (.cons ru2 .nil), ⟨_, hT, rfl, _, rfl⟩⟩
    have hfr : H s.heap.objs.size = none := I.hok.fresh (Nat.le_refl _)
    have I1 : Inv X pins σ (upd H s.heap.objs.size (.tup [x, y])) { s with heap := h' } :=
      I.turnedNew (t' := s.toks) (ch := [S, z, TO, i1, i2]) (fun b o hb e => hk b o (fun q => hb (by simp [q])) (fun q => hb (by simp [q])) (fun q => hb (by simp [q])) (fun q => hb (by simp [q])) e) hf (Nat.le_refl _) new
    have hlts : ∀ b ∈ [S, z, TO, i1, i2], b < s.heap.objs.size := by
      intro b hb
      have e' : b = S ∨ b = z ∨ b = TO ∨ b = i1 ∨ b = i2 := by simpa using hb
      rcases e' with e | e | e | e | e
      · rw [e]; exact hSl
      · rw [e]; rcases q.zz with e1 | ⟨_, _, _, e1, _⟩
        · exact Heap.lt_size e1
        · exact Heap.lt_size e1
      · rw [e]; obtain ⟨_, _, e1⟩ := q.to; exact Heap.lt_size e1
      · rw [e]; obtain ⟨_, e1, _⟩ := q.h1; exact Heap.lt_size e1
      · rw [e]; obtain ⟨_, e1, _⟩ := q.h2; exact Heap.lt_size e1
    have hf1 : ∀ b ∈ [S, z, TO, i1, i2], FpOk X pins (upd H s.heap.objs.size (.tup [x, y])) b := fun b hb => by
      obtain ⟨n1, rest⟩ := hf b hb
      exact ⟨by rw [upd_ne (Nat.ne_of_lt (hlts b hb))]; exact n1, rest⟩
    have hL' := hk S _ (hS _ (by simp)).symm (hS _ (by simp)).symm (hS _ (by simp)).symm (hS _ (by simp)).symm hL
    show wpAny _ A.in1 (updateSeq S (·.push (.ref s.heap.objs.size)) >>= _) _ _ _
    refine wpAny_bind ?_
    refine wpAny_updateSeq hL' rfl (wpAny_pure ⟨plainId_quiet F.plain_extend_loop _, ?_⟩) (by rw [hacc]; omega) (by show (acc.push _).size ≤ sizeLine + 1; rw [Array.size_push, hacc]; omega)
    obtain ⟨c2, hL2⟩ := lst_get (f := (·.push (.ref s.heap.objs.size))) hL'
    have oth : ∀ b o, b ≠ S → h'.get? b = some o → (h'.update S (Obj.mapSeq (·.push (.ref s.heap.objs.size)))).get? b = some o := fun b o hb e => (Heap.get?_update_other _ _ (Ne.symm hb)).trans e
    have I2 : Inv X pins σ (upd H s.heap.objs.size (.tup [x, y])) { s with heap := h'.update S (Obj.mapSeq (·.push (.ref s.heap.objs.size))) } :=
      Inv.turnedL (s := { s with heap := h' }) I1 (t' := s.toks) (ch := [S]) (fun b o hb e => oth b o (fun q => hb (by simp [q])) e) (fun b hb => hf1 b (by rw [List.mem_singleton.mp hb]; simp))
    refine ih (i + 1) _ _ (acc.push (.ref s.heap.objs.size)) c2 (outs ++ [.ref s.heap.objs.size]) (by rw [← List.drop_drop, hd]; rfl) hlt I2 hf1 (q'.frame hS oth) hL2 (by rw [Array.toList_push]; exact r.append (.cons rfl .nil)) (by rw [List.length_append, hl]; rfl) fun s' H' acc' c' ts I' hf' hL' hn hv => ?_
    exact hR s' H' acc' c' (.ref s.heap.objs.size :: ts) I' hf' hL' ⟨_, _, rfl, hfr, hn⟩ (by rw [List.append_assoc] at hv; exact hv)
end
section
variable {X : Cx} {pins : List (Addr × Obj)} {σ : L2.St} {z TI TO i1 i2 l1 l2 : Addr} {vx vy : List V} {ix iy : List Value}
/-- extend by a zip -/
theorem extend_zip {R : Result → Shared → Prop} {A : Around} {s : Shared} {H : Hp} {S : Addr} {c₀ : Nat} (hh : A.handled = none) (D : ZipApart z TI TO i1 i2 l1 l2) (hS : ∀ b ∈ [z, TI, TO, i1, i2, l1, l2], b ≠ S) (rx : Vals vx ix) (ry : Vals vy iy) (hx : vx.length ≤ sizeLine) (res : Value)
    (I : Inv X pins σ H s) (hf : ∀ b ∈ [S, z, TO, i1, i2], FpOk X pins H b) (q : ZS s.heap z TI TO i1 i2 l1 l2 S 0 ix.toArray iy.toArray) (hL : s.heap.get? S = some { cls := .type "list", data := .seq #[] c₀ })
    (hR : ∀ s' H' acc' c' ts, Inv X pins σ H' s' → (∀ b ∈ [S, z, TO, i1, i2], FpOk X pins H' b) → s'.heap.get? S = some { cls := .type "list", dict := none, data := .seq acc' c', slots := #[] } → NewT H (vx.zip vy) ts H' → Vals ts acc'.toList → R (.ok (.ret res)) s') :
    wpAny (model X.prog X.w) A.in1 (Builtin.List.listExtendWith (.ref S) (.ref z) res)
      (fun fin s' => match fin with | .done f => R (.ok f) s' | .again c' => c'.quiet = true ∧ codeAny (model X.prog X.w) A c' R s') (fun e s' => R (.error e) s') s := by
  have hSz : S ≠ z := (hS z (by simp)).symm
  have h1 : Builtin.List.listSameRef (.ref S) (.ref z) = false := by simp [Builtin.List.listSameRef, hSz]
  have h2 : (Value.type "zip" == Value.type "list") = false := by decide
  have h3 : (Value.type "zip" == Value.type "tuple") = false := by decide
  unfold Builtin.List.listExtendWith
  refine wpAny_bind (wpAny_typeOf q.ty ?_)
  simp only [h1, h2, h3, Bool.or_false, Bool.false_eq_true, if_false]
  have hit : ∀ {Q : Value → Shared → Prop} {E : Value → Shared → Prop}, Q (.ref z) s → wpAny (model X.prog X.w) A.in1 (pyIter (.ref z)) Q E s := fun h => by
    rcases q.zz with e | ⟨T, f, oT, e, _⟩
    · exact wpAny_pyIter_zip e h
    · have hT : s.TypeIs (.ref z) "zip" := ⟨_, e, rfl⟩
      refine wpAny_pyIter_slot hT F.slot_zip_iter (wpAny_call_entry F.slot_zip_iter hT F.entry_zip_iter ?_ (F.args_zip_iter_1 _))
      show wpAny _ _ (ret (.ref z)) _ _ s
      exact wpAny_pure ⟨_, rfl, "zip", _, hT, F.slot_zip_next.lookup, h⟩
  refine wpAny_bind (hit ?_)
  refine wpAny_bind (wpAny_holding ?_)
  unfold Builtin.List.listLengthHint
  refine wpAny_bind (wpAny_specialOf q.ty zip_no_len ?_)
  show wpAny _ A.in1 (specialOf (Value.ref z) (Str.ofString "__length_hint__") >>= _) _ _ _
  refine wpAny_bind (wpAny_specialOf q.ty zip_no_hint ?_)
  refine wpAny_pure ?_
  show wpAny _ A.in1 (rule "list.extend.makes-room" >>= fun _ => Builtin.List.listTouch (.ref S) >>= fun _ =>
    again (.builtin "list.extend.loop" ⟨[.ref S, .ref z, res], []⟩)) _ _ _
  refine wpAny_bind (wpAny_rule ?_)
  refine wpAny_bind ?_
  show wpAny _ A.in1 (updateSeq S (·.push .none) >>= fun _ => updateSeq S (·.pop)) _ _ _
  refine wpAny_bind (wpAny_updateSeq hL rfl ?_)
  obtain ⟨c1, hL1⟩ := lst_get (f := (·.push Value.none)) hL
  refine wpAny_updateSeq hL1 rfl ?_
  obtain ⟨c2, hL2⟩ := lst_get (f := (·.pop)) hL1
  have oth : ∀ b o, b ≠ S → s.heap.get? b = some o → ((s.heap.update S (Obj.mapSeq (·.push Value.none))).update S (Obj.mapSeq (·.pop))).get? b = some o :=
    fun b o hb e => (Heap.get?_update_other _ _ (Ne.symm hb)).trans ((Heap.get?_update_other _ _ (Ne.symm hb)).trans e)
  have I2 : Inv X pins σ H { s with heap := (s.heap.update S (Obj.mapSeq (·.push Value.none))).update S (Obj.mapSeq (·.pop)) } :=
    I.turnedL (t' := s.toks) (ch := [S]) (fun b o hb e => oth b o (fun q => hb (by simp [q])) e) (fun b hb => hf b (by rw [List.mem_singleton.mp hb]; simp))
  refine wpAny_pure ⟨plainId_quiet F.plain_extend_loop _, loop hh D hS rx ry hx res (vx.zip vy) 0 _ H #[] c2 [] rfl (Nat.zero_le _) I2 hf (q.frame hS oth) hL2 .nil rfl fun s' H' acc' c' ts I' hf' hL' hn hv => ?_⟩
  exact hR s' H' acc' c' ts I' hf' hL' hn hv
end
end Wk.LZ
namespace Wk
open PySem L2 PyProof.Rows
def rLstZip (K : PySem.W.Frag) (Q : VK) (vs : List V) (H1 : Hp) : Prop := ∃ (a b : Addr) (xs ys : List V), vs = [.ref a, .ref b] ∧ SqL K H1 a xs ∧ SqL K H1 b ys ∧ ∀ ts H2, LZ.NewT H1 (xs.zip ys) ts H2 → ∀ q, H2 q = none → Q (.ref q) (upd H2 q (.lst ts))
def tLstZip (K : PySem.W.Frag) (ta : TA) : TE := fun σ H Q => ta σ H (rLstZip K Q)
theorem e_lzip {K : PySem.W.Frag} {ta : TA} {σ : L2.St} {H : Hp} {Q : VK} (h : ta σ H (rLstZip K Q)) : tLstZip K ta σ H Q := h
theorem LZ.len : ∀ {r : List (V × V)} {H : Hp} {ts : List V} {H2 : Hp}, LZ.NewT H r ts H2 → ts.length = r.length
  | [], _, _, _, ⟨a, _⟩ => by rw [a]; rfl
  | (x, y) :: r, _, _, _, ⟨T, ts', a, _, c⟩ => by rw [a, List.length_cons, List.length_cons, LZ.len c]
section
variable {X : Cx}
theorem pe_lstZip {e e2 : Expr} {ta : TA} {p p2 pos pos2 : Pos} (hc : X.calm = true) (hg : Gl X "list") (hm : X.mg "list" = none) (hg2 : Gl X "zip") (hm2 : X.mg "zip" = none) (ha : PA X [e, e2] ta)
    (hs : starEach [e, e2] X.env = (false, eval e X.env) :: starEach [e2] X.env := by rfl) (hpl : (backTo pos2 (starEach [e2] X.env)).any (·.1) = false := by rfl)
    (hs2 : starEach [.Call (.Name "zip" p2) [e, e2] [] pos2] X.env = (false, eval (.Call (.Name "zip" p2) [e, e2] [] pos2) X.env) :: starEach [] X.env := by rfl) :
    PE X (.Call (.Name "list" p) [.Call (.Name "zip" p2) [e, e2] [] pos2] [] pos) (tLstZip X.K ta) := by
  refine ⟨fun pins s σ H Q I h => ?_⟩
  refine Call_ (ld_blt I hg hm PyProof.Rows.boot_list (PyProof.Rows.callWith_type1 (args_cons (Call_ (ld_blt I hg2 hm2 PyProof.Rows.boot_zip (PyProof.Rows.callWith_type1 (thn (ha.run pos2 pins s σ H _ I h) fun us s1 ⟨vs, H1, I1, r1, q1⟩ => ?_) hs hpl))) hs2) hs2 rfl))
  obtain ⟨a, b, xs, ys, ex, hqx, hqy, q⟩ := q1
  subst ex
  cases r1 with
  | cons r rr =>
    cases rr with
    | cons r' rr =>
      cases rr
      cases r
      cases r'
      obtain ⟨its, rv, p1, hz1⟩ := I1.list hqx
      obtain ⟨its2, rv2, p2', _⟩ := I1.list hqy
      have la : a < s1.heap.objs.size := p1.lt
      have lb : b < s1.heap.objs.size := p2'.lt
      refine call_zip_2 p1.isList p2'.isList fun h' hz hTI hTO h1 h2 hsz hk => args_nil ?_
      have D := PySem.W.ktu_apart s1.heap.objs.size a b la lb
      have I2 : Inv X pins σ H1 { s1 with heap := h' } := I1.kept (t' := s1.toks) hk
      -- the list
      refine callType_codes (Q₁ := fun obj s₁ => obj = .ref h'.objs.size ∧ s₁ = { s1 with heap := h'.push { cls := .type "list", data := .seq #[] } }) F.called_list (F.typeCall_list_1 _) F.entry_list_init
        (code_list_new _ ⟨rfl, rfl⟩) fun obj s₁ h₁ => ?_
      obtain ⟨rfl, rfl⟩ := h₁
      have hS : (h'.push { cls := .type "list", data := .seq #[] }).get? h'.objs.size = some { cls := .type "list", data := .seq #[] } := Heap.get?_push_size _ rfl
      refine ⟨⟨_, hS, rfl⟩, F.args_list_init_2 _ _, ?_⟩
      show wpAny _ _ (do let old ← Builtin.List.listItems (.ref h'.objs.size); Builtin.List.listUpdate (.ref h'.objs.size) (fun _ => #[]); letGo old.toList.reverse; Builtin.List.listExtendWith (.ref h'.objs.size) (.ref (s1.heap.objs.size + 4)) .none) _ _ _
      refine wpAny_bind ?_
      unfold Builtin.List.listItems
      refine wpAny_bind (wpAny_seqItems hS rfl (wpAny_pure ?_))
      show wpAny _ _ (updateSeq h'.objs.size (fun _ => #[]) >>= fun _ => letGo (#[] : Array Value).toList.reverse >>= fun _ => Builtin.List.listExtendWith (.ref h'.objs.size) (.ref (s1.heap.objs.size + 4)) .none) _ _ _
      refine wpAny_bind (wpAny_updateSeq hS rfl ?_)
      obtain ⟨c₂, hS₂⟩ : ∃ c, ((h'.push { cls := .type "list", data := .seq #[] }).update h'.objs.size (Obj.mapSeq (fun _ => (#[] : Array Value)))).get? h'.objs.size = some { cls := .type "list", data := .seq #[] c } := ⟨_, Heap.get?_update_self (Obj.mapSeq (fun _ => (#[] : Array Value))) hS rfl⟩
      have oth : ∀ b o, h'.get? b = some o → ((h'.push { cls := .type "list", data := .seq #[] }).update h'.objs.size (Obj.mapSeq (fun _ => (#[] : Array Value)))).get? b = some o :=
        fun b o e => (Heap.get?_update_other _ _ (Nat.ne_of_gt (Heap.lt_size e))).trans (Heap.get?_push_of_some _ e)
      refine wpAny_bind (wpAny_letGo ?_)
      have I3 : Inv X pins σ H1 { s1 with heap := (h'.push { cls := .type "list", data := .seq #[] }).update h'.objs.size (Obj.mapSeq (fun _ => (#[] : Array Value))) } := I1.kept (t' := s1.toks) fun b u e => oth b u (hk b u e)
      have hlt : ∀ {b o}, h'.get? b = some o → b ≠ h'.objs.size := fun e => Nat.ne_of_lt (Heap.lt_size e)
      have hSs : ∀ c ∈ [s1.heap.objs.size + 4, s1.heap.objs.size + 2, s1.heap.objs.size + 3, s1.heap.objs.size, s1.heap.objs.size + 1, a, b], c ≠ h'.objs.size := by
        intro c hc
        rw [hsz]
        have e' : c = s1.heap.objs.size + 4 ∨ c = s1.heap.objs.size + 2 ∨ c = s1.heap.objs.size + 3 ∨ c = s1.heap.objs.size ∨ c = s1.heap.objs.size + 1 ∨ c = a ∨ c = b := by simpa using hc
        refine Nat.ne_of_lt ?_
        rcases e' with e | e | e | e | e | e | e
        · rw [e]; exact Nat.lt_succ_self _
        · rw [e]; exact Nat.add_lt_add_left (by decide) _
        · rw [e]; exact Nat.add_lt_add_left (by decide) _
        · rw [e]; exact Nat.lt_add_of_pos_right (by decide)
        · rw [e]; exact Nat.add_lt_add_left (by decide) _
        · rw [e]; exact Nat.lt_of_lt_of_le la (Nat.le_add_right _ _)
        · rw [e]; exact Nat.lt_of_lt_of_le lb (Nat.le_add_right _ _)
      have hf : ∀ c ∈ [h'.objs.size, s1.heap.objs.size + 4, s1.heap.objs.size + 3, s1.heap.objs.size, s1.heap.objs.size + 1], FpOk X pins H1 c := by
        intro c hc
        have e' : c = h'.objs.size ∨ c = s1.heap.objs.size + 4 ∨ c = s1.heap.objs.size + 3 ∨ c = s1.heap.objs.size ∨ c = s1.heap.objs.size + 1 := by simpa using hc
        have hle : s1.heap.objs.size ≤ c := by
          rw [hsz] at e'
          rcases e' with e | e | e | e | e
          · rw [e]; exact Nat.le_add_right _ _
          · rw [e]; exact Nat.le_add_right _ _
          · rw [e]; exact Nat.le_add_right _ _
          · rw [e]; exact Nat.le_refl _
          · rw [e]; exact Nat.le_add_right _ _
        exact I1.fpOk hle (I1.hok.fresh hle)
      refine LZ.extend_zip (X := X) (pins := pins) (σ := σ) (H := H1) (A := X.A.in1) (R := wants (fun r s₂ => r = Value.none ∧ _) _) (I1.ok.hd hc) D hSs rv rv2 hz1 .none I3 hf ⟨oth _ _ hTI, ⟨_, _, oth _ _ hTO⟩, h1.at fun o e => oth _ o e, h2.at fun o e => oth _ o e, (p1.isList.at fun o e => oth _ o (hk _ o e)), (p2'.isList.at fun o e => oth _ o (hk _ o e)), .inl (oth _ _ hz)⟩ hS₂ fun s' H' acc' c' ts I' hf' hL' hn hv => ?_
      refine ⟨rfl, ?_⟩
      have hl : ts.length ≤ sizeLine := by rw [LZ.len hn, List.length_zip]; exact Nat.le_trans (Nat.min_le_left _ _) hz1
      have hnew : ObjOk X.prog X.w (upd H' h'.objs.size (.lst ts)) s'.heap h'.objs.size (.lst ts) := ⟨hl, acc'.toList, c', hv, by rw [Array.toArray_toList]; exact hL'⟩
      have hfS := hf' h'.objs.size (by simp)
      exact ⟨.ref h'.objs.size, upd H' h'.objs.size (.lst ts), I'.take (t' := s'.toks) (fun _ _ _ e => e) hfS hnew, rfl, q ts H' hn _ hfS.1⟩
end
section
variable {α β : Type} {e : Rep α} {f : Rep β} {K : PySem.W.Frag} {F0 H0 F H H2 : Hp} {p q : Addr} {xs : List α} {ys : List β} {Q : VK}
/-- the new tuples -/
theorem newT_all : ∀ {us vs : List V} {xs : List α} {ys : List β} {F H : Hp} {ts : List V}, Ex F H → All e F us xs → All f F vs ys → LZ.NewT H (us.zip vs) ts H2 →
    ∃ F2, Wf F H F2 H2 ∧ All (pT2 e f) F2 ts (xs.zip ys)
  | [], _, [], _, F, H, ts, hf, _, _, ⟨a, b⟩ => by subst a b; exact ⟨F, Wf.id hf, trivial⟩
  | _ :: _, [], _ :: _, [], F, H, ts, hf, _, _, ⟨a, b⟩ => by subst a b; exact ⟨F, Wf.id hf, trivial⟩
  | u :: us, v :: vs, x :: xs, y :: ys, F, H, ts, hf, ⟨a1, a2⟩, ⟨b1, b2⟩, ⟨T, ts', hts, hT, hn⟩ => by
    subst hts
    have w := Wf.new (o := .tup [u, v]) hf hT
    have g := w.g
    obtain ⟨F2, w2, a⟩ := newT_all w.f (a2.mono g) (b2.mono g) hn
    refine ⟨F2, w.tr w2, ⟨⟨T, u, v, rfl, w2.g _ _ upd_same, e.mono w2.g (e.mono g a1), f.mono w2.g (f.mono g b1)⟩, a⟩⟩
  | [], _, _ :: _, _, _, _, _, _, q, _, _ => q.elim
  | _ :: _, _, [], _, _, _, _, _, q, _, _ => q.elim
  | _ :: _, [], _ :: _, _ :: _, _, _, _, _, _, q, _ => q.elim
  | _ :: _, _ :: _, _ :: _, [], _, _, _, _, _, q, _ => q.elim
theorem n_lzip {v1 v2 : V} (r1 : (pL e).r F v1 xs) (r2 : (pL f).r F v2 ys) (w : Wf F0 H0 F H) (k : ∀ p F' H', H p = none → Wf F H F' H' → XL (pT2 e f) H0 F' H' p (xs.zip ys) → Q (.ref p) H') : rLstZip K Q [v1, v2] H := by
  obtain ⟨p1, us, rfl, h1, a1⟩ := r1
  obtain ⟨p2, vs, rfl, h2, a2⟩ := r2
  refine ⟨p1, p2, us, vs, rfl, SqL.of (w.f _ _ h1), SqL.of (w.f _ _ h2), fun ts H2 hn l hl => ?_⟩
  obtain ⟨F2, w2, a⟩ := newT_all w.f a1 a2 hn
  exact k l F2 _ (w2.h.non hl) (w2.tr (Wf.newX w2.f hl)) ⟨ts, Xc.mk' (w.tr w2) hl, a⟩
end
end Wk
/-! Df: methods with a default, lists that are told inside a tuple, lists of any kind. -/
namespace Wk
open PySem L2
/-- a raw value -/
def pV : Rep V := ⟨fun _ v x => v = x, fun _ h => h⟩
abbrev anN (n : Nat) : An := .i (n : Int)
section
variable {α : Type} {e : Rep α} {F : Hp} {v : V} {xs : List Nat} {ys : List Int}
theorem all_any : ∀ {vs : List V} {xs : List Nat}, All pN F vs xs → All pA F vs (xs.map anN)
  | [], [], _ => trivial
  | _ :: _, _ :: _, ⟨a, b⟩ => ⟨a, all_any b⟩
  | [], _ :: _, q => q.elim
  | _ :: _, [], q => q.elim
theorem L_any (r : (pL pN).r F v xs) : (pL pA).r F v (xs.map anN) := let ⟨p, vs, a, b, c⟩ := r; ⟨p, vs, a, b, all_any c⟩
theorem all_anyI : ∀ {vs : List V} {xs : List Int}, All pI F vs xs → All pA F vs (xs.map An.i)
  | [], [], _ => trivial
  | _ :: _, _ :: _, ⟨a, b⟩ => ⟨a, all_anyI b⟩
  | [], _ :: _, q => q.elim
  | _ :: _, [], q => q.elim
theorem L_anyI (r : (pL pI).r F v ys) : (pL pA).r F v (ys.map An.i) := let ⟨p, vs, a, b, c⟩ := r; ⟨p, vs, a, b, all_anyI c⟩
theorem an_T3 {α β γ : Type} {e : Rep α} {f : Rep β} {g : Rep γ} {y : α × β × γ} (r : (pT3 e f g).r F v y) : pA.r F v (.o "tuple") := let ⟨p, u, w, z, a, b, _⟩ := r; ⟨p, a, .inr (.inl ⟨rfl, _, b⟩)⟩
end
section
variable {α β γ : Type} {e : Rep α} {f : Rep β} {g : Rep γ} {K : PySem.W.Frag} {F H : Hp} {v : V} {x : α × β × γ}
theorem ix_3b (r : (pT3 e f g).r F v x) (h : Ex F H) : ∃ w, f.r F w x.2.1 ∧ ∀ ⦃σ ta tb⦄, Val ta σ H v → Val tb σ H (.int 1) → Val (tOp (rIxT K) ta tb) σ H w := by
  obtain ⟨p, u, w, y, rfl, hp, a, b, c⟩ := r
  exact ⟨w, b, fun _ _ _ ha hb => v2 ha hb fun Q k => ⟨p, _, _, w, rfl, rfl, SqT.of (h _ _ hp), rfl, k⟩⟩
theorem ix_3c (r : (pT3 e f g).r F v x) (h : Ex F H) : ∃ w, g.r F w x.2.2 ∧ ∀ ⦃σ ta tb⦄, Val ta σ H v → Val tb σ H (.int 2) → Val (tOp (rIxT K) ta tb) σ H w := by
  obtain ⟨p, u, w, y, rfl, hp, a, b, c⟩ := r
  exact ⟨y, c, fun _ _ _ ha hb => v2 ha hb fun Q k => ⟨p, _, _, y, rfl, rfl, SqT.of (h _ _ hp), rfl, k⟩⟩
theorem ix_3a (r : (pT3 e f g).r F v x) (h : Ex F H) : ∃ w, e.r F w x.1 ∧ ∀ ⦃σ ta tb⦄, Val ta σ H v → Val tb σ H (.int 0) → Val (tOp (rIxT K) ta tb) σ H w := by
  obtain ⟨p, u, w, y, rfl, hp, a, b, c⟩ := r
  exact ⟨u, a, fun _ _ _ ha hb => v2 ha hb fun Q k => ⟨p, _, _, u, rfl, rfl, SqT.of (h _ _ hp), rfl, k⟩⟩
theorem e_sl {r : V → Option Int → Option Int → Hp → VK → Prop} {te : TE} {tl th : TO} {σ : L2.St} {Q : VK} (h : te σ H fun v H1 => L2.tSl r (tC v) tl th σ H1 Q) : L2.tSl r te tl th σ H Q := h
instance {n m k : Nat} [Dat e n] [Dat f m] [Dat g k] : Dat (pT3 e f g) (max n (max m k) + 1) := ⟨fun x => .tuple [Dat.d e x.1, Dat.d f x.2.1, Dat.d g x.2.2], fun {K F v x} h => by
    obtain ⟨p, u, w, y, rfl, hp, a, b, c⟩ := h
    exact .tup (SqT.of hp) (.cons (Dat.dp a) (.cons (Dat.dp b) (.cons (Dat.dp c) .nil))), fun x => by
    show (PyData.canLay0 (Dat.d e x.1) && (PyData.canLay0 (Dat.d f x.2.1) && (PyData.canLay0 (Dat.d g x.2.2) && PyData.canLayAll0 []))) = true
    rw [Dat.lay, Dat.lay, Dat.lay]; rfl, fun x => by
    have a := Dat.dep (e := e) x.1
    have b := Dat.dep (e := f) x.2.1
    have c := Dat.dep (e := g) x.2.2
    simp only [PyData.depth, PyData.depthAll]
    omega, fun x y => by
    show (PyData.eqv (Dat.d e x.1) (Dat.d e y.1) && (PyData.eqv (Dat.d f x.2.1) (Dat.d f y.2.1) && (PyData.eqv (Dat.d g x.2.2) (Dat.d g y.2.2) && PyData.eqvAll [] []))) = true ↔ _
    have z : PyData.eqvAll [] [] = true := rfl
    rw [z, Bool.and_true, Bool.and_eq_true, Bool.and_eq_true, Dat.inj, Dat.inj, Dat.inj, Prod.ext_iff, Prod.ext_iff]⟩
end
/-- a method with a default -/
structure MdD (P : Program) (w : World) (K : PySem.W.Frag) (mg : Str → Option Value) (base : Heap) (CX : CXT) (k : Nat) (C : Addr) (m : Str) (ps : List Str) (sp : Sp) (dvs : List V) : Prop where
  ex : ∃ f fd, FnOk P w K mg base CX k f fd ps sp ∧ Meth K C m f ∧ Binds K fd ps [] ∧ ∃ ds, Vals dvs ds ∧ Binds K fd ps ds
theorem MdD.full {P : Program} {w : World} {K : PySem.W.Frag} {mg : Str → Option Value} {base : Heap} {CX : CXT} {k : Nat} {C : Addr} {m : Str} {ps : List Str} {sp : Sp} {dvs : List V} (M : MdD P w K mg base CX k C m ps sp dvs) : Md P w K mg base CX k C m ps sp :=
  let ⟨f, fd, a, b, c, _⟩ := M.ex; ⟨f, fd, a, b, c⟩
theorem funD_mk {K : PySem.W.Frag} {x qual : Str} {st : Stmt} {f T : Addr} {oc aT : Value} {od an bT : Option Addr} {osl sT : Array (Option Value)} {kV doc pm cdv ct : Value} {its : Array Value} {n : Nat} {dvs : List V}
    (l : K.lookup f = some ⟨oc, od, .func (PySem.W.fnOf x qual (defArgs st) (defBody st) (defScope st) (.ref T) kV doc pm an cdv ct), osl⟩) (c : PySem.W.codeIn K cdv qual = true) (k : PySem.W.keepIn K (.ref f) = true)
    (lT : K.lookup T = some ⟨aT, bT, .seq its n, sT⟩) (r : Vals dvs its.toList) (hne : dvs ≠ []) : FunD K x qual (defArgs st) (defBody st) (defScope st) dvs [] f (PySem.W.fnOf x qual (defArgs st) (defBody st) (defScope st) (.ref T) kV doc pm an cdv ct) :=
  ⟨⟨oc, od, _, kV, doc, pm, an, cdv, ct, osl, rfl, l, c, .inr ⟨hne, T, _, its.toList, n, rfl, lT, by rw [Array.toArray_toList], r⟩, .inl rfl⟩, k⟩
theorem FunD.full {K : PySem.W.Frag} {x qual : Str} {params : Arguments} {body : List Stmt} {scope : Scope} {dvs : List V} {f : Addr} {fd : FuncData} {ps : List Str} (F : FunD K x qual params body scope dvs [] f fd) (hd : dvs ≠ [])
    (h : ∀ (T : Addr) (kV doc pm : Value) (an : Option Addr) (cdv ct : Value) (us its : List Value), us.length = ps.length → its.length = dvs.length →
      ∃ k, bindArgs (PySem.W.fnOf x qual params body scope (.ref T) kV doc pm an cdv ct) ⟨us, []⟩ = seqItems? (.ref T) >>= k ∧ k (some its.toArray) = pure (ps.zip (us ++ its.drop dvs.length))) : Binds K fd ps [] := by
  obtain ⟨ds, r, b⟩ := F.binds1 (ps := ps) ps.length dvs.length hd (by rw [Nat.sub_self]; rfl) h
  rw [List.drop_length] at r
  cases r
  exact b
section
variable {X : Cx} {k : Nat} {C : Addr} {x m : Str} {ps : List Str} {sp : Sp} {W : WX} {o e : Expr} {es : List Expr} {p pos apos : Pos} {ta : TE} {t : TA} {pl : Sem Bool} {dvs : List V}
theorem run_fnSD {CX : CXT} {f : Addr} {fd : FuncData} {ds : List Value} {E : L2.St → XK} {pins : List (Addr × Obj)} {σ : L2.St} {H : Hp} {s : Shared} {Q : VK} {us : List Value} {vs : List V} (F : FnOk X.prog X.w X.K X.mg X.base CX k f fd ps sp) (hr : Room k X.A) (hb : Binds X.K fd ps ds) (hd : Vals dvs ds) (hx : PassesAt CX X σ (E σ))
    (I : Inv X pins σ H s) (r : Vals vs us) (h : sp (vs ++ dvs) H Q (E σ)) : wpAny (model X.prog X.w) X.A (call (.ref f) us) (EP X pins σ Q) X.xe s := by
  have r2 : Vals (vs ++ dvs) (us ++ ds) := r.append hd
  have hl : (us ++ ds).length = ps.length := by rw [← r2.length]; exact F.len _ _ _ _ h
  refine wpAny_call (codeAny_mono (F.run X.A X.stack s H ⟨us, []⟩ (us ++ ds) (vs ++ dvs) Q (E σ) hr I.env0 (hb s us I.kIn hl) r2 h) fun r s' hq => ?_)
  cases r with
  | error e => exact hx pins H s e s' I hq
  | ok fl =>
    cases fl with
    | ret u => exact I.after hq
    | next => exact False.elim hq
    | brk => exact False.elim hq
    | cont => exact False.elim hq
def tMdD (C : Addr) (m : Str) (sp : Sp) (dvs : List V) (E : L2.St → XK) (ta : TE) (t : TA) : TE := fun σ H Q => ta σ H fun x H1 => ∃ a dx fs, x = .ref a ∧ H1 a = some (.ins C dx fs) ∧ fs.lookup m = none ∧ t σ H1 fun vs H2 => sp (x :: (vs ++ dvs)) H2 Q (E σ)
theorem e_mdD {E : L2.St → XK} {σ : L2.St} {H : Hp} {Q : VK} (h : ta σ H fun x H1 => ∃ a dx fs, x = .ref a ∧ H1 a = some (.ins C dx fs) ∧ fs.lookup m = none ∧ t σ H1 fun vs H2 => sp (x :: (vs ++ dvs)) H2 Q (E σ)) : tMdD C m sp dvs E ta t σ H Q := h
theorem pe_mdD {E : L2.St → XK} (M : MdD X.prog X.w X.K X.mg X.base (L2.CX X.prog X.w) k C m ps sp dvs) (hx : ∀ σ, PassesAt (L2.CX X.prog X.w) X σ (E σ)) (cl : Cls X.K C) (hr : Room k X.A) (he : PE X o ta) (ha : PA X (e :: es) t)
    (hst : starEach (e :: es) X.env = (false, eval e X.env) :: starEach es X.env := by rfl) (hpl : (backTo pos (starEach es X.env)).any (·.1) = false := by rfl)
    (ht : eval (.Call (.Attribute o m apos) (e :: es) [] pos) X.env = (do
      let ov ← eval o X.env
      standAt apos.atName
      let (f, first) ← holding [ov] (getMethod ov m pl)
      callWith pos f first (backTo pos (starEach (e :: es) X.env)) (backToKw pos (keywordEach [] X.env))) := by rfl) :
    PE X (.Call (.Attribute o m apos) (e :: es) [] pos) (tMdD C m sp dvs E ta t) := by
  obtain ⟨f, fd, F, hm, _, ds, hd, hb⟩ := M.ex
  refine ⟨fun pins s σ H Q Iv hh => ?_⟩
  refine PySem.W.methodCall_KW (pl := pl) (thn (he.run pins s σ H _ Iv hh) fun u s1 ⟨x, H1, Iv1, rx, a, dx, fs, ex, ea, lk, qq⟩ => ?_) ht
  subst ex
  obtain rfl : u = Value.ref a := rx
  refine getmeth_ok Iv1 ea cl hm lk ?_
  refine PySem.W.callWith_K (first := [.ref a]) (h₀ := X.base) Iv1.ok.mod.kin hm.kp (thn (ha.run pos pins s1 σ H1 _ Iv1 qq) fun us s2 ⟨vs, H2, Iv2, rv, q2⟩ => ⟨Iv2.kIn, ?_⟩) hst hpl
  exact run_fnSD (us := .ref a :: us) (vs := .ref a :: vs) F hr hb hd (hx σ) Iv2 (.cons rfl rv) q2
end
theorem passAtL {X : Cx} (σ : L2.St) : PassesAt (L2.CX X.prog X.w) X σ E0 := fun pins H s e s' I h => passL pins σ H s e s' I h
/-- xs[:-n] -/
theorem n_cutNeg {α : Type} {e : Rep α} {K : PySem.W.Frag} {σ : L2.St} {F0 H0 F H : Hp} {te th : TE} {v : V} {xs : List α} {Q : VK} {n : Nat} (hn : 0 < n) (r : (pL e).r F v xs) (hv : Val te σ H v) (h2 : Val th σ H (.int (-(n : Int)))) (w : Wf F0 H0 F H)
    (k : ∀ p H', H p = none → Wf F H F H' → XL e H0 F H' p (xs.take (xs.length - n)) → Q (.ref p) H') : L2.tSl (rSlL K) te tNoPart (tPart th) σ H Q := by
  obtain ⟨p, vs, rfl, hp, a⟩ := r
  refine hv _ (h2 _ ⟨_, rfl, p, vs, rfl, SqL.of (w.f _ _ hp), fun l hl => ?_⟩)
  have e1 : cutV vs none (some (-(n : Int))) = vs.take (vs.length - n) := by
    unfold cutV
    have e2 : HT.sIx vs.length vs.length (some (-(n : Int))) = vs.length - n := by
      show (if (-(n : Int)) < 0 then ((-(n : Int)) + (vs.length : Int)).toNat else _) = _
      rw [if_pos (by omega)]; omega
    rw [e2, HT.sIx_none, List.drop_zero, Nat.sub_zero]
  rw [e1, a.len]
  exact k l _ hl (Wf.newX w.f hl) ⟨_, Xc.mk' w hl, a.take _⟩
/-! things that hold nothing of what was there at H -/
def nw (H F : Hp) : Hp := fun a => if H a = none then F a else none
theorem nw_ex {H F F' : Hp} (h : Ex F F') : Ex (nw H F) (nw H F') := fun a o e => by
  unfold nw at e ⊢
  by_cases q : H a = none
  · rw [if_pos q] at e ⊢; exact h a o e
  · rw [if_neg q] at e; cases e
theorem nw_sub {H F : Hp} : Ex (nw H F) F := fun a o e => by
  unfold nw at e
  by_cases q : H a = none
  · rw [if_pos q] at e; exact e
  · rw [if_neg q] at e; cases e
theorem nw_at {H F : Hp} {a : Addr} {o : HO} (h : H a = none) (e : F a = some o) : nw H F a = some o := by unfold nw; rw [if_pos h]; exact e
def Fre {α : Type} (H : Hp) (e : Rep α) (F : Hp) (v : V) (x : α) : Prop := e.r (nw H F) v x
section
variable {α β : Type} {e : Rep α} {f : Rep β} {F0 H0 F F' Fl H H2 F2 : Hp} {v u : V} {x : α} {y : β} {p : Addr} {Q : VK}
theorem Fre.r (h : Fre H e F v x) : e.r F v x := e.mono nw_sub h
theorem Fre.mono (g : Ex F F') (h : Fre H e F v x) : Fre H e F' v x := e.mono (nw_ex g) h
/-- behind a call to which one's own list was lent -/
theorem Fre.back (ex : Ex F H) (hx : Ex F Fl) (s : Wf Fl H F2 H2) (h : Fre H e F2 v x) : ∃ F3, Wf F H F3 H2 ∧ e.r F3 v x := by
  refine ⟨fun a => match nw H F2 a with | some o => some o | none => F a, ⟨s.h, fun a o q => ?_, fun a o q => ?_, fun a o q q0 => ?_⟩, e.mono (fun a o q => ?_) h⟩
  · cases z : nw H F2 a with
    | some o' =>
      have q' : (match nw H F2 a with | some o => some o | none => F a) = some o := q
      rw [z] at q'; cases q'
      exact s.f a _ (nw_sub a _ z)
    | none =>
      have q' : (match nw H F2 a with | some o => some o | none => F a) = some o := q
      rw [z] at q'
      exact s.h a o (ex a o q')
  · show (match nw H F2 a with | some o => some o | none => F a) = some o
    have : nw H F2 a = none := by unfold nw; rw [if_neg (by rw [ex a o q]; simp)]
    rw [this]; exact q
  · cases z : nw H F2 a with
    | some o' =>
      unfold nw at z
      by_cases c : H a = none
      · exact c
      · rw [if_neg c] at z; cases z
    | none =>
      have q' : (match nw H F2 a with | some o => some o | none => F a) = some o := q
      rw [z] at q'
      have q2 : F a = some o := q'
      rw [q0] at q2; cases q2
  · show (match nw H F2 a with | some o => some o | none => F a) = some o
    rw [q]
theorem all_sc {xs : List Nat} {F G : Hp} : ∀ {vs : List V} {xs : List Nat}, All pN F vs xs → All pN G vs xs
  | [], [], _ => trivial
  | _ :: _, _ :: _, ⟨a, b⟩ => ⟨a, all_sc (xs := xs) b⟩
  | [], _ :: _, q => q.elim
  | _ :: _, [], q => q.elim
/-- one's own list of numbers is changed no more, and is new -/
theorem XL.frzN {xs : List Nat} (x : XL pN H0 F H p xs) (w : Wf F0 H0 F H) : ∃ F', Wf F0 H0 F' H ∧ Ex F F' ∧ Fre H0 (pL pN) F' (.ref p) xs ∧ Fz F F' p := by
  obtain ⟨vs, a, b⟩ := x.x
  exact ⟨_, w.freeze a, Ex.new a.n, ⟨p, vs, rfl, nw_at a.z upd_same, all_sc (xs := xs) b⟩, fun q h z => by rw [upd_ne h]; exact z⟩
theorem n_fre2 (w : Wf F0 H0 F H) (a : Fre H0 e F v x) (b : Fre H0 f F u y) (k : ∀ p F' H', Wf F H F' H' → Fre H0 (pT2 e f) F' (.ref p) (x, y) → Q (.ref p) H') : kTup Q [v, u] H :=
  ⟨Nat.le_of_lt (small_len (n := 2) (by decide)), fun p hp => k p _ _ (Wf.new w.f hp) ⟨p, v, u, rfl, nw_at (w.h.non hp) upd_same, Fre.mono (Ex.new (w.f.non hp)) a, Fre.mono (Ex.new (w.f.non hp)) b⟩⟩
theorem T2_TL {z : α × α} (r : (pT2 e e).r F v z) : (pTL e).r F v [z.1, z.2] := let ⟨p, u, w, a, b, c, d⟩ := r; ⟨p, [u, w], a, b, c, d, trivial⟩
end
end Wk
/-! Mm: bits as masks, machines by tables. -/
namespace Wk
/-- the mask of a row of bits -/
def maskB : List Bool → Nat
  | [] => 0
  | b :: bs => b.toNat + 2 * maskB bs
theorem maskB_lt : ∀ bs : List Bool, maskB bs < 2 ^ bs.length
  | [] => by decide
  | b :: bs => by
    have := maskB_lt bs
    have hb : b.toNat ≤ 1 := by cases b <;> decide
    show b.toNat + 2 * maskB bs < 2 ^ (bs.length + 1)
    rw [Nat.pow_succ]; omega
theorem maskB_bit : ∀ (bs : List Bool) (j : Nat), (maskB bs).testBit j = bs.getD j false
  | [], j => by show (0 : Nat).testBit j = _; rw [Nat.zero_testBit]; rfl
  | b :: bs, 0 => by
    show (b.toNat + 2 * maskB bs).testBit 0 = b
    rw [Nat.testBit_zero]
    cases b
    · exact decide_eq_false (by show ¬ (0 + 2 * maskB bs) % 2 = 1; omega)
    · exact decide_eq_true (by show (1 + 2 * maskB bs) % 2 = 1; omega)
  | b :: bs, j + 1 => by
    show (b.toNat + 2 * maskB bs).testBit (j + 1) = bs.getD j false
    have e : (b.toNat + 2 * maskB bs) / 2 = maskB bs := by
      have hb : b.toNat ≤ 1 := by cases b <;> decide
      omega
    rw [← halfBit, e, maskB_bit bs j]
theorem maskB_snoc : ∀ (bs : List Bool) (b : Bool), maskB (bs ++ [b]) = maskB bs + b.toNat <<< bs.length
  | [], b => by show b.toNat + 2 * 0 = 0 + b.toNat <<< 0; rw [Nat.shiftLeft_eq]; omega
  | a :: bs, b => by
    show a.toNat + 2 * maskB (bs ++ [b]) = a.toNat + 2 * maskB bs + b.toNat <<< (bs.length + 1)
    rw [maskB_snoc bs b, Nat.shiftLeft_eq, Nat.shiftLeft_eq, Nat.pow_succ, ← Nat.mul_assoc]; omega
theorem maskB_or (bs : List Bool) (b : Bool) : maskB bs ||| b.toNat <<< bs.length = maskB (bs ++ [b]) := Nat.eq_of_testBit_eq fun j => by
  rw [Nat.testBit_or, maskB_bit, maskB_bit, Nat.testBit_shiftLeft, List.getD_eq_getElem?_getD, List.getD_eq_getElem?_getD]
  by_cases h : j < bs.length
  · rw [List.getElem?_append_left h, decide_eq_false (by omega)]; simp
  · rw [List.getElem?_append_right (by omega), List.getElem?_eq_none (by omega)]
    by_cases e : j = bs.length
    · subst e; rw [Nat.sub_self]; cases b <;> simp
    · rw [List.getElem?_eq_none (by rw [List.length_singleton]; omega)]
      have : b.toNat.testBit (j - bs.length) = false := by
        obtain ⟨k, hk⟩ : ∃ k, j - bs.length = k + 1 := ⟨j - bs.length - 1, by omega⟩
        rw [hk, ← halfBit]
        cases b
        · show (0 / 2 : Nat).testBit k = false; rw [Nat.zero_div, Nat.zero_testBit]
        · show (1 / 2 : Nat).testBit k = false; rw [show (1 / 2 : Nat) = 0 by decide, Nat.zero_testBit]
      rw [this]; simp
theorem NShl_bit {b : Bool} {k : Nat} (h : k < 1000000) : NShl b.toNat k := by
  unfold NShl
  have : b.toNat.log2 = 0 := by cases b <;> decide
  omega
/-- bits below w, all together -/
def px (f : Nat → Bool) : Nat → Bool
  | 0 => false
  | m + 1 => xor (px f m) (f m)
theorem px_congr {f g : Nat → Bool} : ∀ {m : Nat}, (∀ j, j < m → f j = g j) → px f m = px g m
  | 0, _ => rfl
  | m + 1, h => by show xor _ _ = xor _ _; rw [px_congr (m := m) fun j hj => h j (by omega), h m (by omega)]
theorem px_add (f : Nat → Bool) (m : Nat) : ∀ k, px f (m + k) = xor (px f m) (px (fun i => f (m + i)) k)
  | 0 => by show px f m = xor (px f m) false; simp
  | k + 1 => by show xor (px f (m + k)) (f (m + k)) = xor (px f m) (xor _ (f (m + k))); rw [px_add f m k]; simp
theorem px_xor (f g : Nat → Bool) : ∀ k, px (fun i => xor (f i) (g i)) k = xor (px f k) (px g k)
  | 0 => rfl
  | k + 1 => by
    show xor (px _ k) (xor (f k) (g k)) = xor (xor (px f k) (f k)) (xor (px g k) (g k))
    rw [px_xor f g k]; cases px f k <;> cases px g k <;> cases f k <;> cases g k <;> rfl
theorem par_px : ∀ {w n : Nat}, n < 2 ^ w → par n = px n.testBit w
  | 0, n, h => by
    have : n = 0 := by simpa using h
    subst this; rw [par_zero]; rfl
  | w + 1, n, h => by
    rw [par_step, par_px (w := w) (n := n / 2) (by rw [Nat.pow_succ] at h; omega), Nat.add_comm w 1, px_add]
    have e : px n.testBit 1 = n.testBit 0 := by show xor false _ = _; simp
    rw [e, px_congr (f := (n / 2).testBit) (g := fun i => n.testBit (1 + i)) fun j _ => by rw [halfBit, Nat.add_comm]]
theorem px_fold (n k : Nat) : px (n ^^^ n >>> k).testBit k = px n.testBit (k + k) := by
  rw [px_add, ← px_xor]
  exact px_congr fun j _ => by rw [Nat.testBit_xor, Nat.testBit_shiftRight]
def xfold (n : Nat) : Nat := [64, 32, 16, 8, 4, 2, 1].foldl (fun n k => n ^^^ n >>> k) n
theorem par_fold {n : Nat} (h : n < 2 ^ 128) : xfold n &&& 1 = (par n).toNat := by
  have e : par n = px (xfold n).testBit 1 := by
    rw [par_px h]
    show px n.testBit (64 + 64) = _
    rw [← px_fold n 64]
    show px _ (32 + 32) = _
    rw [← px_fold _ 32]
    show px _ (16 + 16) = _
    rw [← px_fold _ 16]
    show px _ (8 + 8) = _
    rw [← px_fold _ 8]
    show px _ (4 + 4) = _
    rw [← px_fold _ 4]
    show px _ (2 + 2) = _
    rw [← px_fold _ 2]
    show px _ (1 + 1) = _
    rw [← px_fold _ 1]
    rfl
  rw [e, Nat.and_one_is_mod]
  show _ = (xor false ((xfold n).testBit 0)).toNat
  rw [Nat.testBit_zero]
  rcases Nat.mod_two_eq_zero_or_one (xfold n) with q | q <;> rw [q] <;> rfl
/-! machines: inputs, pairs of the stores, pairs of the outs -/
abbrev Mach := Nat × List (Nat × Nat) × List (Nat × Nat)
def bitf (p : Nat × Nat) (s r : Nat) : Bool := xor (par (p.1 &&& s)) (par (p.2 &&& r))
def bitsV (ps : List (Nat × Nat)) (s r : Nat) : Nat := maskB (ps.map fun p => bitf p s r)
theorem bitsV_lt (ps : List (Nat × Nat)) (s r : Nat) : bitsV ps s r < 2 ^ ps.length := by
  have := maskB_lt (ps.map fun p => bitf p s r)
  rwa [List.length_map] at this
theorem bitsV_bit (ps : List (Nat × Nat)) (s r j : Nat) : (bitsV ps s r).testBit j = (decide (j < ps.length) && bitf (ps.getD j (0, 0)) s r) := by
  unfold bitsV
  rw [maskB_bit, List.getD_eq_getElem?_getD, List.getD_eq_getElem?_getD, List.getElem?_map]
  by_cases h : j < ps.length
  · rw [List.getElem?_eq_getElem h, decide_eq_true h]; simp
  · rw [List.getElem?_eq_none (by omega), decide_eq_false h]; rfl
structure MOk (M : Mach) : Prop where
  i : M.1 ≤ 6
  n : M.2.1.length ≤ 120
  o : M.2.2.length ≤ 6
  mn : ∀ p ∈ M.2.1, p.1 < 2 ^ M.2.1.length ∧ p.2 < 2 ^ M.1
  mo : ∀ p ∈ M.2.2, p.1 < 2 ^ M.2.1.length ∧ p.2 < 2 ^ M.1
def nextV (M : Mach) (s r : Nat) : Nat := bitsV M.2.1 s r
def outV (M : Mach) (s r : Nat) : Nat := bitsV M.2.2 s r
def walkV (M : Mach) (rows : List Nat) (s : Nat) : List Nat × Nat := rows.foldl (fun t r => (t.1 ++ [outV M t.2 r], nextV M t.2 r)) ([], s)
theorem walkF_len (M : Mach) : ∀ (rows : List Nat) (t : List Nat × Nat), (rows.foldl (fun t r => (t.1 ++ [outV M t.2 r], nextV M t.2 r)) t).1.length = t.1.length + rows.length
  | [], t => rfl
  | r :: rows, t => by
    rw [List.foldl_cons, walkF_len M rows, List.length_append]
    show t.1.length + 1 + rows.length = t.1.length + (rows.length + 1)
    omega
theorem walkV_len (M : Mach) (rows : List Nat) (s : Nat) : (walkV M rows s).1.length = rows.length := by
  unfold walkV; rw [walkF_len]; exact Nat.zero_add _
theorem walkF_lt {M : Mach} : ∀ (rows : List Nat) (t : List Nat × Nat), t.2 < 2 ^ M.2.1.length → (rows.foldl (fun t r => (t.1 ++ [outV M t.2 r], nextV M t.2 r)) t).2 < 2 ^ M.2.1.length
  | [], t, h => h
  | r :: rows, t, h => walkF_lt rows _ (bitsV_lt ..)
theorem walkV_lt {M : Mach} {rows : List Nat} {s : Nat} (h : s < 2 ^ M.2.1.length) : (walkV M rows s).2 < 2 ^ M.2.1.length := walkF_lt rows ([], s) h
theorem walkV_snoc (M : Mach) (rows : List Nat) (r s : Nat) : walkV M (rows ++ [r]) s = ((walkV M rows s).1 ++ [outV M (walkV M rows s).2 r], nextV M (walkV M rows s).2 r) := by
  unfold walkV; rw [List.foldl_append]; rfl
/-! things of any kind -/
def okA (x : An) (w : Nat) : Prop := ∃ n : Nat, x = An.i (n : Int) ∧ n < 2 ^ w
def fineA : An → Prop
  | .o T => T ≠ "int" ∧ T ≠ "bool"
  | _ => True
theorem isA_int (x : An) (h : fineA x) : (isA "int" x = true ∧ ¬ isA "bool" x = true) ↔ ∃ z : Int, x = An.i z := by
  cases x with
  | i z => exact ⟨fun _ => ⟨z, rfl⟩, fun _ => by simp [isA, An.ty]⟩
  | b b => exact ⟨fun q => absurd (by simp [isA, An.ty]) q.2, fun ⟨z, e⟩ => by cases e⟩
  | n => exact ⟨fun q => absurd q.1 (by simp [isA, An.ty]), fun ⟨z, e⟩ => by cases e⟩
  | s t => exact ⟨fun q => absurd q.1 (by simp [isA, An.ty]), fun ⟨z, e⟩ => by cases e⟩
  | l t => exact ⟨fun q => absurd q.1 (by simp [isA, An.ty]), fun ⟨z, e⟩ => by cases e⟩
  | t t => exact ⟨fun q => absurd q.1 (by simp [isA, An.ty]), fun ⟨z, e⟩ => by cases e⟩
  | o T =>
    refine ⟨fun q => absurd q.1 ?_, fun ⟨z, e⟩ => by cases e⟩
    obtain ⟨h1, h2⟩ := h
    unfold isA An.ty
    simp [h1, h2]
section
variable {α : Type}
theorem enumT_snd (xs : List α) : (enumT xs).map (·.2) = xs := by
  unfold enumT
  exact List.map_snd_zip (by rw [List.length_range]; exact Nat.le_refl _)
theorem enumT_split {xs : List α} {pre post : List (Nat × α)} {x : Nat × α} (h : enumT xs = pre ++ x :: post) : x.1 = pre.length ∧ xs = pre.map (·.2) ++ x.2 :: post.map (·.2) := by
  constructor
  · have e := enumT_get xs pre.length
    rw [h, List.getElem?_append_right (Nat.le_refl _), Nat.sub_self] at e
    have e' : some x = xs[pre.length]?.map fun y => (pre.length, y) := e
    cases q : xs[pre.length]? with
    | none => rw [q] at e'; cases e'
    | some y => rw [q] at e'; cases e'; rfl
  · have e := enumT_snd xs
    rw [h, List.map_append, List.map_cons] at e
    exact e.symm
theorem w_bits {ps : List α} {body : Nat × α → Nat → (Nat → Prop) → (Nat → Prop) → Prop} {k : Nat → Prop} (f : α → Bool) (hb : ∀ pre p post nx bk, ps = pre ++ p :: post → nx (maskB ((pre ++ [p]).map f)) → body (pre.length, p) (maskB (pre.map f)) nx bk) (hk : k (maskB (ps.map f))) : forW (enumT ps) 0 body k := by
  refine forW_ind (fun pre s => s = maskB ((pre.map (·.2)).map f)) rfl (fun pre x post s nx bk e hs hn _ => ?_) fun s hs => ?_
  · obtain ⟨e1, e2⟩ := enumT_split e
    obtain ⟨i, p⟩ := x
    have e1' : i = pre.length := e1
    subst hs e1'
    have := hb (pre.map (·.2)) p (post.map (·.2)) nx bk e2 (hn _ (by rw [List.map_append, List.map_append, List.map_append]; rfl))
    rwa [List.length_map] at this
  · rw [hs, enumT_snd]; exact hk
theorem forW_enum {S : Type} {ps : List α} {s : S} {body : Nat × α → S → (S → Prop) → (S → Prop) → Prop} {k : S → Prop} (P : List α → S → Prop) (h0 : P [] s)
    (hb : ∀ pre p post s nx bk, ps = pre ++ p :: post → P pre s → (∀ s', P (pre ++ [p]) s' → nx s') → body (pre.length, p) s nx bk) (hk : ∀ s, P ps s → k s) : forW (enumT ps) s body k := by
  refine forW_ind (fun pre s => P (pre.map (·.2)) s) h0 (fun pre x post s nx bk e hs hn _ => ?_) fun s hs => ?_
  · obtain ⟨e1, e2⟩ := enumT_split e
    obtain ⟨i, p⟩ := x
    have e1' : i = pre.length := e1
    subst e1'
    have := hb (pre.map (·.2)) p (post.map (·.2)) s nx bk e2 hs (fun s' h => hn s' (by rw [List.map_append]; exact h))
    rwa [List.length_map] at this
  · rw [enumT_snd] at hs; exact hk s hs
end
/-! what a mask over the next bits hangs on -/
def fsts (ps : List (Nat × Nat)) : List Nat := ps.map (·.1)
def snds (ps : List (Nat × Nat)) : List Nat := ps.map (·.2)
def backV (M : Mach) (m : Nat) : Nat × Nat := (comb (fsts M.2.1) m, comb (snds M.2.1) m)
theorem fsts_getD (ps : List (Nat × Nat)) (j : Nat) : (fsts ps).getD j 0 = (ps.getD j (0, 0)).1 := by
  unfold fsts
  rw [List.getD_eq_getElem?_getD, List.getD_eq_getElem?_getD, List.getElem?_map]
  cases ps[j]? <;> rfl
theorem snds_getD (ps : List (Nat × Nat)) (j : Nat) : (snds ps).getD j 0 = (ps.getD j (0, 0)).2 := by
  unfold snds
  rw [List.getD_eq_getElem?_getD, List.getD_eq_getElem?_getD, List.getElem?_map]
  cases ps[j]? <;> rfl
theorem back_law (ps : List (Nat × Nat)) {m s r : Nat} (hm : m < 2 ^ ps.length) : par (m &&& bitsV ps s r) = xor (par (comb (fsts ps) m &&& s)) (par (comb (snds ps) m &&& r)) := by
  have l1 : (fsts ps).length = ps.length := by unfold fsts; rw [List.length_map]
  have l2 : (snds ps).length = ps.length := by unfold snds; rw [List.length_map]
  rw [par_dot hm, par_comb, par_comb, l1, l2, ← dot_xor]
  exact dot_congr fun j hj => by rw [bitsV_bit, decide_eq_true hj, fsts_getD, snds_getD]; rfl
theorem back_lt {M : Mach} (h : MOk M) (m : Nat) : (backV M m).1 < 2 ^ M.2.1.length ∧ (backV M m).2 < 2 ^ M.1 := by
  constructor
  · refine comb_lt fun r hr => ?_
    obtain ⟨p, hp, e⟩ := List.mem_map.mp (show r ∈ List.map _ _ from hr)
    rw [← e]; exact (h.mn p hp).1
  · refine comb_lt fun r hr => ?_
    obtain ⟨p, hp, e⟩ := List.mem_map.mp (show r ∈ List.map _ _ from hr)
    rw [← e]; exact (h.mn p hp).2
theorem back_fold (ps : List (Nat × Nat)) (m : Nat) : ∀ k, k ≤ ps.length → (bl k m).foldl (fun (t : Nat × Nat) p => (t.1 ^^^ (ps.getD p (0, 0)).1, t.2 ^^^ (ps.getD p (0, 0)).2)) (0, 0) = (comb (fsts (ps.take k)) m, comb (snds (ps.take k)) m)
  | 0, _ => rfl
  | k + 1, hk => by
    have e2 : ps.take (k + 1) = ps.take k ++ [ps[k]'(by omega)] := List.take_succ_eq_append_getElem (by omega)
    have eg : ps.getD k (0, 0) = ps[k]'(by omega) := by rw [List.getD_eq_getElem?_getD, List.getElem?_eq_getElem (by omega)]; rfl
    have el : (ps.take k).length = k := by rw [List.length_take]; omega
    have f1 : fsts (ps.take (k + 1)) = fsts (ps.take k) ++ [(ps[k]'(by omega)).1] := by unfold fsts; rw [e2, List.map_append]; rfl
    have f2 : snds (ps.take (k + 1)) = snds (ps.take k) ++ [(ps[k]'(by omega)).2] := by unfold snds; rw [e2, List.map_append]; rfl
    have n1 : (fsts (ps.take k)).length = k := by unfold fsts; rw [List.length_map, el]
    have n2 : (snds (ps.take k)).length = k := by unfold snds; rw [List.length_map, el]
    rw [bl_snoc, List.foldl_append, back_fold ps m k (by omega), f1, f2, comb_snoc, comb_snoc, n1, n2]
    by_cases q : m.testBit k = true
    · rw [if_pos q, if_pos q, if_pos q, ← eg]; rfl
    · rw [if_neg q, if_neg q, if_neg q, Nat.xor_zero, Nat.xor_zero]; rfl
/-- the rows that hand one sign in -/
def signAt (which t : Nat) : Nat := if t = 0 then 2 ^ which else 0
def signRows (which turns : Nat) : List Nat := (List.range turns).map (signAt which)
theorem signRows_eq (which turns : Nat) : cutT ([2 ^ which] ++ (List.replicate turns [0]).flatten) none (some turns) = signRows which turns := by
  have e0 : ∀ n : Nat, (List.replicate n [0]).flatten = List.replicate n (0 : Nat) := fun n => by
    induction n with
    | zero => rfl
    | succ n ih => rw [List.replicate_succ, List.flatten_cons, ih, List.replicate_succ]; rfl
  show List.take turns _ = _
  rw [e0]
  cases turns with
  | zero => rfl
  | succ k =>
    unfold signRows
    rw [List.range_succ_eq_map, List.map_cons, List.map_map]
    show List.take (k + 1) (2 ^ which :: List.replicate (k + 1) 0) = _
    rw [List.take_succ_cons, List.take_replicate, Nat.min_eq_left (Nat.le_succ k)]
    show _ = 2 ^ which :: _
    congr 1
    refine List.ext_getElem (by simp) fun i h1 h2 => ?_
    simp [signAt]
theorem signRows_lt {which turns i : Nat} (h : which < i) : ∀ r ∈ signRows which turns, r < 2 ^ i := fun r hr => by
  obtain ⟨t, _, e⟩ := List.mem_map.mp (show r ∈ List.map _ _ from hr)
  rw [← e]; unfold signAt
  by_cases q : t = 0
  · rw [if_pos q]; exact Nat.pow_lt_pow_right (by decide) h
  · rw [if_neg q]; exact Nat.two_pow_pos _
theorem signRows_len (which turns : Nat) : (signRows which turns).length = turns := by unfold signRows; rw [List.length_map, List.length_range]
end Wk
/-! Rg: a linear turn over and over, polynomials of it. -/
namespace Wk
/-- v behind i turns -/
def itV (f : Nat → Nat) (v : Nat) : Nat → Nat
  | 0 => v
  | i + 1 => f (itV f v i)
theorem itV_add (f : Nat → Nat) (v a : Nat) : ∀ b, itV f v (a + b) = itV f (itV f v a) b
  | 0 => rfl
  | b + 1 => by show f (itV f v (a + b)) = f (itV f (itV f v a) b); rw [itV_add f v a b]
theorem itV_succ (f : Nat → Nat) (v : Nat) (b : Nat) : itV f v (b + 1) = itV f (f v) b := by rw [Nat.add_comm, itV_add]; rfl
structure Lin (f : Nat → Nat) : Prop where
  z : f 0 = 0
  x : ∀ a b, f (a ^^^ b) = f a ^^^ f b
theorem Lin.it {f : Nat → Nat} (h : Lin f) (i : Nat) : Lin (fun v => itV f v i) := by
  induction i with
  | zero => exact ⟨rfl, fun _ _ => rfl⟩
  | succ i ih => exact ⟨by show f (itV f 0 i) = 0; rw [show itV f 0 i = 0 from ih.z, h.z], fun a b => by show f (itV f (a ^^^ b) i) = f (itV f a i) ^^^ f (itV f b i); rw [show itV f (a ^^^ b) i = itV f a i ^^^ itV f b i from ih.x a b, h.x]⟩
/-- a polynomial of the turn, at v -/
def pa (f : Nat → Nat) (v q : Nat) : Nat := if h : q = 0 then 0 else (if q.testBit 0 = true then v else 0) ^^^ pa f (f v) (q / 2)
termination_by q
decreasing_by omega
theorem pa_zero (f : Nat → Nat) (v : Nat) : pa f v 0 = 0 := by rw [pa]; simp
theorem pa_step (f : Nat → Nat) (v q : Nat) : pa f v q = (if q.testBit 0 = true then v else 0) ^^^ pa f (f v) (q / 2) := by
  by_cases h : q = 0
  · subst h; rw [Nat.zero_div, pa_zero, pa_zero, Nat.zero_testBit, if_neg (by simp)]; rfl
  · rw [pa, dif_neg h]
section
variable {f : Nat → Nat}
theorem pa_lin0 (h : Lin f) : ∀ q : Nat, pa f 0 q = 0 := by
  intro q
  induction q using Nat.strongRecOn with
  | ind q ih =>
    by_cases z : q = 0
    · subst z; exact pa_zero f 0
    · rw [pa_step, h.z, ih (q / 2) (by omega), ite_self]; rfl
theorem pa_linx (h : Lin f) : ∀ (q a b : Nat), pa f (a ^^^ b) q = pa f a q ^^^ pa f b q := by
  intro q
  induction q using Nat.strongRecOn with
  | ind q ih =>
    intro a b
    by_cases z : q = 0
    · subst z; rw [pa_zero, pa_zero, pa_zero]; rfl
    · rw [pa_step f (a ^^^ b), pa_step f a, pa_step f b, h.x, ih (q / 2) (by omega)]
      by_cases c : q.testBit 0 = true
      · rw [if_pos c, if_pos c, if_pos c, xor_swap]
      · rw [if_neg c, if_neg c, if_neg c, Nat.zero_xor, Nat.zero_xor, Nat.zero_xor]
theorem pa_xor : ∀ (p q v : Nat), pa f v (p ^^^ q) = pa f v p ^^^ pa f v q := by
  intro p
  induction p using Nat.strongRecOn with
  | ind p ih =>
    intro q v
    by_cases z : p = 0
    · subst z; rw [Nat.zero_xor, pa_zero, Nat.zero_xor]
    · rw [pa_step f v (p ^^^ q), pa_step f v p, pa_step f v q, half_xor, ih (p / 2) (by omega), Nat.testBit_xor]
      cases p.testBit 0 <;> cases q.testBit 0 <;> simp
      · rw [← Nat.xor_assoc, ← Nat.xor_assoc, Nat.xor_comm v (pa f (f v) (p / 2))]
      · rw [Nat.xor_assoc]
      · rw [xor_swap, Nat.xor_self, Nat.zero_xor]
theorem pa_turn (h : Lin f) : ∀ (q v : Nat), f (pa f v q) = pa f (f v) q := by
  intro q
  induction q using Nat.strongRecOn with
  | ind q ih =>
    intro v
    by_cases z : q = 0
    · subst z; rw [pa_zero, pa_zero, h.z]
    · rw [pa_step f v q, pa_step f (f v) q, h.x, ih (q / 2) (by omega)]
      by_cases c : q.testBit 0 = true
      · rw [if_pos c, if_pos c]
      · rw [if_neg c, if_neg c, h.z]
theorem pa_two (v q : Nat) : pa f v (2 * q) = pa f (f v) q := by
  have e1 : (2 * q).testBit 0 = false := by rw [Nat.testBit_zero]; exact decide_eq_false (by omega)
  have e2 : 2 * q / 2 = q := by omega
  rw [pa_step, e1, e2, if_neg (by simp), Nat.zero_xor]
theorem pa_pm (h : Lin f) (a : Nat) : ∀ (b v : Nat), pa f v (pm a b) = pa f (pa f v a) b := by
  intro b
  induction b using Nat.strongRecOn with
  | ind b ih =>
    intro v
    by_cases z : b = 0
    · subst z; rw [pm_zero, pa_zero, pa_zero]
    · rw [pm_half, pa_xor, pa_two, ih (b / 2) (by omega), pa_step f (pa f v a) b, pa_turn h]
      by_cases c : b.testBit 0 = true
      · rw [if_pos c, if_pos c]
      · rw [if_neg c, if_neg c, pa_zero]
theorem pa_one (v : Nat) : pa f v 1 = v := by
  rw [pa_step, if_pos (by decide), show 1 / 2 = 0 by decide, pa_zero, Nat.xor_zero]
theorem pa_pow : ∀ (i v : Nat), pa f v (2 ^ i) = itV f v i
  | 0, v => pa_one v
  | i + 1, v => by rw [Nat.pow_succ, Nat.mul_comm, pa_two, pa_pow i (f v), itV_succ]
/-- the states one behind another -/
def orb (f : Nat → Nat) (v k : Nat) : List Nat := (List.range k).map (itV f v)
theorem orb_len (v k : Nat) : (orb f v k).length = k := by unfold orb; rw [List.length_map, List.length_range]
theorem orb_snoc (v k : Nat) : orb f v (k + 1) = orb f v k ++ [itV f v k] := by unfold orb; rw [List.range_succ, List.map_append]; rfl
theorem orb_take (v : Nat) {j k : Nat} (h : j ≤ k) : (orb f v k).take j = orb f v j := by
  unfold orb
  rw [← List.map_take, List.take_range, Nat.min_eq_left h]
theorem orb_getD (v : Nat) {j k : Nat} (h : j < k) : (orb f v k).getD j 0 = itV f v j := by
  unfold orb
  rw [List.getD_eq_getElem?_getD, List.getElem?_map, List.getElem?_range h]; rfl
theorem split_top {k q : Nat} (h : q < 2 ^ (k + 1)) : q = (q % 2 ^ k) ^^^ (if q.testBit k = true then 2 ^ k else 0) := Nat.eq_of_testBit_eq fun i => by
  rw [Nat.testBit_xor, Nat.testBit_mod_two_pow]
  by_cases c : q.testBit k = true
  · rw [if_pos c, Nat.testBit_two_pow]
    by_cases o : i = k
    · subst o; rw [c]; simp
    · by_cases o2 : i < k
      · rw [decide_eq_true o2, decide_eq_false (fun z => o z.symm)]; simp
      · rw [decide_eq_false o2, decide_eq_false (fun z => o z.symm), testBit_big h (by omega)]; rfl
  · rw [if_neg c, Nat.zero_testBit]
    by_cases o2 : i < k
    · rw [decide_eq_true o2]; simp
    · rw [decide_eq_false o2]
      by_cases o : i = k
      · subst o; simpa using c
      · rw [testBit_big h (by omega)]; rfl
theorem pa_comb (v : Nat) : ∀ (k q : Nat), q < 2 ^ k → pa f v q = comb (orb f v k) q
  | 0, q, h => by
    have : q = 0 := by simpa using h
    subst this; rw [pa_zero, comb_zero]
  | k + 1, q, h => by
    have hl : q % 2 ^ k < 2 ^ k := Nat.mod_lt _ (Nat.two_pow_pos k)
    rw [orb_snoc, comb_snoc, orb_len]
    have e1 : comb (orb f v k) q = comb (orb f v k) (q % 2 ^ k) := comb_ext fun j hj => by
      rw [orb_len] at hj
      rw [Nat.testBit_mod_two_pow, decide_eq_true hj, Bool.true_and]
    rw [e1, ← pa_comb v k _ hl]
    conv => lhs; rw [split_top h]
    rw [pa_xor]
    congr 1
    by_cases c : q.testBit k = true
    · rw [if_pos c, if_pos c, pa_pow]
    · rw [if_neg c, if_neg c, pa_zero]
theorem orb_span {v k : Nat} {w : Nat} : Span (orb f v k) w ↔ ∃ q, q < 2 ^ k ∧ pa f v q = w := by
  constructor
  · rintro ⟨S, e⟩
    have hl : S % 2 ^ k < 2 ^ k := Nat.mod_lt _ (Nat.two_pow_pos k)
    refine ⟨S % 2 ^ k, hl, ?_⟩
    rw [pa_comb v k _ hl, ← e]
    exact comb_ext fun j hj => by
      rw [orb_len] at hj
      rw [Nat.testBit_mod_two_pow, decide_eq_true hj, Bool.true_and]
  · rintro ⟨q, hq, e⟩
    exact ⟨q, by rw [← pa_comb v k q hq]; exact e⟩
/-- the least polynomial that brings v to 0 -/
structure Least (f : Nat → Nat) (v mu : Nat) : Prop where
  n : mu ≠ 0
  k : pa f v mu = 0
  l : ∀ q, q ≠ 0 → bits q < bits mu → pa f v q ≠ 0
theorem least_of (v m D : Nat) (hD : D < 2 ^ m) (h : comb (orb f v m) D = itV f v m) (hn : ∀ m', m' < m → ¬ Span (orb f v m') (itV f v m')) : Least f v (D ^^^ 2 ^ m) := by
  have hb : (D ^^^ 2 ^ m).testBit m = true := by rw [Nat.testBit_xor, testBit_big hD (Nat.le_refl _), Nat.testBit_two_pow, decide_eq_true rfl]; rfl
  have ne : D ^^^ 2 ^ m ≠ 0 := fun z => by rw [z, Nat.zero_testBit] at hb; cases hb
  refine ⟨ne, ?_, fun q hq hl hz => ?_⟩
  · rw [pa_xor, pa_pow, pa_comb v m D hD, h, Nat.xor_self]
  · have h1 : D ^^^ 2 ^ m < 2 ^ (m + 1) := Nat.xor_lt_two_pow (Nat.lt_trans hD (Nat.pow_lt_pow_right (by decide) (by omega))) (Nat.pow_lt_pow_right (by decide) (by omega))
    have h2 := bits_le.mpr h1
    have hp := bits_pos hq
    have hk : bits q - 1 < m := by omega
    refine hn _ hk (orb_span.mpr ⟨q % 2 ^ (bits q - 1), Nat.mod_lt _ (Nat.two_pow_pos _), ?_⟩)
    have h3 : q < 2 ^ (bits q - 1 + 1) := by rw [Nat.sub_add_cancel hp]; exact bits_le.mp (Nat.le_refl _)
    have e := split_top h3
    rw [if_pos (bits_bit hq)] at e
    rw [e, pa_xor, pa_pow] at hz
    exact xor0 hz
theorem least_bits {v m D : Nat} (hD : D < 2 ^ m) : bits (D ^^^ 2 ^ m) = m + 1 := by
  have hb : (D ^^^ 2 ^ m).testBit m = true := by rw [Nat.testBit_xor, testBit_big hD (Nat.le_refl _), Nat.testBit_two_pow, decide_eq_true rfl]; rfl
  have h1 : D ^^^ 2 ^ m < 2 ^ (m + 1) := Nat.xor_lt_two_pow (Nat.lt_trans hD (Nat.pow_lt_pow_right (by decide) (by omega))) (Nat.pow_lt_pow_right (by decide) (by omega))
  have h2 := bits_le.mpr h1
  refine Nat.le_antisymm h2 (Nat.lt_of_not_le fun z => ?_)
  rw [testBit_big (bits_le.mp z) (Nat.le_refl _)] at hb; cases hb
end
theorem two_pow_range {n : Nat} {g : Nat → Nat} (hg : Lin g) : ∀ {x : Nat}, x < 2 ^ n → comb ((List.range n).map fun k => g (2 ^ k)) x = g x := by
  induction n with
  | zero =>
    intro x h
    have : x = 0 := by simpa using h
    subst this; rw [comb_zero, hg.z]
  | succ n ih =>
    intro x h
    have hl : x % 2 ^ n < 2 ^ n := Nat.mod_lt _ (Nat.two_pow_pos n)
    rw [List.range_succ, List.map_append]
    show comb (_ ++ [g (2 ^ n)]) x = _
    rw [comb_snoc, List.length_map, List.length_range]
    have e1 : comb ((List.range n).map fun k => g (2 ^ k)) x = comb ((List.range n).map fun k => g (2 ^ k)) (x % 2 ^ n) := comb_ext fun j hj => by
      rw [List.length_map, List.length_range] at hj
      rw [Nat.testBit_mod_two_pow, decide_eq_true hj, Bool.true_and]
    rw [e1, ih hl]
    conv => rhs; rw [split_top h]
    rw [hg.x]
    congr 1
    by_cases c : x.testBit n = true
    · rw [if_pos c, if_pos c]
    · rw [if_neg c, if_neg c, hg.z]
/-- the turn with rows 0 -/
theorem lin_bits (ps : List (Nat × Nat)) : Lin (fun s => bitsV ps s 0) := by
  have b0 : ∀ p s, bitf p s 0 = par (p.1 &&& s) := fun p s => by unfold bitf; rw [Nat.and_zero, par_zero]; simp
  constructor
  · refine Nat.eq_of_testBit_eq fun j => ?_
    rw [bitsV_bit, b0, Nat.and_zero, par_zero, Nat.zero_testBit]; simp
  · intro a b
    refine Nat.eq_of_testBit_eq fun j => ?_
    have ax : ∀ c a b : Nat, c &&& (a ^^^ b) = (c &&& a) ^^^ (c &&& b) := fun c a b => Nat.eq_of_testBit_eq fun i => by
      rw [Nat.testBit_and, Nat.testBit_xor, Nat.testBit_xor, Nat.testBit_and, Nat.testBit_and]
      cases a.testBit i <;> cases b.testBit i <;> cases c.testBit i <;> rfl
    rw [Nat.testBit_xor, bitsV_bit, bitsV_bit, bitsV_bit, b0, b0, b0, ax, par_xor]
    cases decide (j < ps.length) <;> simp
theorem itV_lt {f : Nat → Nat} {n : Nat} (hf : ∀ s, f s < 2 ^ n) {v : Nat} (hv : v < 2 ^ n) : ∀ i, itV f v i < 2 ^ n
  | 0 => hv
  | i + 1 => hf _
end Wk
/-! Ei: except .. as e, isinstance of e; walks backward; lists of any kind that are of one kind. -/
namespace Wk
open PySem L2
def tTryAs (K : PySem.W.Frag) (c : Value) (i : Nat) (tb : WX → TS) (ts : Addr → Value → Option Addr → TS) (Wout : WX) : TS := fun D σ H => tb (wAs K c i ts Wout D) D σ H
theorem a_tryAs {K : PySem.W.Frag} {c : Value} {i : Nat} {tb : WX → TS} {ts : Addr → Value → Option Addr → TS} {Wout : WX} {D : Ends} {σ : L2.St} {H : Hp} (h : tb (wAs K c i ts Wout D) D σ H) : tTryAs K c i tb ts Wout D σ H := h
theorem a_excAs {K : PySem.W.Frag} {c cls : Value} {i : Nat} {d : Option Addr} {ts : Addr → Value → Option Addr → TS} {Wout : WX} {D : Ends} {σ : L2.St} {H : Hp} (he : PySem.W.exmOne K cls c = some true)
    (h : ∀ a, H a = none → ts a cls d { nx := fun σ' H' => D.nx (σ'.set i none) H', rt := D.rt, bk := fun σ' H' => D.bk (σ'.set i none) H', ct := fun σ' H' => D.ct (σ'.set i none) H' } (σ.set i (some (.ref a))) H) : wAs K c i ts Wout D cls d σ H :=
  ⟨true, he, fun _ => h, fun q => Bool.noConfusion q⟩
theorem a_excAsO {K : PySem.W.Frag} {c cls : Value} {i : Nat} {d : Option Addr} {ts : Addr → Value → Option Addr → TS} {Wout : WX} {D : Ends} {σ : L2.St} {H : Hp} (he : PySem.W.exmOne K cls c = some false) (h : Wout cls d σ H) : wAs K c i ts Wout D cls d σ H :=
  ⟨false, he, fun q => Bool.noConfusion q, fun _ => h⟩
/-- isinstance of the exception that is held -/
def tIsE (K : PySem.W.Frag) (i : Nat) (cls : Value) (d : Option Addr) (a C : Addr) : TE := fun σ H Q => ∃ (D : Addr) (b : Bool), cls = .ref D ∧ d = none ∧ ExcC K D ∧ PySem.W.kitOne K (.ref D) (.ref C) = some b ∧ σ[i]? = some (some (.ref a)) ∧ Q (.bl b) H
theorem pe_isE {X : Cx} {a C : Addr} {oe : Obj} {cls : Value} {d : Option Addr} {pn : List (Addr × Obj)} {i : Nat} {x c : Str} {pf px pc pos : Pos} (hz : Zc cls d oe) (hf : ∃ vs, oe.data = .fields vs) (hg : Gl X "isinstance") (hm : X.mg "isinstance" = none)
    (hx : PE (X.suite a ((a, oe) :: pn)) (.Name x px) (tVar i)) (hc : Gl X c) (hcm : X.mg c = some (.ref C)) (hd : (c == ("__debug__" : Str)) = false := by decide)
    (he : starEach [.Name x px, .Name c pc] X.env = (false, eval (.Name x px) X.env) :: starEach [.Name c pc] X.env := by rfl) (he2 : starEach [.Name c pc] X.env = (false, eval (.Name c pc) X.env) :: starEach [] X.env := by rfl)
    (hpl : (backTo pos (starEach [.Name c pc] X.env)).any (·.1) = false := by rfl) :
    PE (X.suite a ((a, oe) :: pn)) (.Call (.Name "isinstance" pf) [.Name x px, .Name c pc] [] pos) (tIsE X.K i cls d a C) := by
  refine ⟨fun pins s σ H Q I h => ?_⟩
  obtain ⟨D, b, rfl, rfl, hC, hk, hs, q⟩ := h
  have hcl : PE (X.suite a ((a, oe) :: pn)) (.Name c pc) (tC (.ref C)) := pe_glob (X := X.suite a ((a, oe) :: pn)) hc hcm rfl hd
  have ha : PA (X.suite a ((a, oe) :: pn)) [.Name x px, .Name c pc] (tCons (tVar i) (tCons (tC (.ref C)) tNil)) := pa_cons hx (pa_cons hcl pa_nil)
  exact (pe_callB (X := X.suite a ((a, oe) :: pn)) (call_isE (X := X) (pn := pn) hC hz hf) hg hm PyProof.Rows.boot_isinstance ha (by decide) (by decide) he hpl).run pins s σ H Q I
    ⟨_, hs, _, _, b, rfl, fun u ru => (show u = Value.ref C from ru), hk, q⟩
theorem kit_own {K : PySem.W.Frag} {S T : Addr} {b : Bool} (h2 : PySem.W.isClsIn K T = true) (h3 : PySem.W.typeIn K (.ref T) = some (.type "type")) (h0 : PySem.W.subIn K (.ref S) (.ref S) = some true) (h4 : PySem.W.subIn K (.ref S) (.ref T) = some b) :
    PySem.W.kitOne K (.ref S) (.ref T) = some b := by
  have e2 : ((PySem.W.clsIn K T).isSome && PySem.W.typeIn K (.ref T) == some (.type "type")) = true := by
    have h2' : (PySem.W.clsIn K T).isSome = true := h2
    rw [h2', h3]; rfl
  show (if ((Value.ref S == Value.ref T) = true) then some true else (if ((PySem.W.clsIn K T).isSome && PySem.W.typeIn K (.ref T) == some (.type "type")) = true then PySem.W.subIn K (.ref S) (.ref T) else none)) = some b
  by_cases q : (Value.ref S == Value.ref T) = true
  · rw [if_pos q]
    have e : S = T := Value.ref.inj (beq_iff_eq.mp q)
    subst e
    rw [h0] at h4; exact h4
  · rw [if_neg q, if_pos e2]; exact h4
section
variable {α : Type} {e : Rep α} {K : PySem.W.Frag} {F H : Hp} {v : V} {xs : List α} {R : It → Hp → Prop}
/-- reversed(a list) -/
theorem src_rev (r : (pL e).r F v xs) (f : Ex F H) (k : ∀ J, TWk J F e xs.reverse → R J H) : ∃ (a : Addr) (ws : List V), [v] = [V.ref a] ∧ SqL K H a ws ∧ R (Itv K a ws.length) H := by
  obtain ⟨p, vs, rfl, hp, a⟩ := r
  refine ⟨p, vs, rfl, SqL.of (f _ _ hp), k _ ⟨_, _, by rw [List.length_reverse, ← a.len]; exact walk_rev, fun F' H' h1 h2 => SqL.of (h2 _ _ (h1 _ _ hp)), fun i H v H' F' hi h1 h2 hy => ?_⟩⟩
  obtain ⟨rfl, hv⟩ := hy
  obtain ⟨z, hz, rz⟩ := a.got hv
  refine ⟨z, F', ?_, Wf.id h2, e.mono h1 rz⟩
  rw [List.length_reverse] at hi
  rw [List.getElem?_reverse hi, ← a.len]; exact hz
/-- range(i - 1, -1, -1) -/
theorem src_down {n : Nat} {i : Int} (hi : i + 1 = (n : Int)) (hn : n < 1000000) (k : ∀ J, TWk J F pN (List.range n).reverse → R J H) : ∃ (i' j c : Int) (m : Nat), [V.int i, V.int (-1), V.int (-1)] = [.int i', .int j, .int c] ∧ RgC i' j c m ∧ R (Itc i' c m) H := by
  have e : (i - (-1)).toNat = n := by omega
  refine ⟨i, -1, -1, n, rfl, by rw [← e]; exact RgC.neg (by omega) (by omega) (by decide) (by decide), k _ ⟨fun _ => True, YFn fun m => .int (i + (m : Nat) * (-1)), ?_, fun _ _ _ _ => trivial, fun m H x H' F' hm h1 h2 hy => ?_⟩⟩
  · rw [List.length_reverse, List.length_range]; exact walk_rangeC
  · obtain ⟨rfl, rfl⟩ := hy
    rw [List.length_reverse, List.length_range] at hm
    refine ⟨n - 1 - m, F', ?_, Wf.id h2, ?_⟩
    · rw [List.getElem?_reverse (by rw [List.length_range]; exact hm), List.length_range, List.getElem?_range (by omega)]
    · show V.int _ = V.int _
      congr 1; omega
theorem all_unN : ∀ {vs : List V} {ns : List Nat}, All pA F vs (ns.map anN) → All pN F vs ns
  | [], [], _ => trivial
  | _ :: _, _ :: _, ⟨a, b⟩ => ⟨a, all_unN b⟩
  | [], _ :: _, q => q.elim
  | _ :: _, [], q => q.elim
theorem an_toLN {x : An} {ns : List Nat} (r : pA.r F v x) (h : x = An.l (ns.map anN)) : (pL pN).r F v ns := by
  subst h
  obtain ⟨p, vs, a, b, c⟩ := an_l.mp r
  exact ⟨p, vs, a, b, all_unN c⟩
end
section
variable {α β γ : Type} {e : Rep α} {f : Rep β} {g : Rep γ} {K : PySem.W.Frag} {σ : L2.St} {F H : Hp} {v : V} {x : α × β × γ} {ta : TE} {C : Addr} {a b c : Str}
theorem len_T3 (r : (pT3 e f g).r F v x) (h : Ex F H) (ha : Val ta σ H v) : Val (tCB (rLen K) (tCons ta tNil)) σ H (.int ((3 : Nat) : Int)) := by
  obtain ⟨p, u, w, y, rfl, hp, _⟩ := r
  exact v_cb1 ha fun Q k => ⟨p, _, rfl, .inr (SqT.of (h _ _ hp)), k⟩
theorem ty_T3 (r : (pT3 e f g).r F v x) (h : Ex F H) : TyX K H v (.type "tuple") := by
  obtain ⟨p, u, w, y, rfl, hp, _⟩ := r
  exact .base (.tup (h _ _ hp))
/-- what isinstance asks of an own class -/
structure ClsI (K : PySem.W.Frag) (mg : Str → Option Value) (n : Str) (C : Addr) : Prop where
  ha : PySem.W.findIn K (.ref C) "__class__" = some (some (.builtin "object.__class__"))
  hn : PySem.W.specialIn K (.builtin "object.__class__") "__get__" = some (some (.builtin "getset_descriptor.__get__"))
  ht : PySem.W.takesIn K (.builtin "object.__class__") = some true
  hm : PySem.W.mroIn K C (.type "object") = some true
  g : mg n = some (.ref C)
theorem ty_O3 {mg : Str → Option Value} {n : Str} (r : (pO3 C a b c e f g).r F v x) (h : Ex F H) (cl : Cls K C) (ci : ClsI K mg n C) : TyX K H v (.ref C) := by
  obtain ⟨p, dx, fs, rfl, hp, _⟩ := r
  exact .base (.ins (h _ _ hp) cl ci.ha ci.hn ci.ht ci.hm)
theorem v_isiC (ha : Val ta σ H v) (t : TyX K H v (.ref C)) : Val (tCB (rIsi K) (tCons ta (tCons (tC (.ref C)) tNil))) σ H (.bl true) := fun Q k => ha _ ⟨v, .ref C, .ref C, .ref C, true, rfl, .own C, t, by
  show (if ((Value.ref C == Value.ref C) = true) then some true else _) = some true
  rw [if_pos (beq_self_eq_true _)], k⟩
end
end Wk
/-! St: texts. -/
namespace Wk
open PySem L2
/-- a text of one sign -/
def sg (c : Nat) : Str := ⟨#[c]⟩
def pG : Rep Nat := ⟨fun _ v c => v = .str (sg c), fun _ h => h⟩
def kAddS : R2 := fun x y H Q => ∃ i j, x = .str i ∧ y = .str j ∧ i.length + j.length ≤ sizeLine ∧ Q (.str (i ++ j)) H
def kInS : R2 := fun x y H Q => ∃ (c : Nat) (z : Str), x = .str ⟨#[c]⟩ ∧ y = .str z ∧ Q (.bl (decide (c ∈ z.cps.toList))) H
def kNotInS : R2 := fun x y H Q => ∃ (c : Nat) (z : Str), x = .str ⟨#[c]⟩ ∧ y = .str z ∧ Q (.bl (!decide (c ∈ z.cps.toList))) H
def kLeS : R2 := fun x y H Q => ∃ i j, x = .str i ∧ y = .str j ∧ Q (.bl (!decide (j.cps.toList < i.cps.toList))) H
section
variable {X : Cx}
theorem op_addS : OpR X (binaryOp .Add) kAddS := op_add_str
theorem iop_addS : OpR X (inplaceOp .Add) kAddS := iop_add_str
theorem op_inSg : OpR X (compareOp .In) kInS := op_in_sign
theorem op_notInSg : OpR X (compareOp .NotIn) kNotInS := op_notIn_sign
theorem op_leS : OpR X (compareOp .LtE) kLeS := op_le_str
end
/-- one text is not behind another -/
def leS (x y : Str) : Prop := ¬ (y.cps.toList < x.cps.toList)
instance (x y : Str) : Decidable (leS x y) := by unfold leS; infer_instance
def cutTS (x : Str) (lo hi : Option Nat) : Str := ⟨(cutT x.cps.toList lo hi).toArray⟩
theorem Str_len (x : Str) : x.cps.toList.length = x.length := rfl
theorem cutG_T {α : Type} {ws : List α} (lo hi : Option Nat) : (ws.drop (HT.sIx ws.length 0 (lo.map Int.ofNat))).take (HT.sIx ws.length ws.length (hi.map Int.ofNat) - HT.sIx ws.length 0 (lo.map Int.ofNat)) = cutT ws lo hi := by
  have tk : ∀ (n : Nat) (l : List α), l.take (min n l.length) = l.take n := fun n l => by
    by_cases h : n ≤ l.length
    · rw [Nat.min_eq_left h]
    · rw [Nat.min_eq_right (by omega), List.take_of_length_le (Nat.le_refl _), List.take_of_length_le (by omega)]
  unfold cutT
  cases lo with
  | none =>
    cases hi with
    | none => simp only [Option.map_none, HT.sIx_none, List.drop_zero, Nat.sub_zero, List.take_length]
    | some b =>
      simp only [Option.map_none, Option.map_some, HT.sIx_none, List.drop_zero, Nat.sub_zero]
      rw [show HT.sIx ws.length ws.length (some (Int.ofNat b)) = min b ws.length from HT.sIx_nat _ _ _]
      exact tk b ws
  | some a =>
    have dr : ws.drop (min a ws.length) = ws.drop a := by
      by_cases h : a ≤ ws.length
      · rw [Nat.min_eq_left h]
      · rw [Nat.min_eq_right (by omega), List.drop_of_length_le (Nat.le_refl _), List.drop_of_length_le (by omega)]
    cases hi with
    | none =>
      simp only [Option.map_none, Option.map_some, HT.sIx_none]
      rw [show HT.sIx ws.length 0 (some (Int.ofNat a)) = min a ws.length from HT.sIx_nat _ _ _, dr]
      exact List.take_of_length_le (by rw [List.length_drop]; omega)
    | some b =>
      simp only [Option.map_some]
      rw [show HT.sIx ws.length 0 (some (Int.ofNat a)) = min a ws.length from HT.sIx_nat _ _ _, show HT.sIx ws.length ws.length (some (Int.ofNat b)) = min b ws.length from HT.sIx_nat _ _ _, dr]
      by_cases h : a ≤ ws.length
      · rw [Nat.min_eq_left h, show min b ws.length - a = min (b - a) (ws.drop a).length from by rw [List.length_drop]; omega]
        exact tk _ _
      · rw [List.drop_of_length_le (show ws.length ≤ a by omega)]; simp
theorem cutS_T (x : Str) (lo hi : Option Nat) : cutS x (lo.map Int.ofNat) (hi.map Int.ofNat) = cutTS x lo hi := by
  unfold cutS cutTS
  first
    | exact congrArg (fun l => (⟨List.toArray l⟩ : Str)) (cutG_T (ws := x.cps.toList) lo hi)
    | exact TL.ext_tl (cutG_T (ws := x.cps.toList) lo hi)
section
variable {K : PySem.W.Frag} {σ : L2.St} {F0 H0 F H : Hp} {ta tb te : TE} {tl th : TO} {x y : Str} {v w : V} {i c : Nat} {Q : VK}
theorem v_addS (ha : Val ta σ H (.str x)) (hb : Val tb σ H (.str y)) (h : x.length + y.length < 1000000) : Val (tOp kAddS ta tb) σ H (.str (x ++ y)) :=
  v2 ha hb fun Q k => ⟨x, y, rfl, rfl, Nat.le_of_lt (small_len h), k⟩
theorem ix_Str (ha : Val ta σ H (.str x)) (hb : Val tb σ H (.int (i : Int))) (hl : x.length < 1000000) (hc : x.cps.toList[i]? = some c) : Val (tOp rIxS ta tb) σ H (.str (sg c)) :=
  v2 ha hb fun Q k => ⟨x, _, c, rfl, rfl, Nat.le_of_lt (small_len hl), atI_nat hc, k⟩
theorem v_inS (ha : Val ta σ H (.str (sg c))) (hb : Val tb σ H (.str y)) : Val (tOp kInS ta tb) σ H (.bl (decide (c ∈ y.cps.toList))) := v2 ha hb fun Q k => ⟨c, y, rfl, rfl, k⟩
theorem v_notInS (ha : Val ta σ H (.str (sg c))) (hb : Val tb σ H (.str y)) : Val (tOp kNotInS ta tb) σ H (.bl (decide (¬ c ∈ y.cps.toList))) := v2 ha hb fun Q k => ⟨c, y, rfl, rfl, by rw [← decide_not]; exact k⟩
theorem v_leS (ha : Val ta σ H (.str x)) (hb : Val tb σ H (.str y)) : Val (tOp kLeS ta tb) σ H (.bl (decide (leS x y))) := v2 ha hb fun Q k => ⟨x, y, rfl, rfl, by
  have e : (!decide (y.cps.toList < x.cps.toList)) = decide (leS x y) := by
    by_cases h : y.cps.toList < x.cps.toList
    · rw [decide_eq_true h, decide_eq_false (show ¬ leS x y from fun z => z h)]; rfl
    · rw [decide_eq_false h, decide_eq_true (show leS x y from h)]; rfl
  rw [e]; exact k⟩
theorem v_cutS {lo hi : Option Nat} (hv : Val te σ H (.str x)) (h1 : Part tl σ H lo) (h2 : Part th σ H hi) (hl : x.length < 1000000) : Val (L2.tSl rSlS te tl th) σ H (.str (cutTS x lo hi)) := fun Q k =>
  hv _ (h1 _ (h2 _ ⟨x, rfl, Nat.le_of_lt (small_len hl), by rw [cutS_T]; exact k⟩))
/-- sep.join(texts) -/
def rJoin (K : PySem.W.Frag) : V → List V → Hp → VK → Prop := fun x xs H Q => ∃ a p, ∃ ys : List Str, x = .str a ∧ xs = [.ref p] ∧ (SqL K H p (ys.map V.str) ∨ SqT K H p (ys.map V.str)) ∧ (ys.map (·.length)).sum + ys.length * a.length ≤ 16777216 ∧ Q (.str (Txt.join a ys)) H
theorem e_m1 {r : V → List V → Hp → VK → Prop} {to : TE} (h : to σ H fun v H1 => (∃ a, v = .str a) ∧ te σ H1 fun y H2 => r v [y] H2 Q) : tM1 r to te σ H Q := h
theorem all_str {ys : List Str} : ∀ {vs : List V} {ys : List Str}, All pS F vs ys → vs = ys.map V.str
  | [], [], _ => rfl
  | v :: vs, z :: ys, ⟨a, b⟩ => by rw [List.map_cons, ← all_str (ys := ys) b, show v = V.str z from a]
  | [], _ :: _, q => q.elim
  | _ :: _, [], q => q.elim
theorem n_join {ys : List Str} (r : (pL pS).r F v ys) (f : Ex F H) (hl : (ys.map (·.length)).sum + ys.length * x.length ≤ 16777216) (k : Q (.str (Txt.join x ys)) H) : rJoin K (.str x) [v] H Q := by
  obtain ⟨p, vs, rfl, hp, a⟩ := r
  have e := all_str (ys := ys) a
  subst e
  exact ⟨x, p, ys, rfl, rfl, .inl (SqL.of (f _ _ hp)), hl, k⟩
theorem n_joinX {ys : List Str} {p : Addr} (r : XL pS H0 F H p ys) (hl : (ys.map (·.length)).sum + ys.length * x.length ≤ 16777216) (k : Q (.str (Txt.join x ys)) H) : rJoin K (.str x) [.ref p] H Q := by
  obtain ⟨vs, hp, a⟩ := r.rd
  have e := all_str (ys := ys) a
  subst e
  exact ⟨x, p, ys, rfl, rfl, .inl (SqL.of hp), hl, k⟩
/-- the signs of a text -/
theorem src_str {R : It → Hp → Prop} (f : Ex F H) (k : TWk (Its x) F pG x.cps.toList → R (Its x) H) : ∃ y, V.str x = .str y ∧ R (Its y) H :=
  ⟨x, rfl, k ⟨_, _, by rw [Str_len]; exact walk_str, fun _ _ _ _ => trivial, fun i H v H' F' hi h1 h2 hy => by
    obtain ⟨rfl, c, hc, rfl⟩ := hy
    exact ⟨c, F', by rw [Array.getElem?_toList]; exact hc, Wf.id h2, rfl⟩⟩⟩
end
theorem an_str {F : Hp} {v : V} {x : An} {y : Str} (r : pA.r F v x) (h : x = An.s y) : v = .str y := by subst h; exact r
theorem an_D {κ α : Type} [KeyT κ] {e : Rep α} {F : Hp} {v : V} {m : List (κ × α)} (r : (pD e).r F v m) : pA.r F v (.o "dict") := by
  obtain ⟨p, kvs, rfl, hp, _⟩ := r
  exact ⟨p, rfl, .inr (.inr ⟨rfl, kvs, hp⟩)⟩
/-! a thing of any kind is not a text -/
section
open PySem.SeqAt AutoSeq1
theorem str_ne_declines_dict (b : Str) (u : Tok) (l : Addr) (es : Array DictEntry) (ep : Nat) :
    Meets (Builtin.«str.__ne__» ⟨[.str b u, .ref l], []⟩) (fun _ R s => s.heap.get? l = some { cls := .type "dict", dict := none, data := .dict es ep, slots := #[] } ∧ R (.ok (.ret .notImplemented)) s) :=
  .of_wp fun prog w A R s h => by obtain ⟨hp, g, d, tk, os⟩ := s; obtain ⟨hl, h⟩ := h; wp_walk using wpAny_loadPart' hl, wpAny_load hl; exact ⟨_, rfl, h⟩
theorem ne_dict_str {kt : Type} [DecidableEq kt] {prog : Program} {w : World} {knd : KeyKind prog w kt} {A : Around} {s : Shared} {E : Value → Shared → Prop} {Q : Value → Shared → Prop} {l : Addr} {kvs : List (kt × Value)} (b : Str) (u : Tok) (hd : s.heap.DictOf knd l kvs) (hu : A.units < cLine) (h : Q (.bool true) s) :
    wpAny (model prog w) A (compareOp .NotEq (.ref l) (.str b u)) Q E s := by
  have hT := hd.typeIs
  obtain ⟨⟨cls, dd, data, sl⟩, es, ep, ho, ⟨hc, h1, h2⟩, h3, _⟩ := id hd
  simp only at hc h1 h2 h3
  subst hc h1 h2 h3
  refine rc_ne_decline_or (k := false) hT (typeIs_str s b u) (by decide) F.sub_str_dict F.slot_dict_ne F.slot_str_ne_refl
    (fun Q' hq => wpAny_call_entry F.slot_dict_ne hT F.entry_dict_ne ?_ (F.args_dict_ne_2 _ _))
    (fun _ hq => call_meets F.slot_str_ne_refl (typeIs_str s b u) F.entry_str_ne (F.args_str_ne_2 _ _) (str_ne_declines_dict b u l es ep) ⟨ho, hq⟩)
    (fun _ hq => wpAny_of_eq (rfl : isSame (.ref l) (.str b u) = pure false) hq) (.inr hu) h
  show wpAny _ _ (Builtin.Dict.dictSlotArgs "__ne__" ⟨[.ref l, .str b u], []⟩ >>= _) _ _ s
  refine wpAny_bind ?_
  unfold Builtin.Dict.dictSlotArgs
  refine wpAny_bind (wpAny_notOrdered_dict hT ?_)
  show wpAny _ _ (pure (Value.ref l, Value.str b u)) _ _ s
  refine wpAny_pure ?_
  refine wpAny_bind (wpAny_isInstance (T := "str") (typeIs_str s b u) PySem.F.sub_str_dict ?_)
  simp only [Bool.not_false, if_true]
  exact wpAny_bind (wpAny_rule (wpAny_pure ⟨_, rfl, hq⟩))
end
def rNeAS (K : PySem.W.Frag) : R2 := fun x y H Q => rNe x y H Q ∨ ∃ a o z, x = .ref a ∧ H a = some o ∧ ((∃ vs, o = .lst vs) ∨ (∃ vs, o = .tup vs) ∨ (∃ kvs, o = .dK kvs)) ∧ y = .str z ∧ Q (.bl true) H
theorem op_neAS {X : Cx} (hu : X.A.units + 64 < cLine) : OpR X (compareOp .NotEq) (rNeAS X.K) := by
  intro pins s σ H x y v u Q I rx ry h
  rcases h with h | ⟨a, o, z, rfl, ea, hh, rfl, q⟩
  · exact op_ne pins s σ H x y v u Q I rx ry h
  · obtain rfl : v = Value.ref a := rx
    obtain ⟨t, rfl⟩ := ry
    rcases hh with ⟨vs, rfl⟩ | ⟨vs, rfl⟩ | ⟨kvs, rfl⟩
    · obtain ⟨_, its, n, _, g⟩ := (show ObjOk X.prog X.w H s.heap a (.lst vs) from I.hok a _ ea)
      exact SeqAt.RcNeAt.list_str z t ⟨_, g, rfl, n, rfl⟩ (by omega) X.prog X.w _ _ (fin_bl I q rfl)
    · obtain ⟨_, its, _, g⟩ := (show ObjOk X.prog X.w H s.heap a (.tup vs) from I.hok a _ ea)
      exact SeqAt.RcNeAt.tuple_str z t g (by omega) X.prog X.w _ _ (fin_bl I q rfl)
    · obtain ⟨_, ya, va, ra, da⟩ := (show ObjOk X.prog X.w H s.heap a (.dK kvs) from I.hok a _ ea)
      exact ne_dict_str z t da (by omega) (fin_bl I q rfl)
/-- thing != text -/
def neAS (x : An) (z : Str) : Bool := match x with | .s y => decide (y ≠ z) | _ => true
theorem v_neAS {K : PySem.W.Frag} {σ : L2.St} {F H : Hp} {ta tb : TE} {v : V} {x : An} {z : Str} (ha : Val ta σ H v) (hb : Val tb σ H (.str z)) (r : pA.r F v x) (f : Ex F H) : Val (tOp (rNeAS K) ta tb) σ H (.bl (neAS x z)) := v2 ha hb fun Q k => by
  have flat : ∀ w : V, scal w (.str z) = true → v = w → neAS x z = !decide (w = .str z) → rNeAS K v (.str z) H Q := fun w hw e e2 => .inl ⟨by rw [e]; exact hw, by rw [e, ← e2]; exact k⟩
  cases x with
  | i n => exact flat _ rfl (show v = .int n from r) rfl
  | b b => exact flat _ rfl (show v = .bl b from r) rfl
  | n => exact flat _ rfl (show v = .non from r) rfl
  | s y => exact flat _ rfl (show v = .str y from r) (by
      show decide (y ≠ z) = _
      rw [← decide_not, dec_iff (show (¬ V.str y = V.str z) ↔ y ≠ z from ⟨fun h e => h (by rw [e]), fun h e => h (V.str.inj e)⟩)])
  | o T =>
    obtain ⟨p, rfl, q⟩ := (show ∃ p, v = .ref p ∧ _ from r)
    rcases q with ⟨_, vs, q⟩ | ⟨_, vs, q⟩ | ⟨_, vs, q⟩
    · exact .inr ⟨p, _, z, rfl, f _ _ q, .inl ⟨vs, rfl⟩, rfl, k⟩
    · exact .inr ⟨p, _, z, rfl, f _ _ q, .inr (.inl ⟨vs, rfl⟩), rfl, k⟩
    · exact .inr ⟨p, _, z, rfl, f _ _ q, .inr (.inr ⟨vs, rfl⟩), rfl, k⟩
  | l xs =>
    obtain ⟨p, vs, rfl, q, _⟩ := an_l.mp r
    exact .inr ⟨p, _, z, rfl, f _ _ q, .inl ⟨vs, rfl⟩, rfl, k⟩
  | t xs =>
    obtain ⟨p, vs, rfl, q, _⟩ := an_t.mp r
    exact .inr ⟨p, _, z, rfl, f _ _ q, .inr (.inl ⟨vs, rfl⟩), rfl, k⟩
end Wk
/-! Rn: regions: what a call has made, held apart from F so that it may still be changed; new things inside lists. -/
namespace Wk
open PySem L2
/-- things that hold nothing of what was there at H0, as a reading -/
def pNew {α : Type} (H0 : Hp) (e : Rep α) : Rep α := ⟨fun F v x => e.r (nw H0 F) v x, fun h r => e.mono (nw_ex h) r⟩
/-- things that stand in G -/
def pAt {α : Type} (G : Hp) (e : Rep α) : Rep α := ⟨fun _ v x => e.r G v x, fun _ r => r⟩
/-- what a call has made -/
structure RG (H0 F H G : Hp) : Prop where
  z : ∀ a o, G a = some o → H0 a = none
  n : ∀ a o, G a = some o → F a = none
  h : Ex G H
/-- the same, its lists changed: each has grown by at most k -/
structure RD (H0 F H G : Hp) (k : Nat) : Prop where
  z : ∀ a o, G a = some o → H0 a = none
  n : ∀ a o, G a = some o → F a = none
  c : ∀ a o, G a = some o → ∃ o', H a = some o'
  l : ∀ a vs, G a = some (.lst vs) → ∃ ws, H a = some (.lst ws) ∧ ws.length ≤ vs.length + k
/-- but for its lists -/
def nl (G : Hp) : Hp := fun a => match G a with | some (.lst _) => none | o => o
theorem nl_sub {G : Hp} : Ex (nl G) G := fun a o e => by
  unfold nl at e
  split at e
  · cases e
  · exact e
theorem nl_lst {G : Hp} {p : Addr} {vs : List V} (h : G p = some (.lst vs)) : nl G p = none := by unfold nl; rw [h]
theorem nl_tup {G : Hp} {p : Addr} {vs : List V} (h : G p = some (.tup vs)) : nl G p = some (.tup vs) := by unfold nl; rw [h]
section
variable {α β γ : Type} {e : Rep α} {f : Rep β} {k3 : Rep γ} {K : PySem.W.Frag} {σ : L2.St} {F0 H0 F F' F2 H H' H2 G : Hp} {p q : Addr} {v u : V} {x : α} {xs : List α} {Q : VK} {to : TE} {tA : TA} {vs : List V} {o : HO} {k : Nat}
theorem new_r (h : (pNew H0 e).r F v x) : e.r F v x := e.mono nw_sub h
theorem new_base (w : Wf F0 H0 F2 H) (h : (pNew H e).r F v x) : (pNew H0 e).r F v x := e.mono (fun a o q => by
  unfold nw at q ⊢
  by_cases c : H a = none
  · rw [if_pos c] at q; rw [if_pos (w.h.non c)]; exact q
  · rw [if_neg c] at q; cases q) h
theorem RG.step (g : RG H0 F H G) (w : Wf F H F' H') : RG H0 F' H' G := by
  refine ⟨g.z, fun a o e => ?_, g.h.tr w.h⟩
  cases q : F' a with
  | none => rfl
  | some u =>
    have := w.n a u q (g.n a o e)
    rw [g.h a o e] at this
    cases this
theorem RG.xc (g : RG H0 F H G) {a : Addr} {o : HO} (e : G a = some o) : Xc H0 F H a o := ⟨g.z a o e, g.n a o e, g.h a o e⟩
theorem RG.ne (g : RG H0 F H G) (h : H q = none) : G q = none := g.h.non h
theorem RG.frzO (g : RG H0 F H G) (fz : Fz F F' p) (hq : G p = none) (_ : Ex F F') : RG H0 F' H G :=
  ⟨g.z, fun a o e => fz a (ne_of_none e hq) (g.n a o e), g.h⟩
theorem RG.kept (g : RG H0 F H G) (h : ∀ q o, H q = some o → q ≠ p → H' q = some o) (hq : G p = none) : RG H0 F H' G := ⟨g.z, g.n, fun a o e => h a o (g.h a o e) (ne_of_none e hq)⟩
theorem RD.step (g : RD H0 F H G k) (w : Wf F H F' H') : RD H0 F' H' G k := by
  refine ⟨g.z, fun a o e => ?_, fun a o e => ?_, fun a vs e => ?_⟩
  · cases q : F' a with
    | none => rfl
    | some u =>
      obtain ⟨o', h⟩ := g.c a o e
      have := w.n a u q (g.n a o e)
      rw [h] at this
      cases this
  · obtain ⟨o', h⟩ := g.c a o e
    exact ⟨o', w.h _ _ h⟩
  · obtain ⟨ws, h1, h2⟩ := g.l a vs e
    exact ⟨ws, w.h _ _ h1, h2⟩
theorem RD.ne (g : RD H0 F H G k) (h : H q = none) : G q = none := by
  cases e : G q with
  | none => rfl
  | some o => obtain ⟨o', z⟩ := g.c q o e; rw [h] at z; cases z
theorem RD.frzO (g : RD H0 F H G k) (fz : Fz F F' p) (hq : G p = none) (_ : Ex F F') : RD H0 F' H G k := by
  exact ⟨g.z, fun a o e => fz a (ne_of_none e hq) (g.n a o e), g.c, g.l⟩
theorem RD.kept (g : RD H0 F H G k) (h : ∀ q o, H q = some o → q ≠ p → H' q = some o) (hq : G p = none) : RD H0 F H' G k := by
  refine ⟨g.z, g.n, fun a o e => ?_, fun a vs e => ?_⟩
  · obtain ⟨o', z⟩ := g.c a o e
    exact ⟨o', h a o' z (ne_of_none e hq)⟩
  · obtain ⟨ws, h1, h2⟩ := g.l a vs e
    exact ⟨ws, h _ _ h1 (ne_of_none e hq), h2⟩
theorem RG.rd (g : RG H0 F H G) : RD H0 F H G 0 := ⟨g.z, g.n, fun a o e => ⟨o, g.h a o e⟩, fun a vs e => ⟨vs, g.h a _ e, Nat.le_refl _⟩⟩
theorem RG.nl (g : RG H0 F H G) : RG H0 F H (nl G) := ⟨fun a o e => g.z a o (nl_sub a o e), fun a o e => g.n a o (nl_sub a o e), fun a o e => g.h a o (nl_sub a o e)⟩
/-- both heaps together -/
def un (F G : Hp) : Hp := fun a => match F a with | some o => some o | none => G a
theorem un_l {F G : Hp} : Ex F (un F G) := fun a o e => by unfold un; rw [e]
theorem RG.un_r (g : RG H0 F H G) : Ex G (un F G) := fun a o e => by unfold un; rw [g.n a o e]; exact e
theorem RG.frz (g : RG H0 F H G) (w : Wf F0 H0 F H) : Wf F0 H0 (un F G) H := ⟨w.h, fun a o e => by
    unfold un at e
    cases q : F a with
    | some u => rw [q] at e; cases e; exact w.f a _ q
    | none => rw [q] at e; exact g.h a o e, w.g.tr un_l, fun a o e e0 => by
    unfold un at e
    cases q : F a with
    | some u => exact w.n a u q e0
    | none => rw [q] at e; exact g.z a o e⟩
theorem RG.frzE (g : RG H0 F H G) (w : Wf F0 H0 F H) : ∃ F', Wf F0 H0 F' H ∧ Ex F F' ∧ Ex G F' ∧ (∀ q, G q = none → F q = none → F' q = none) :=
  ⟨_, g.frz w, un_l, g.un_r, fun q h x => by unfold un; rw [x]; exact h⟩
theorem RG.lend (g : RG H0 F H G) (w : Wf F0 H0 F H) : ∃ Fl, Ex Fl H ∧ Ex F Fl ∧ Ex G Fl := ⟨_, (g.frz w).f, un_l, g.un_r⟩
theorem XL.frzG (x : XL e H0 F H q xs) (fz : ∀ q, G q = none → F q = none → F' q = none) (hq : G q = none) (g : Ex F F') : XL e H0 F' H q xs := let ⟨vs, a, b⟩ := x.x; ⟨vs, ⟨a.z, fz _ hq a.n, a.h⟩, b.mono g⟩
/-- behind a call -/
theorem RG.of (w : Wf F0 H0 F H) (sf : Ex F2 H2) : RG H0 F H2 (nw H F2) := by
  have key : ∀ a o, nw H F2 a = some o → H a = none := fun a o e => by
    unfold nw at e
    by_cases c : H a = none
    · exact c
    · rw [if_neg c] at e; cases e
  exact ⟨fun a o e => w.h.non (key a o e), fun a o e => w.f.non (key a o e), fun a o e => sf a o (nw_sub a o e)⟩
theorem nw_ne (h : H p = some o) : nw H F2 p = none := by unfold nw; rw [if_neg (by rw [h]; simp)]
theorem XL.re (x : XL e H0 F H p xs) : nw H F2 p = none := let ⟨vs, a, _⟩ := x.x; nw_ne a.h
theorem Xc.re (x : Xc H0 F H p o) : nw H F2 p = none := nw_ne x.h
theorem at_new (h : Fre H e F2 v x) : e.r (nw H F2) v x := h
theorem ne_rg (hq : G q = none) (hp : G p = some o) : q ≠ p := fun z => by rw [z, hp] at hq; cases hq
/-! copies -/
theorem all_cv {e' : Rep α} (h : ∀ {v x}, e.r G v x → e'.r F v x) : ∀ {vs : List V} {xs : List α}, All e G vs xs → All e' F vs xs
  | [], [], _ => trivial
  | _ :: _, _ :: _, ⟨a, b⟩ => ⟨h a, all_cv h b⟩
  | [], _ :: _, q => q.elim
  | _ :: _, [], q => q.elim
theorem n_listG {e' : Rep α} (cv : ∀ {v x}, e.r G v x → e'.r F v x) (r : (pL e).r G v xs) (g : Ex G H) (w : Wf F0 H0 F H) (k : ∀ p H', H p = none → Wf F H F H' → XL e' H0 F H' p xs → Q (.ref p) H') : rListOf K [v] H Q := by
  obtain ⟨p, vs, rfl, hp, a⟩ := r
  exact ⟨p, vs, rfl, .inl (SqL.of (g _ _ hp)), fun l hl => k l _ hl (Wf.newX w.f hl) ⟨vs, Xc.mk' w hl, all_cv cv a⟩⟩
/-! changes -/
theorem L_at (r : (pL e).r G v xs) : ∃ p vs, v = .ref p ∧ G p = some (.lst vs) ∧ vs.length = xs.length := let ⟨p, vs, a, b, c⟩ := r; ⟨p, vs, a, b, c.len⟩
theorem m_rd {r : V → List V → Hp → VK → Prop} (g : RD H0 F H G k) (hp : G p = some (.lst vs)) (ho : Val to σ H (.ref p)) (kk : tA σ H fun vs H2 => r (.ref p) vs H2 Q) : tBM K "list" r to tA σ H Q :=
  ho _ ⟨let ⟨ws, h, _⟩ := g.l p vs hp; Or.inl ⟨rfl, _, Or.inl (Or.inl h)⟩, kk⟩
theorem m_rd0 {r : V → List V → Hp → VK → Prop} (g : RD H0 F H G k) (hp : G p = some (.lst vs)) (ho : Val to σ H (.ref p)) (kk : r (.ref p) [] H Q) : tBM0 K "list" r to σ H Q :=
  ho _ ⟨let ⟨ws, h, _⟩ := g.l p vs hp; Or.inl ⟨rfl, _, Or.inl (Or.inl h)⟩, kk⟩
theorem RD.setL (g : RD H0 F H G k) {vs ws us : List V} {j : Nat} (hp : G p = some (.lst vs)) (hl : us.length ≤ vs.length + j) (hk : k ≤ j) : RD H0 F (upd H p (.lst us)) G j := ⟨g.z, g.n, fun a o e => by
    by_cases q : a = p
    · subst q; exact ⟨_, upd_same⟩
    · rw [upd_ne q]; exact g.c a o e, fun a vs' e => by
    by_cases q : a = p
    · subst q; rw [hp] at e; cases e; exact ⟨us, upd_same, hl⟩
    · rw [upd_ne q]; obtain ⟨ws, h1, h2⟩ := g.l a vs' e; exact ⟨ws, h1, by omega⟩⟩
theorem Wf.setG (w : Wf F0 H0 F H) (g : RD H0 F H G k) (hp : G p = some o) {u : HO} : Wf F0 H0 F (upd H p u) := ⟨fun a v e => by
    rw [upd_ne (ne_of_none e (g.z _ _ hp))]; exact w.h a v e, fun a v e => by rw [upd_ne (ne_of_none e (g.n _ _ hp))]; exact w.f a v e, w.g, w.n⟩
theorem a_appD (g : RD H0 F H G k) (hp : G p = some (.lst vs)) (w : Wf F0 H0 F H) (hl : vs.length + k < 1000000) (kk : ∀ H', Wf F0 H0 F H' → RD H0 F H' G (k + 1) → (∀ q o, H q = some o → q ≠ p → H' q = some o) → Q .non H') : rAppend (.ref p) [v] H Q := by
  obtain ⟨ws, h1, h2⟩ := g.l p vs hp
  exact ⟨p, ws, v, rfl, rfl, h1, small_len (by omega), kk _ (w.setG g hp) (g.setL (ws := ws) hp (by rw [List.length_append]; simp; omega) (by omega)) fun q o h hq => by rw [upd_ne hq]; exact h⟩
theorem a_clrD (g : RD H0 F H G k) (hp : G p = some (.lst vs)) (w : Wf F0 H0 F H) (kk : ∀ H', Wf F0 H0 F H' → RD H0 F H' G k → (∀ q o, H q = some o → q ≠ p → H' q = some o) → Q .non H') : rClear (.ref p) [] H Q := by
  obtain ⟨ws, h1, h2⟩ := g.l p vs hp
  exact ⟨p, ws, rfl, rfl, h1, kk _ (w.setG g hp) (g.setL (ws := ws) hp (by simp) (by omega)) fun q o h hq => by rw [upd_ne hq]; exact h⟩
/-! a tuple whose lists may have changed -/
theorem T2_at {z : α × β} (r : (pT2 e f).r G v z) : (pT2 (pAt G e) (pAt G f)).r (nl G) v z := let ⟨p, u, w, a, b, c, d⟩ := r; ⟨p, u, w, a, nl_tup b, c, d⟩
theorem T3_at {z : α × β × γ} (r : (pT3 e f k3).r G v z) : (pT3 (pAt G e) (pAt G f) (pAt G k3)).r (nl G) v z := let ⟨p, u, w, y, a, b, c, d, h⟩ := r; ⟨p, u, w, y, a, nl_tup b, c, d, h⟩
/-! min, divmod, xs[i] op= y -/
def rMin2 : List V → Hp → VK → Prop := fun xs H Q => ∃ i j, xs = [.int i, .int j] ∧ Q (.int (if j < i then j else i)) H
theorem vn_min2 {a b : Nat} {ta tb : TE} (ha : Val ta σ H (.int (a : Int))) (hb : Val tb σ H (.int (b : Int))) : Val (tCB rMin2 (tCons ta (tCons tb tNil))) σ H (.int ((min a b : Nat) : Int)) := fun Q k =>
  ha _ (hb _ ⟨_, _, rfl, by
    have e : (if (b : Int) < (a : Int) then (b : Int) else (a : Int)) = ((min a b : Nat) : Int) := by
      by_cases h : b < a
      · rw [if_pos (by omega)]; omega
      · rw [if_neg (by omega)]; omega
    rw [e]; exact k⟩)
def rDivmod : List V → Hp → VK → Prop := fun xs H Q => ∃ i j, xs = [.int i, .int j] ∧ CDivP i j ∧ ∀ p, H p = none → Q (.ref p) (upd H p (.tup [.int (i / j), .int (i % j)]))
theorem nDivmod {a b : Nat} (hs : NDiv b) (w : Wf F0 H0 F H) (k : ∀ v F' H', Wf F H F' H' → (pT2 pN pN).r F' v (a / b, a % b) → Q v H') : rDivmod [.int (a : Int), .int (b : Int)] H Q :=
  ⟨a, b, rfl, ⟨by have := hs.1; omega, PyProof.noPylong_of_log2 hs.2⟩, fun p hp => k _ _ _ (Wf.new w.f hp) ⟨p, _, _, rfl, upd_same, show V.int _ = V.int _ from rfl, show V.int _ = V.int _ from rfl⟩⟩
theorem get_list {X : Cx} : PGet X (rIxL X.K) := by
  intro pins s σ H o i ov iv Q I ro ri h
  obtain ⟨p, xs, i, z, rfl, rfl, hq, he, q⟩ := h
  cases ro
  obtain ⟨t, rfl⟩ := ri
  obtain ⟨its, r, pl, hz⟩ := I.list hq
  obtain ⟨j, h1, h2, h3, h4, h5⟩ := atI_get he
  obtain ⟨w, ew, rw'⟩ := r.get h2
  have hl := r.length
  have hn := line63
  have fin : EP X pins σ Q w s := ⟨z, H, I, rw', q⟩
  by_cases h0 : 0 ≤ i
  · have hj : i.toNat = j := by
      rw [seqIndex_of h0 h5] at h1
      exact Option.some.inj h1
    exact wpAny_getItem_list pl.isList h0 (by omega) (by rw [hj]; simpa using ew) fin
  · have hj : (i + (its.toArray.size : Int)).toNat = j := by
      rw [seqIndex_neg (by omega) h4] at h1
      rw [List.size_toArray, ← hl]
      exact Option.some.inj h1
    exact wpAny_getItem_list_neg pl.isList (by omega) (by rw [List.size_toArray] <;> omega) (by omega) (by rw [hj]; simpa using ew) fin
/-- xs[i] op= y, of numbers -/
theorem a_laug {D : Ends} {ti tb : TE} {tip : TIp} {xs : List Nat} {i y b z : Nat} (x : XL pN H0 F H p xs) (w : Wf F0 H0 F H) (hx : xs[i]? = some y) (ho : Val to σ H (.ref p)) (hi : Val ti σ H (.int (i : Int))) (hb : Val tb σ H (.int (b : Int)))
    (hz : ∀ Q : VK, Q (.int (z : Int)) H → tip (.int (y : Int)) (.int (b : Int)) H Q)
    (kk : ∀ H', Wf F0 H0 F H' → XL pN H0 F H' p (xs.set i z) → (∀ q o, H q = some o → q ≠ p → H' q = some o) → D.nx σ H') : tAugS to ti tb (rIxL K) tip rSetL D σ H := by
  obtain ⟨vs, a, al⟩ := x.x
  obtain ⟨u, h1, h2⟩ := al.get hx
  have h2' : u = .int (y : Int) := h2
  subst h2'
  have hlt : i < vs.length := by
    rcases Nat.lt_or_ge i vs.length with q | q
    · exact q
    · rw [List.getElem?_eq_none q] at h1; cases h1
  refine ho _ (hi _ ⟨p, vs, _, _, rfl, rfl, SqL.of a.h, atI_nat h1, hb _ (hz _ ⟨p, vs, _, i, rfl, rfl, a.h, ?_, ?_⟩)⟩)
  · unfold ixN
    rw [if_pos (by omega), if_pos (by omega)]; rfl
  · exact kk _ (w.set a) ⟨_, a.set, al.set i (show pN.r F (.int (z : Int)) z from rfl)⟩ fun q o h hq => by rw [upd_ne hq]; exact h
theorem nl_ne (h : G q = none) : nl G q = none := by unfold nl; rw [h]
theorem XD.re {κ : Type} [KeyT κ] {m : List (κ × α)} (x : XD e H0 F H p m) : nw H F2 p = none := let ⟨vs, a, _⟩ := x.x; nw_ne a.h
theorem XD.frzG {κ : Type} [KeyT κ] {m : List (κ × α)} (x : XD e H0 F H q m) (fz : ∀ q, G q = none → F q = none → F' q = none) (hq : G q = none) (g : Ex F F') : XD e H0 F' H q m := let ⟨vs, a, b⟩ := x.x; ⟨vs, ⟨a.z, fz _ hq a.n, a.h⟩, b.mono g⟩
theorem RG.re (x : RG H0 F H G) {a : Addr} {o : HO} (h : G a = some o) : nw H F2 a = none := nw_ne (x.h a o h)
/-! a text in a list of texts -/
theorem inV_str {x : Str} : ∀ {ys : List Str}, inV (.str x) (ys.map V.str) = decide (x ∈ ys)
  | [] => rfl
  | y :: ys => by
    have ih := inV_str (x := x) (ys := ys)
    unfold inV at ih ⊢
    rw [List.map_cons, List.any_cons, ih]
    have e : eqV (.str y) (.str x) = decide (x = y) := by
      show (y == x) = _
      by_cases h : x = y
      · subst h; simp
      · rw [decide_eq_false h]; exact beq_eq_false_iff_ne.mpr (fun z => h z.symm)
    rw [e, Bool.eq_iff_iff]
    simp
theorem flat_str : ∀ {ys : List Str}, (ys.map V.str).all flatV = true
  | [] => rfl
  | _ :: ys => by rw [List.map_cons, List.all_cons, flat_str (ys := ys)]; rfl
theorem v_inLS {ta tb : TE} {y : Str} {ys : List Str} (ha : Val ta σ H (.str y)) (hb : Val tb σ H v) (r : (pL pS).r F v ys) (f1 : Ex F H) : Val (tOp (rIn K false) ta tb) σ H (.bl (decide (y ∈ ys))) := v2 ha hb fun Q k => by
  obtain ⟨p, vs, rfl, hp, a⟩ := r
  have e := all_str (ys := ys) a
  subst e
  exact ⟨p, _, rfl, .inl (SqL.of (f1 _ _ hp)), rfl, flat_str, by rw [if_neg (by decide), inV_str]; exact k⟩
theorem v_notInLS {ta tb : TE} {y : Str} {ys : List Str} (ha : Val ta σ H (.str y)) (hb : Val tb σ H v) (r : (pL pS).r F v ys) (f1 : Ex F H) : Val (tOp (rIn K true) ta tb) σ H (.bl (decide (¬ y ∈ ys))) := v2 ha hb fun Q k => by
  obtain ⟨p, vs, rfl, hp, a⟩ := r
  have e := all_str (ys := ys) a
  subst e
  exact ⟨p, _, rfl, .inl (SqL.of (f1 _ _ hp)), rfl, flat_str, by rw [if_pos rfl, inV_str, ← decide_not]; exact k⟩
end
/-! data with texts in it: compared where the texts can be laid -/
class Dao {α : Type} (e : Rep α) (lv : outParam Nat) where
  ok : α → Prop
  d : α → PyData
  dp : ∀ {K : PySem.W.Frag} {F : Hp} {v : V} {x : α}, e.r F v x → Dp K F v (d x)
  lay : ∀ x, ok x → (d x).canLay0 = true
  dep : ∀ x, (d x).depth ≤ lv
  inj : ∀ x y, PyData.eqv (d x) (d y) = true ↔ x = y
def okV {α : Type} (e : Rep α) {n : Nat} [Dao e n] (x : α) : Prop := Dao.ok e x
def okS (x : Str) : Prop := PyData.canLay0 (.str x) = true
instance : Dao pI 0 := ⟨fun _ => True, Dat.d pI, Dat.dp, fun x _ => Dat.lay (e := pI) x, Dat.dep, Dat.inj⟩
instance : Dao pN 0 := ⟨fun _ => True, Dat.d pN, Dat.dp, fun x _ => Dat.lay (e := pN) x, Dat.dep, Dat.inj⟩
instance : Dao pB 0 := ⟨fun _ => True, Dat.d pB, Dat.dp, fun x _ => Dat.lay (e := pB) x, Dat.dep, Dat.inj⟩
instance : Dao pS 0 := ⟨okS, .str, fun h => by cases (show _ = V.str _ from h); exact .str _, fun _ h => h, fun _ => Nat.le_refl _, fun x y => by
  show ((x == y) = true) ↔ _
  exact beq_iff_eq⟩
theorem lay_allO {α : Type} {d : α → PyData} {ok : α → Prop} (h : ∀ x, ok x → (d x).canLay0 = true) : ∀ xs : List α, (∀ x ∈ xs, ok x) → PyData.canLayAll0 (xs.map d) = true
  | [], _ => rfl
  | x :: xs, q => by
    show (PyData.canLay0 (d x) && PyData.canLayAll0 (xs.map d)) = true
    rw [h x (q x (List.mem_cons_self ..)), lay_allO h xs fun y hy => q y (List.mem_cons_of_mem _ hy)]; rfl
theorem dp_allO {α : Type} {e : Rep α} {lv : Nat} [Dao e lv] {K : PySem.W.Frag} {F : Hp} : ∀ {vs : List V} {xs : List α}, All e F vs xs → DpAll K F vs (xs.map (Dao.d e))
  | [], [], _ => .nil
  | _ :: _, _ :: _, ⟨a, b⟩ => .cons (Dao.dp a) (dp_allO b)
  | [], _ :: _, q => q.elim
  | _ :: _, [], q => q.elim
instance {α : Type} {e : Rep α} {n : Nat} [Dao e n] : Dao (pL e) (n + 1) := ⟨fun xs => ∀ x ∈ xs, Dao.ok e x, fun xs => .list (xs.map (Dao.d e)), fun {K F v xs} h => by
    obtain ⟨p, vs, rfl, hp, a⟩ := h
    exact .lst (SqL.of hp) (dp_allO a), fun xs => lay_allO (Dao.lay (e := e)) xs, fun xs => by
    have := dep_all (Dao.dep (e := e)) xs
    simp only [PyData.depth]
    omega, fun xs ys => by
    show PyData.eqvAll (xs.map (Dao.d e)) (ys.map (Dao.d e)) = true ↔ _
    exact eqv_all (Dao.inj (e := e)) xs ys⟩
instance {α : Type} {e : Rep α} {n : Nat} [Dao e n] : Dao (pTL e) (n + 1) := ⟨fun xs => ∀ x ∈ xs, Dao.ok e x, fun xs => .tuple (xs.map (Dao.d e)), fun {K F v xs} h => by
    obtain ⟨p, vs, rfl, hp, a⟩ := h
    exact .tup (SqT.of hp) (dp_allO a), fun xs => lay_allO (Dao.lay (e := e)) xs, fun xs => by
    have := dep_all (Dao.dep (e := e)) xs
    simp only [PyData.depth]
    omega, fun xs ys => by
    show PyData.eqvAll (xs.map (Dao.d e)) (ys.map (Dao.d e)) = true ↔ _
    exact eqv_all (Dao.inj (e := e)) xs ys⟩
instance {α β : Type} {e : Rep α} {f : Rep β} {n m : Nat} [Dao e n] [Dao f m] : Dao (pT2 e f) (max n m + 1) := ⟨fun x => Dao.ok e x.1 ∧ Dao.ok f x.2, fun x => .tuple [Dao.d e x.1, Dao.d f x.2], fun {K F v x} h => by
    obtain ⟨p, u, w, rfl, hp, a, b⟩ := h
    exact .tup (SqT.of hp) (.cons (Dao.dp a) (.cons (Dao.dp b) .nil)), fun x h => by
    show (PyData.canLay0 (Dao.d e x.1) && (PyData.canLay0 (Dao.d f x.2) && PyData.canLayAll0 [])) = true
    rw [Dao.lay _ h.1, Dao.lay _ h.2]; rfl, fun x => by
    have a := Dao.dep (e := e) x.1
    have b := Dao.dep (e := f) x.2
    simp only [PyData.depth, PyData.depthAll]
    omega, fun x y => by
    show (PyData.eqv (Dao.d e x.1) (Dao.d e y.1) && (PyData.eqv (Dao.d f x.2) (Dao.d f y.2) && PyData.eqvAll [] [])) = true ↔ _
    have z : PyData.eqvAll [] [] = true := rfl
    rw [z, Bool.and_true, Bool.and_eq_true, Dao.inj, Dao.inj, Prod.ext_iff]⟩
instance {α β γ : Type} {e : Rep α} {f : Rep β} {g : Rep γ} {n m k : Nat} [Dao e n] [Dao f m] [Dao g k] : Dao (pT3 e f g) (max n (max m k) + 1) := ⟨fun x => Dao.ok e x.1 ∧ Dao.ok f x.2.1 ∧ Dao.ok g x.2.2, fun x => .tuple [Dao.d e x.1, Dao.d f x.2.1, Dao.d g x.2.2], fun {K F v x} h => by
    obtain ⟨p, u, w, y, rfl, hp, a, b, c⟩ := h
    exact .tup (SqT.of hp) (.cons (Dao.dp a) (.cons (Dao.dp b) (.cons (Dao.dp c) .nil))), fun x h => by
    show (PyData.canLay0 (Dao.d e x.1) && (PyData.canLay0 (Dao.d f x.2.1) && (PyData.canLay0 (Dao.d g x.2.2) && PyData.canLayAll0 []))) = true
    rw [Dao.lay _ h.1, Dao.lay _ h.2.1, Dao.lay _ h.2.2]; rfl, fun x => by
    have a := Dao.dep (e := e) x.1
    have b := Dao.dep (e := f) x.2.1
    have c := Dao.dep (e := g) x.2.2
    simp only [PyData.depth, PyData.depthAll]
    omega, fun x y => by
    show (PyData.eqv (Dao.d e x.1) (Dao.d e y.1) && (PyData.eqv (Dao.d f x.2.1) (Dao.d f y.2.1) && (PyData.eqv (Dao.d g x.2.2) (Dao.d g y.2.2) && PyData.eqvAll [] []))) = true ↔ _
    have z : PyData.eqvAll [] [] = true := rfl
    rw [z, Bool.and_true, Bool.and_eq_true, Bool.and_eq_true, Dao.inj, Dao.inj, Dao.inj, Prod.ext_iff, Prod.ext_iff]⟩
instance {α : Type} {e : Rep α} {n : Nat} [Dao e n] : Dao (pAlt (pL e) pN) (n + 1) := ⟨fun x => match x with | .inl xs => ∀ y ∈ xs, Dao.ok e y | .inr _ => True, fun x => match x with | .inl xs => .list (xs.map (Dao.d e)) | .inr m => .int (m : Int), fun {K F v x} h => by
    cases x with
    | inl xs =>
      obtain ⟨p, vs, rfl, hp, a⟩ := (show (pL e).r F v xs from h)
      exact .lst (SqL.of hp) (dp_allO a)
    | inr m => cases (show v = V.int _ from h); exact .int _, fun x h => by
    cases x with
    | inl xs => exact lay_allO (Dao.lay (e := e)) xs h
    | inr m => rfl, fun x => by
    cases x with
    | inl xs =>
      have := dep_all (Dao.dep (e := e)) xs
      simp only [PyData.depth]
      omega
    | inr m => simp only [PyData.depth]; omega, fun x y => by
    cases x with
    | inl xs =>
      cases y with
      | inl ys =>
        show PyData.eqvAll (xs.map (Dao.d e)) (ys.map (Dao.d e)) = true ↔ _
        rw [eqv_all (Dao.inj (e := e)) xs ys]
        exact ⟨fun h => by rw [h], fun h => Sum.inl.inj h⟩
      | inr m => exact ⟨fun h => absurd (show false = true from h) (by decide), fun h => nomatch h⟩
    | inr m =>
      cases y with
      | inl ys => exact ⟨fun h => absurd (show false = true from h) (by decide), fun h => nomatch h⟩
      | inr k =>
        show (((m : Int) == (k : Int)) = true) ↔ _
        rw [beq_iff_eq]
        exact ⟨fun h => by rw [show m = k by omega], fun h => by rw [Sum.inr.inj h]⟩⟩
theorem Dao.shp {α : Type} {e : Rep α} {n : Nat} [Dao e n] (h : n ≤ 64) {x : α} (o : okV e x) : SeqAt.shaped (Dao.d e x) = true := by
  unfold SeqAt.shaped
  rw [Dao.lay x o, decide_eq_true (Nat.le_trans (Dao.dep x) h)]; rfl
section
variable {α : Type} {e : Rep α} {K : PySem.W.Frag} {σ : L2.St} {F F' H : Hp} {ta tb : TE} {v w : V} {x y : α} {n : Nat}
theorem c_eqO [DecidableEq α] [Dao e n] (ha : Val ta σ H v) (hb : Val tb σ H w) (f : Ex F H) (r : e.r F v x) (g : Ex F' H) (s : e.r F' w y) (o : okV e x ∧ okV e y) (h : n ≤ 64 := by decide) : Val (tOp (rEqD K) ta tb) σ H (.bl (decide (x = y))) :=
  v2 ha hb fun Q k => ⟨_, _, Dao.dp (e.mono f r), Dao.dp (e.mono g s), Dao.shp h o.1, Dao.shp h o.2, by
    have z : PyData.eqv (Dao.d e x) (Dao.d e y) = decide (x = y) := Bool.eq_iff_iff.mpr (by rw [Dao.inj, decide_eq_true_iff])
    rw [z]; exact k⟩
theorem c_neO [DecidableEq α] [Dao e n] (ha : Val ta σ H v) (hb : Val tb σ H w) (f : Ex F H) (r : e.r F v x) (g : Ex F' H) (s : e.r F' w y) (o : okV e x ∧ okV e y) (h : n ≤ 64 := by decide) : Val (tOp (rNeD K) ta tb) σ H (.bl (decide (x ≠ y))) :=
  v2 ha hb fun Q k => ⟨_, _, Dao.dp (e.mono f r), Dao.dp (e.mono g s), Dao.shp h o.1, Dao.shp h o.2, by
    have z : PyData.eqv (Dao.d e x) (Dao.d e y) = decide (x = y) := Bool.eq_iff_iff.mpr (by rw [Dao.inj, decide_eq_true_iff])
    rw [z, ← decide_not]; exact k⟩
end
end Wk
/-! Dt: readings tell one thing: what a reading holds for, it holds for because of one outcome. -/
namespace Wk
class Ctx (C : Type) where
  Out : Type
  at_ : Out → C → Prop
instance {α : Type} : Ctx (α → Prop) := ⟨α, fun z c => c z⟩
instance {C E : Type} [Ctx C] [Ctx E] : Ctx (C × E) := ⟨Sum (Ctx.Out C) (Ctx.Out E), fun o d => match o with | .inl o => Ctx.at_ o d.1 | .inr o => Ctx.at_ o d.2⟩
def Det {C : Type} [Ctx C] (W : C → Prop) : Prop := ∀ c, W c → (∀ c', W c') ∨ ∃ o : Ctx.Out C, Ctx.at_ o c ∧ ∀ c', Ctx.at_ o c' → W c'
theorem Det.lf0a {S : Type} (z : S) : Det (fun d : (S → Prop) => d z) := fun d h => .inr ⟨z, h, fun _ q => q⟩
theorem Det.lf0r {C S : Type} [Ctx C] (z : S) : Det (fun d : (C × (S → Prop)) => d.2 z) := fun d h => .inr ⟨Sum.inr z, h, fun _ q => q⟩
theorem Det.lf0rl {C S T : Type} [Ctx C] [Ctx T] (z : S) : Det (fun d : (C × ((S → Prop) × T)) => d.2.1 z) := fun d h => .inr ⟨Sum.inr (Sum.inl z), h, fun _ q => q⟩
theorem Det.lf0rr {C S T : Type} [Ctx C] [Ctx T] (z : S) : Det (fun d : (C × (T × (S → Prop))) => d.2.2 z) := fun d h => .inr ⟨Sum.inr (Sum.inr z), h, fun _ q => q⟩
theorem Det.lf1a {S : Type} {E0 : Type} [Ctx E0] (z : S) : Det (fun d : ((S → Prop) × E0) => d.1 z) := fun d h => .inr ⟨Sum.inl (z), h, fun _ q => q⟩
theorem Det.lf1r {C S : Type} [Ctx C] {E0 : Type} [Ctx E0] (z : S) : Det (fun d : ((C × (S → Prop)) × E0) => d.1.2 z) := fun d h => .inr ⟨Sum.inl (Sum.inr z), h, fun _ q => q⟩
theorem Det.lf1rl {C S T : Type} [Ctx C] [Ctx T] {E0 : Type} [Ctx E0] (z : S) : Det (fun d : ((C × ((S → Prop) × T)) × E0) => d.1.2.1 z) := fun d h => .inr ⟨Sum.inl (Sum.inr (Sum.inl z)), h, fun _ q => q⟩
theorem Det.lf1rr {C S T : Type} [Ctx C] [Ctx T] {E0 : Type} [Ctx E0] (z : S) : Det (fun d : ((C × (T × (S → Prop))) × E0) => d.1.2.2 z) := fun d h => .inr ⟨Sum.inl (Sum.inr (Sum.inr z)), h, fun _ q => q⟩
theorem Det.lf2a {S : Type} {E0 : Type} [Ctx E0] {E1 : Type} [Ctx E1] (z : S) : Det (fun d : (((S → Prop) × E0) × E1) => d.1.1 z) := fun d h => .inr ⟨Sum.inl (Sum.inl (z)), h, fun _ q => q⟩
theorem Det.lf2r {C S : Type} [Ctx C] {E0 : Type} [Ctx E0] {E1 : Type} [Ctx E1] (z : S) : Det (fun d : (((C × (S → Prop)) × E0) × E1) => d.1.1.2 z) := fun d h => .inr ⟨Sum.inl (Sum.inl (Sum.inr z)), h, fun _ q => q⟩
theorem Det.lf2rl {C S T : Type} [Ctx C] [Ctx T] {E0 : Type} [Ctx E0] {E1 : Type} [Ctx E1] (z : S) : Det (fun d : (((C × ((S → Prop) × T)) × E0) × E1) => d.1.1.2.1 z) := fun d h => .inr ⟨Sum.inl (Sum.inl (Sum.inr (Sum.inl z))), h, fun _ q => q⟩
theorem Det.lf2rr {C S T : Type} [Ctx C] [Ctx T] {E0 : Type} [Ctx E0] {E1 : Type} [Ctx E1] (z : S) : Det (fun d : (((C × (T × (S → Prop))) × E0) × E1) => d.1.1.2.2 z) := fun d h => .inr ⟨Sum.inl (Sum.inl (Sum.inr (Sum.inr z))), h, fun _ q => q⟩
theorem Det.lf3a {S : Type} {E0 : Type} [Ctx E0] {E1 : Type} [Ctx E1] {E2 : Type} [Ctx E2] (z : S) : Det (fun d : ((((S → Prop) × E0) × E1) × E2) => d.1.1.1 z) := fun d h => .inr ⟨Sum.inl (Sum.inl (Sum.inl (z))), h, fun _ q => q⟩
theorem Det.lf3r {C S : Type} [Ctx C] {E0 : Type} [Ctx E0] {E1 : Type} [Ctx E1] {E2 : Type} [Ctx E2] (z : S) : Det (fun d : ((((C × (S → Prop)) × E0) × E1) × E2) => d.1.1.1.2 z) := fun d h => .inr ⟨Sum.inl (Sum.inl (Sum.inl (Sum.inr z))), h, fun _ q => q⟩
theorem Det.lf3rl {C S T : Type} [Ctx C] [Ctx T] {E0 : Type} [Ctx E0] {E1 : Type} [Ctx E1] {E2 : Type} [Ctx E2] (z : S) : Det (fun d : ((((C × ((S → Prop) × T)) × E0) × E1) × E2) => d.1.1.1.2.1 z) := fun d h => .inr ⟨Sum.inl (Sum.inl (Sum.inl (Sum.inr (Sum.inl z)))), h, fun _ q => q⟩
theorem Det.lf3rr {C S T : Type} [Ctx C] [Ctx T] {E0 : Type} [Ctx E0] {E1 : Type} [Ctx E1] {E2 : Type} [Ctx E2] (z : S) : Det (fun d : ((((C × (T × (S → Prop))) × E0) × E1) × E2) => d.1.1.1.2.2 z) := fun d h => .inr ⟨Sum.inl (Sum.inl (Sum.inl (Sum.inr (Sum.inr z)))), h, fun _ q => q⟩
theorem Det.lf4a {S : Type} {E0 : Type} [Ctx E0] {E1 : Type} [Ctx E1] {E2 : Type} [Ctx E2] {E3 : Type} [Ctx E3] (z : S) : Det (fun d : (((((S → Prop) × E0) × E1) × E2) × E3) => d.1.1.1.1 z) := fun d h => .inr ⟨Sum.inl (Sum.inl (Sum.inl (Sum.inl (z)))), h, fun _ q => q⟩
theorem Det.lf4r {C S : Type} [Ctx C] {E0 : Type} [Ctx E0] {E1 : Type} [Ctx E1] {E2 : Type} [Ctx E2] {E3 : Type} [Ctx E3] (z : S) : Det (fun d : (((((C × (S → Prop)) × E0) × E1) × E2) × E3) => d.1.1.1.1.2 z) := fun d h => .inr ⟨Sum.inl (Sum.inl (Sum.inl (Sum.inl (Sum.inr z)))), h, fun _ q => q⟩
theorem Det.lf4rl {C S T : Type} [Ctx C] [Ctx T] {E0 : Type} [Ctx E0] {E1 : Type} [Ctx E1] {E2 : Type} [Ctx E2] {E3 : Type} [Ctx E3] (z : S) : Det (fun d : (((((C × ((S → Prop) × T)) × E0) × E1) × E2) × E3) => d.1.1.1.1.2.1 z) := fun d h => .inr ⟨Sum.inl (Sum.inl (Sum.inl (Sum.inl (Sum.inr (Sum.inl z))))), h, fun _ q => q⟩
theorem Det.lf4rr {C S T : Type} [Ctx C] [Ctx T] {E0 : Type} [Ctx E0] {E1 : Type} [Ctx E1] {E2 : Type} [Ctx E2] {E3 : Type} [Ctx E3] (z : S) : Det (fun d : (((((C × (T × (S → Prop))) × E0) × E1) × E2) × E3) => d.1.1.1.1.2.2 z) := fun d h => .inr ⟨Sum.inl (Sum.inl (Sum.inl (Sum.inl (Sum.inr (Sum.inr z))))), h, fun _ q => q⟩
theorem Det.lf5a {S : Type} {E0 : Type} [Ctx E0] {E1 : Type} [Ctx E1] {E2 : Type} [Ctx E2] {E3 : Type} [Ctx E3] {E4 : Type} [Ctx E4] (z : S) : Det (fun d : ((((((S → Prop) × E0) × E1) × E2) × E3) × E4) => d.1.1.1.1.1 z) := fun d h => .inr ⟨Sum.inl (Sum.inl (Sum.inl (Sum.inl (Sum.inl (z))))), h, fun _ q => q⟩
theorem Det.lf5r {C S : Type} [Ctx C] {E0 : Type} [Ctx E0] {E1 : Type} [Ctx E1] {E2 : Type} [Ctx E2] {E3 : Type} [Ctx E3] {E4 : Type} [Ctx E4] (z : S) : Det (fun d : ((((((C × (S → Prop)) × E0) × E1) × E2) × E3) × E4) => d.1.1.1.1.1.2 z) := fun d h => .inr ⟨Sum.inl (Sum.inl (Sum.inl (Sum.inl (Sum.inl (Sum.inr z))))), h, fun _ q => q⟩
theorem Det.lf5rl {C S T : Type} [Ctx C] [Ctx T] {E0 : Type} [Ctx E0] {E1 : Type} [Ctx E1] {E2 : Type} [Ctx E2] {E3 : Type} [Ctx E3] {E4 : Type} [Ctx E4] (z : S) : Det (fun d : ((((((C × ((S → Prop) × T)) × E0) × E1) × E2) × E3) × E4) => d.1.1.1.1.1.2.1 z) := fun d h => .inr ⟨Sum.inl (Sum.inl (Sum.inl (Sum.inl (Sum.inl (Sum.inr (Sum.inl z)))))), h, fun _ q => q⟩
theorem Det.lf5rr {C S T : Type} [Ctx C] [Ctx T] {E0 : Type} [Ctx E0] {E1 : Type} [Ctx E1] {E2 : Type} [Ctx E2] {E3 : Type} [Ctx E3] {E4 : Type} [Ctx E4] (z : S) : Det (fun d : ((((((C × (T × (S → Prop))) × E0) × E1) × E2) × E3) × E4) => d.1.1.1.1.1.2.2 z) := fun d h => .inr ⟨Sum.inl (Sum.inl (Sum.inl (Sum.inl (Sum.inl (Sum.inr (Sum.inr z)))))), h, fun _ q => q⟩
theorem Det.lf6a {S : Type} {E0 : Type} [Ctx E0] {E1 : Type} [Ctx E1] {E2 : Type} [Ctx E2] {E3 : Type} [Ctx E3] {E4 : Type} [Ctx E4] {E5 : Type} [Ctx E5] (z : S) : Det (fun d : (((((((S → Prop) × E0) × E1) × E2) × E3) × E4) × E5) => d.1.1.1.1.1.1 z) := fun d h => .inr ⟨Sum.inl (Sum.inl (Sum.inl (Sum.inl (Sum.inl (Sum.inl (z)))))), h, fun _ q => q⟩
theorem Det.lf6r {C S : Type} [Ctx C] {E0 : Type} [Ctx E0] {E1 : Type} [Ctx E1] {E2 : Type} [Ctx E2] {E3 : Type} [Ctx E3] {E4 : Type} [Ctx E4] {E5 : Type} [Ctx E5] (z : S) : Det (fun d : (((((((C × (S → Prop)) × E0) × E1) × E2) × E3) × E4) × E5) => d.1.1.1.1.1.1.2 z) := fun d h => .inr ⟨Sum.inl (Sum.inl (Sum.inl (Sum.inl (Sum.inl (Sum.inl (Sum.inr z)))))), h, fun _ q => q⟩
theorem Det.lf6rl {C S T : Type} [Ctx C] [Ctx T] {E0 : Type} [Ctx E0] {E1 : Type} [Ctx E1] {E2 : Type} [Ctx E2] {E3 : Type} [Ctx E3] {E4 : Type} [Ctx E4] {E5 : Type} [Ctx E5] (z : S) : Det (fun d : (((((((C × ((S → Prop) × T)) × E0) × E1) × E2) × E3) × E4) × E5) => d.1.1.1.1.1.1.2.1 z) := fun d h => .inr ⟨Sum.inl (Sum.inl (Sum.inl (Sum.inl (Sum.inl (Sum.inl (Sum.inr (Sum.inl z))))))), h, fun _ q => q⟩
theorem Det.lf6rr {C S T : Type} [Ctx C] [Ctx T] {E0 : Type} [Ctx E0] {E1 : Type} [Ctx E1] {E2 : Type} [Ctx E2] {E3 : Type} [Ctx E3] {E4 : Type} [Ctx E4] {E5 : Type} [Ctx E5] (z : S) : Det (fun d : (((((((C × (T × (S → Prop))) × E0) × E1) × E2) × E3) × E4) × E5) => d.1.1.1.1.1.1.2.2 z) := fun d h => .inr ⟨Sum.inl (Sum.inl (Sum.inl (Sum.inl (Sum.inl (Sum.inl (Sum.inr (Sum.inr z))))))), h, fun _ q => q⟩
section
variable {C α S β : Type} [Ctx C]
theorem Det.const {p : Prop} : Det (fun _ : C => p) := fun c h => .inl fun _ => h
theorem Det.and {p : Prop} {W : C → Prop} (h : p → Det W) : Det (fun c => p ∧ W c) := fun c ⟨a, b⟩ => (h a c b).imp (fun q c' => ⟨a, q c'⟩) fun ⟨o, x, y⟩ => ⟨o, x, fun c' q => ⟨a, y c' q⟩⟩
theorem Det.ex {W : α → C → Prop} (h : ∀ x, Det (W x)) : Det (fun c => ∃ x, W x c) := fun c ⟨a, b⟩ => (h a c b).imp (fun q c' => ⟨a, q c'⟩) fun ⟨o, x, y⟩ => ⟨o, x, fun c' q => ⟨a, y c' q⟩⟩
theorem Det.alleq {t : α} {W : α → C → Prop} (h : Det (W t)) : Det (fun c => ∀ x, x = t → W x c) := fun c k => (h c (k t rfl)).imp (fun q c' x e => by subst e; exact q c') fun ⟨o, a, b⟩ => ⟨o, a, fun c' q x e => by subst e; exact b c' q⟩
theorem Det.ite {p : Prop} [Decidable p] {A B : C → Prop} (ha : Det A) (hb : Det B) : Det (fun c => if p then A c else B c) := by
  by_cases h : p
  · intro c k
    have k' : A c := by have := k; simp only [if_pos h] at this; exact this
    exact (ha c k').imp (fun q c' => by show if p then _ else _; rw [if_pos h]; exact q c') fun ⟨o, a, b⟩ => ⟨o, a, fun c' q => by show if p then _ else _; rw [if_pos h]; exact b c' q⟩
  · intro c k
    have k' : B c := by have := k; simp only [if_neg h] at this; exact this
    exact (hb c k').imp (fun q c' => by show if p then _ else _; rw [if_neg h]; exact q c') fun ⟨o, a, b⟩ => ⟨o, a, fun c' q => by show if p then _ else _; rw [if_neg h]; exact b c' q⟩
theorem Det.jn {A : C → (S → Prop) → Prop} {K : S → C → Prop} (hA : Det (fun d : C × (S → Prop) => A d.1 d.2)) (hK : ∀ x, Det (K x)) : Det (fun c => Wk.jn (fun kk => A c kk) (fun x => K x c)) := fun c h => by
  rcases hA (c, fun x => K x c) h with h1 | ⟨o, h2, h3⟩
  · exact .inl fun c' => h1 (c', _)
  · cases o with
    | inl o => exact .inr ⟨o, h2, fun c' q => h3 (c', _) q⟩
    | inr x =>
      rcases hK x c h2 with a | ⟨o, a, b⟩
      · exact .inl fun c' => h3 (c', fun x => K x c') (a c')
      · exact .inr ⟨o, a, fun c' q => h3 (c', fun x => K x c') (b c' q)⟩
/-- a call -/
theorem Det.call {W : (S → Prop) → Prop} {K : S → C → Prop} (hW : Det W) (hK : ∀ x, Det (K x)) : Det (fun c => W (fun x => K x c)) := fun c h => by
  rcases hW (fun x => K x c) h with h1 | ⟨x, h2, h3⟩
  · exact .inl fun c' => h1 _
  · rcases hK x c h2 with a | ⟨o, a, b⟩
    · exact .inl fun c' => h3 (fun x => K x c') (a c')
    · exact .inr ⟨o, a, fun c' q => h3 (fun x => K x c') (b c' q)⟩
theorem Det.for_ {B : C → α → S → (S → Prop) → (S → Prop) → Prop} {K : S → C → Prop} (hB : ∀ x s, Det (fun d : C × ((S → Prop) × (S → Prop)) => B d.1 x s d.2.1 d.2.2)) (hK : ∀ s, Det (K s)) :
    ∀ (xs : List α) (s : S), Det (fun c => forW xs s (fun x s nx bk => B c x s nx bk) (fun s => K s c))
  | [], s => hK s
  | x :: xs, s => fun c h => by
    rcases hB x s (c, (fun s' => forW xs s' (fun x s nx bk => B c x s nx bk) (fun s => K s c)), (fun s => K s c)) h with h1 | ⟨o, h2, h3⟩
    · exact .inl fun c' => h1 (c', _, _)
    · cases o with
      | inl o => exact .inr ⟨o, h2, fun c' q => h3 (c', _, _) q⟩
      | inr o =>
        cases o with
        | inl s' =>
          rcases Det.for_ hB hK xs s' c h2 with a | ⟨o, a, b⟩
          · exact .inl fun c' => h3 (c', _, _) (a c')
          · exact .inr ⟨o, a, fun c' q => h3 (c', _, _) (b c' q)⟩
        | inr s' =>
          rcases hK s' c h2 with a | ⟨o, a, b⟩
          · exact .inl fun c' => h3 (c', _, fun s => K s c') (a c')
          · exact .inr ⟨o, a, fun c' q => h3 (c', _, fun s => K s c') (b c' q)⟩
theorem Det.compG_ {B : C → α → (Option β → Prop) → Prop} {K : List β → C → Prop} (hB : ∀ x, Det (fun d : C × (Option β → Prop) => B d.1 x d.2)) (hK : ∀ s, Det (K s)) :
    ∀ (xs : List α) (acc : List β), Det (fun c => compG xs acc (fun x kk => B c x kk) (fun s => K s c))
  | [], s => hK s
  | x :: xs, s => fun c h => by
    rcases hB x (c, (fun o => compG xs (s ++ o.toList) (fun x kk => B c x kk) (fun s => K s c))) h with h1 | ⟨o, h2, h3⟩
    · exact .inl fun c' => h1 (c', _)
    · cases o with
      | inl o => exact .inr ⟨o, h2, fun c' q => h3 (c', _) q⟩
      | inr o =>
        rcases Det.compG_ hB hK xs (s ++ o.toList) c h2 with a | ⟨o, a, b⟩
        · exact .inl fun c' => h3 (c', _) (a c')
        · exact .inr ⟨o, a, fun c' q => h3 (c', _) (b c' q)⟩
theorem Det.comp_ {B : C → α → (Option β → Prop) → Prop} {K : List β → C → Prop} (hB : ∀ x, Det (fun d : C × (Option β → Prop) => B d.1 x d.2)) (hK : ∀ s, Det (K s)) (xs : List α) : Det (fun c => compW xs (fun x kk => B c x kk) (fun s => K s c)) := Det.compG_ hB hK xs []
theorem Det.mono {W : C → Prop} (h : Det W) {c c' : C} (hc : ∀ o : Ctx.Out C, Ctx.at_ o c → Ctx.at_ o c') (hw : W c) : W c' := by
  rcases h c hw with a | ⟨o, a, b⟩
  · exact a c'
  · exact b c' (hc o a)
/-- the way out of a loop goes on with K -/
theorem Det.sub {B : C → (S → Prop) → (S → Prop) → Prop} {K : S → C → Prop} (hB : Det (fun d : C × ((S → Prop) × (S → Prop)) => B d.1 d.2.1 d.2.2)) (hK : ∀ s, Det (K s)) : Det (fun d : C × (S → Prop) => B d.1 d.2 (fun s => K s d.1)) := fun d h => by
  rcases hB (d.1, d.2, fun s => K s d.1) h with h1 | ⟨o, h2, h3⟩
  · exact .inl fun d' => h1 (d'.1, d'.2, _)
  · cases o with
    | inl o => exact .inr ⟨.inl o, h2, fun d' q => h3 (d'.1, d'.2, _) q⟩
    | inr o =>
      cases o with
      | inl s' => exact .inr ⟨.inr s', h2, fun d' q => h3 (d'.1, d'.2, _) q⟩
      | inr s' =>
        rcases hK s' d.1 h2 with a | ⟨o, a, b⟩
        · exact .inl fun d' => h3 (d'.1, d'.2, fun s => K s d'.1) (a d'.1)
        · exact .inr ⟨.inl o, a, fun d' q => h3 (d'.1, d'.2, fun s => K s d'.1) (b d'.1 q)⟩
theorem Det.fst {E : Type} [Ctx E] {W : C → Prop} (h : Det W) : Det (fun d : C × E => W d.1) := fun d k => by
  rcases h d.1 k with a | ⟨o, a, b⟩
  · exact .inl fun d' => a d'.1
  · exact .inr ⟨.inl o, a, fun d' q => b d'.1 q⟩
/-- a while: its test tells by one outcome, too -/
theorem Det.while_ {T : S → (Bool → Prop) → Prop} {B : C → S → (S → Prop) → (S → Prop) → Prop} {K : S → C → Prop} (hT : ∀ s, Det (T s)) (hB : ∀ s, Det (fun d : C × ((S → Prop) × (S → Prop)) => B d.1 s d.2.1 d.2.2)) (hK : ∀ s, Det (K s)) (s : S) :
    Det (fun c => whileW (fun s t => T s t) (fun s nx bk => B c s nx bk) s (fun s => K s c)) := by
  have turn : ∀ u, Det (fun d : C × (S → Prop) => T u fun b => if b = true then B d.1 u d.2 (fun s => K s d.1) else K u d.1) := fun u =>
    Det.call (K := fun b (d : C × (S → Prop)) => if b = true then B d.1 u d.2 (fun s => K s d.1) else K u d.1) (hT u) fun b => Det.ite (Det.sub (B := fun c N k => B c u N k) (hB u) hK) (Det.fst (hK u))
  intro c ⟨I, ⟨m, hm⟩, hI⟩
  suffices go : ∀ m s, I m s → (∀ c', whileW (fun s t => T s t) (fun s nx bk => B c' s nx bk) s (fun s => K s c')) ∨ ∃ o : Ctx.Out C, Ctx.at_ o c ∧ ∀ c', Ctx.at_ o c' → whileW (fun s t => T s t) (fun s nx bk => B c' s nx bk) s (fun s => K s c') from go m s hm
  intro m
  induction m using Nat.strongRecOn with
  | ind m ih =>
    intro s hs
    have now : ∀ c', (∀ N : S → Prop, T s fun b => if b = true then B c' s N (fun s => K s c') else K s c') → whileW (fun s t => T s t) (fun s nx bk => B c' s nx bk) s (fun s => K s c') := fun c' h =>
      ⟨fun _ u => u = s, ⟨0, rfl⟩, fun n u e => by subst e; exact h _⟩
    rcases turn s (c, fun s' => ∃ m', m' < m ∧ I m' s') (hI m s hs) with h1 | ⟨o, h2, h3⟩
    · exact .inl fun c' => now c' fun N => h1 (c', N)
    · cases o with
      | inl o => exact .inr ⟨o, h2, fun c' q => now c' fun N => h3 (c', N) q⟩
      | inr s1 =>
        obtain ⟨m1, hlt, hs1⟩ := h2
        have step : ∀ c', whileW (fun s t => T s t) (fun s nx bk => B c' s nx bk) s1 (fun s => K s c') → whileW (fun s t => T s t) (fun s nx bk => B c' s nx bk) s (fun s => K s c') := fun c' ⟨J, ⟨n1, hn1⟩, hJ⟩ => by
          refine ⟨fun n u => J n u ∨ (u = s ∧ n = n1 + 1), ⟨n1 + 1, .inr ⟨rfl, rfl⟩⟩, fun n u hu => ?_⟩
          rcases hu with hu | ⟨rfl, rfl⟩
          · refine Det.mono (turn u) (c := (c', fun s' => ∃ m', m' < n ∧ J m' s')) (c' := (c', fun s' => ∃ m', m' < n ∧ (J m' s' ∨ (s' = s ∧ m' = n1 + 1)))) (fun o q => ?_) (hJ n u hu)
            cases o with
            | inl o => exact q
            | inr x => obtain ⟨m', a, b⟩ := q; exact ⟨m', a, .inl b⟩
          · exact h3 (c', fun s' => ∃ m', m' < n1 + 1 ∧ (J m' s' ∨ (s' = u ∧ m' = n1 + 1))) ⟨n1, Nat.lt_succ_self _, .inl hn1⟩
        rcases ih m1 hlt s1 hs1 with a | ⟨o, a, b⟩
        · exact .inl fun c' => step c' (a c')
        · exact .inr ⟨o, a, fun c' q => step c' (b c' q)⟩
/-- sorted keys -/
theorem sorted_unique {ys zs : List Nat} (p : ys.Perm zs) (hy : ys.Pairwise (· ≤ ·)) (hz : zs.Pairwise (· ≤ ·)) : ys = zs := p.eq_of_pairwise (fun a b _ _ => Nat.le_antisymm) hy hz
theorem Det.sorted {l : List Nat} {W : List Nat → C → Prop} (h : ∀ ys, Det (W ys)) : Det (fun c => ∀ ys : List Nat, ys.Perm l → ys.Pairwise (· ≤ ·) → W ys c) := by
  have ex : ∃ ys : List Nat, ys.Perm l ∧ ys.Pairwise (· ≤ ·) := ⟨l.mergeSort (fun a b => decide (a ≤ b)), List.mergeSort_perm _ _, by
    have := List.pairwise_mergeSort (le := fun a b => decide (a ≤ b)) (fun a b c h1 h2 => by simp at h1 h2 ⊢; omega) (fun a b => by simp; omega) l
    exact this.imp fun h => by simpa using h⟩
  obtain ⟨ys, hp, hs⟩ := ex
  intro c k
  have un : ∀ zs : List Nat, zs.Perm l → zs.Pairwise (· ≤ ·) → zs = ys := fun zs p s => sorted_unique (p.trans hp.symm) s hs
  rcases h ys c (k ys hp hs) with a | ⟨o, a, b⟩
  · exact .inl fun c' zs p s => by rw [un zs p s]; exact a c'
  · exact .inr ⟨o, a, fun c' q zs p s => by rw [un zs p s]; exact b c' q⟩
/-- what a reading tells, once it is known to tell something -/
theorem Det.tells {W : (α → Prop) → Prop} (h : Det W) {P : α → Prop} (hp : ∀ R : α → Prop, (∀ z, P z → R z) → W R) (hne : ¬ W fun _ => False) : ∃ z, P z ∧ ∀ R : α → Prop, R z → W R := by
  rcases h P (hp P fun _ q => q) with a | ⟨o, a, b⟩
  · exact absurd (a fun _ => False) hne
  · exact ⟨o, a, fun R q => b R q⟩
theorem Det.tells' {W : (α → Prop) → Prop} (h : Det W) {P : α → Prop} (hp : ∀ R : α → Prop, (∀ z, P z → R z) → W R) : (∀ R, W R) ∨ ∃ z, P z ∧ ∀ R : α → Prop, R z → W R := by
  rcases h P (hp P fun _ q => q) with a | ⟨o, a, b⟩
  · exact .inl a
  · exact .inr ⟨o, a, fun R q => b R q⟩
end
end Wk
/-! Fx: walks over one's own list, over lists in a region; new lists of new lists; is True. -/
namespace Wk
open PySem L2
section
variable {α β : Type} {e : Rep α} {b : Rep β} {K : PySem.W.Frag} {σ : L2.St} {F0 H0 F F' F2 H H' H2 G : Hp} {p q : Addr} {v u : V} {x : α} {xs : List α} {D : Ends} {S : Type} {g : TG} {tb : TS} {s0 : S} {k : S → Prop} {te : TE} {Q : VK}
/-- over one's own list of numbers, that is not changed the while -/
theorem w_forX {zs : List Nat} {body : Nat → S → (S → Prop) → (S → Prop) → Prop} (Inv : S → L2.St → Hp → Hp → Prop) (r : XL pN H0 F H p zs) (hW : forW zs s0 body k) (h0 : Inv s0 σ F H)
    (ex : ∀ s σ' F' H', Inv s σ' F' H' → XL pN H0 F' H' p zs)
    (turn : ∀ (N Bk : L2.St → Hp → Prop) x u s σ' F' H' (nx bk : S → Prop), Inv s σ' F' H' → x ∈ zs → pN.r F' u x → body x s nx bk → (∀ s' σ2 F2 H2, Inv s' σ2 F2 H2 → nx s' → N σ2 H2) → (∀ s' σ2 F2 H2, Inv s' σ2 F2 H2 → bk s' → Bk σ2 H2) →
      g u σ' H' fun σ2 H2 => tb { D with nx := N, ct := N, bk := Bk } σ2 H2)
    (done : ∀ s σ' F' H', Inv s σ' F' H' → k s → D.nx σ' H') :
    ∃ a, V.ref p = .ref a ∧ (∃ xs, SqL K H a xs) ∧ (fun J H1 => ∃ W : Nat → Nat → L2.St → Hp → Prop, (∃ m, W 0 m σ H1) ∧ ∀ i m σ H, W i m σ H →
      (J.stop i H ∧ D.nx σ H) ∨ (J.go i H ∧ ∃ N : L2.St → Hp → Prop, (∀ σ' H', N σ' H' → ∃ m', m' < m ∧ W (i + 1) m' σ' H') ∧ ∀ x H', J.yld i H x H' → g x σ H' fun σ2 H2 => tb { D with nx := N, ct := N, bk := D.nx } σ2 H2)) (Itl K a) H := by
  obtain ⟨vs, a, al⟩ := r.x
  have av := al.nats
  subst av
  have ent : ∀ s σ' F' H', Inv s σ' F' H' → H' p = some (.lst ((zs.map Int.ofNat).map V.int)) := fun s σ' F' H' h => by
    obtain ⟨vs', a', al'⟩ := (ex s σ' F' H' h).x
    have := al'.nats
    subst this; exact a'.h
  refine ⟨p, rfl, ⟨_, SqL.of a.h⟩, for_list (xs := (zs.map Int.ofNat).map V.int) (fun i σ' H' => ∃ s F', Inv s σ' F' H' ∧ forW (zs.drop i) s body k) ⟨s0, F, h0, hW⟩ (fun i σ' H' _ ⟨s, F', hI, _⟩ => SqL.of (ent _ _ _ _ hI)) ?_ ?_⟩
  · rintro i u σ' H' hu ⟨s, F', hI, hw⟩
    obtain ⟨x, hx, rx⟩ := al.got hu
    have e : zs.drop i = x :: zs.drop (i + 1) := by
      obtain ⟨h1, h2⟩ := List.getElem?_eq_some_iff.mp hx
      rw [← h2]; exact List.drop_eq_getElem_cons h1
    rw [e] at hw
    exact turn _ _ x u s σ' F' H' _ _ hI (List.mem_of_getElem? hx) rx hw (fun s' σ2 F2 H2 q n => ⟨s', F2, q, n⟩) (fun s' σ2 F2 H2 q n => done s' σ2 F2 H2 q n)
  · rintro σ' H' ⟨s, F', hI, hw⟩
    rw [List.drop_of_length_le (by rw [al.len]; exact Nat.le_refl _)] at hw
    exact done _ _ _ _ hI hw
/-- one's own list of new things is changed no more, and is new -/
theorem XL.frzNN (x : XL (pNew H0 e) H0 F H p xs) (w : Wf F0 H0 F H) : ∃ F', Wf F0 H0 F' H ∧ Ex F F' ∧ Fre H0 (pL e) F' (.ref p) xs ∧ Fz F F' p := by
  obtain ⟨vs, a, al⟩ := x.x
  refine ⟨_, w.freeze a, Ex.new a.n, ⟨p, vs, rfl, nw_at a.z upd_same, ?_⟩, fun q h z => by rw [upd_ne h]; exact z⟩
  exact all_cv (e := pNew H0 e) (e' := e) (G := F) (F := nw H0 (upd F p (.lst vs))) (fun {v x} h => e.mono (nw_ex (Ex.new a.n)) h) al
/-- a comprehension over a list in a region -/
theorem w_compRG {zs : List β} {tc : TT} {vs : List Nat} {bd : β → (Option α → Prop) → Prop} {kk : List α → Prop} (gr : RG H0 F H G) (r : (pL b).r G v zs) (w : Wf F0 H0 F H) (hn : zs.length < 1000000) (hW : compW zs bd kk)
    (turn : ∀ (Qy : V → Hp → Prop) (Qn : Hp → Prop) x u F1 H1 (R : Option α → Prop), Wf F H F1 H1 → x ∈ zs → b.r G u x → bd x R → (∀ y z F2 H2, Wf F1 H1 F2 H2 → e.r F2 y z → R (some z) → Qy y H2) → (∀ F2 H2, Wf F1 H1 F2 H2 → R none → Qn H2) →
      g u (wipe σ vs) H1 fun σ2 H2 => wipe σ2 vs = wipe σ vs ∧ tc σ2 H2 fun b H3 => if b = true then te σ2 H3 Qy else Qn H3)
    (done : ∀ p ys F' H', H p = none → Wf F H F' H' → XL e H0 F' H' p ys → kk ys → Q (.ref p) H') :
    kCpL K g tc te vs σ Q v H := by
  obtain ⟨p, ws, rfl, hp, a⟩ := r
  exact w_compC (b := pAt G b) (gr.h _ _ hp) (all_cv (e := b) (e' := pAt G b) (fun h => h) a) w hn hW turn done
/-- over a list of lists in a region, each of which grows by one -/
theorem w_forAG {zs : List (List Nat)} (Inv : L2.St → Hp → Hp → Prop) (gr : RG H0 F H G) (r : (pL (pL pN)).r G v zs) (h0 : Inv σ F H)
    (turn : ∀ (N Bk : L2.St → Hp → Prop) x u i σ' F' H', Inv σ' F' H' → RD H0 F' H' G i → i < zs.length → x ∈ zs → (pL pN).r G u x →
      (∀ σ2 F2 H2, Inv σ2 F2 H2 → RD H0 F2 H2 G (i + 1) → (∀ q o, H' q = some o → (∀ p, u = .ref p → q ≠ p) → H2 q = some o) → N σ2 H2) →
      g u σ' H' fun σ2 H2 => tb { D with nx := N, ct := N, bk := Bk } σ2 H2)
    (done : ∀ σ' F' H', Inv σ' F' H' → RD H0 F' H' G zs.length → D.nx σ' H') :
    ∃ a, v = .ref a ∧ (∃ xs, SqL K H a xs) ∧ (fun J H1 => ∃ W : Nat → Nat → L2.St → Hp → Prop, (∃ m, W 0 m σ H1) ∧ ∀ i m σ H, W i m σ H →
      (J.stop i H ∧ D.nx σ H) ∨ (J.go i H ∧ ∃ N : L2.St → Hp → Prop, (∀ σ' H', N σ' H' → ∃ m', m' < m ∧ W (i + 1) m' σ' H') ∧ ∀ x H', J.yld i H x H' → g x σ H' fun σ2 H2 => tb { D with nx := N, ct := N, bk := D.nx } σ2 H2)) (Itl K a) H := by
  obtain ⟨p, vs, rfl, hp, al⟩ := r
  refine ⟨p, rfl, ⟨_, SqL.of (gr.h _ _ hp)⟩, for_list (xs := vs) (fun i σ' H' => ∃ F', Inv σ' F' H' ∧ RD H0 F' H' G i ∧ H' p = some (.lst vs)) ⟨F, h0, gr.rd, gr.h _ _ hp⟩ (fun i σ' H' _ ⟨F', _, _, h⟩ => SqL.of h) ?_ ?_⟩
  · rintro i u σ' H' hu ⟨F', hI, rd, hl⟩
    obtain ⟨x, hx, rx⟩ := al.got hu
    have hi : i < zs.length := (List.getElem?_eq_some_iff.mp hx).1
    refine turn _ _ x u i σ' F' H' hI rd hi (List.mem_of_getElem? hx) rx fun σ2 F2 H2 h1 h2 h3 => ⟨F2, h1, h2, h3 p _ hl fun p' e z => ?_⟩
    subst e z
    obtain ⟨p2, ws, e2, hp2, al2⟩ := rx
    cases e2
    rw [hp] at hp2
    cases hp2
    obtain ⟨n, _, rn⟩ := al2.got hu
    have rn' : (V.ref p : V) = .int (n : Int) := rn
    cases rn'
  · rintro σ' H' ⟨F', hI, rd, hl⟩
    rw [al.len] at rd
    exact done _ _ _ hI rd
theorem v_notB {ta tb : TE} {x y : Bool} (ha : Val ta σ H (.bl x)) (hb : Val tb σ H (.bl y)) : Val (tOp rNotB ta tb) σ H (.bl (!decide (x = y))) := v2 ha hb fun Q k => ⟨x, y, rfl, rfl, k⟩
theorem v_isB {ta tb : TE} {x y : Bool} (ha : Val ta σ H (.bl x)) (hb : Val tb σ H (.bl y)) : Val (tOp rIsB ta tb) σ H (.bl (decide (x = y))) := v2 ha hb fun Q k => ⟨x, y, rfl, rfl, k⟩
theorem v_notB' {ta tb : TE} {x y : Bool} (ha : Val ta σ H (.bl x)) (hb : Val tb σ H (.bl y)) : Val (tOp rNotB ta tb) σ H (.bl (decide (¬ x = y))) := by
  have := v_notB ha hb
  rwa [← decide_not] at this
end
end Wk
namespace My
open PySem L2 Wk
def topS (i : Nat) : Stmt := PySem.Challenge.pw_sumwires_k83_whole_what_is_missed.main.body.getD i (.Pass ⟨0, 0, 0, 0⟩)
structure Cz where
  Machine : Addr
  Steps : Addr
  BadMask : Addr
  BadRow : Addr
  WireError : Addr
structure Tz (K : PySem.W.Frag) (mg : Str → Option Value) (cc : Cz) : Prop where
  cl_Machine : Cls K cc.Machine
  na_Machine_inputs : NoAttr K cc.Machine "inputs"
  na_Machine_nexts : NoAttr K cc.Machine "nexts"
  na_Machine_outs : NoAttr K cc.Machine "outs"
  cl_Steps : Cls K cc.Steps
  na_Steps_kept : NoAttr K cc.Steps "kept"
  na_Steps_found : NoAttr K cc.Steps "found"
  na_Steps_gone : NoAttr K cc.Steps "gone"
  xc_BadMask : XC K mg "BadMask" cc.BadMask
  xc_BadRow : XC K mg "BadRow" cc.BadRow
  xc_WireError : XC K mg "WireError" cc.WireError
  gl_MOST_INPUTS : ∃ u, mg "MOST_INPUTS" = some u ∧ RelV (.int 6) u
  gl_MOST_OUTS : ∃ u, mg "MOST_OUTS" = some u ∧ RelV (.int 6) u
  gl_MOST_STORES : ∃ u, mg "MOST_STORES" = some u ∧ RelV (.int 120) u
  gl_MOST_TURNS : ∃ u, mg "MOST_TURNS" = some u ∧ RelV (.int 20) u
  xm_BadRow_BadRow : PySem.W.exmOne K (.ref cc.BadRow) (.ref cc.BadRow) = some true
abbrev s_is_whole : Stmt := topS 7
/-! is_whole -/
def W_is_whole (thing1 : An) (R : Bool → Prop) : Prop := R (decide (((isA "int" thing1) = true) ∧ (¬ ((isA "bool" thing1) = true))))
def sp_is_whole (K : PySem.W.Frag) (cc : Cz) : Sp := fun vs H Q _ => ∃ (F : Hp) (v1 : V) (thing1 : An) (R : Bool → Prop), vs = [v1] ∧ Ex F H ∧ pA.r F v1 thing1 ∧ W_is_whole thing1 R ∧ ∀ z, R z → ∀ F' H', Wf F H F' H' → Q (.bl (z)) H'
abbrev N_is_whole : List Str := ["thing"]
theorem sc_is_whole : FnScope N_is_whole ["thing"] (defScope s_is_whole) := ⟨rfl, rfl, rfl, by decide +kernel, rfl, by decide +kernel, by decide +kernel⟩
theorem ok_is_whole {P : Program} {w0 : World} {K : PySem.W.Frag} {mg : Str → Option Value} {base : Heap} {f : Addr} {fd : FuncData} {cc : Cz} (T : Tz K mg cc) (FU : Fun K "is_whole" "is_whole" s_is_whole f fd) (hm : mg "is_whole" = some (.ref f)) (hb : Binds K fd ["thing"] []) (n_bool : mg "bool" = none) (n_int : mg "int" = none) (n_isinstance : mg "isinstance" = none) : Fn P w0 K mg base CX0 1 "is_whole" ["thing"] (sp_is_whole K cc) := by
  refine ⟨f, fd, FU.ok sc_is_whole (fun vs H Q E h => ?_) (fun cdv A outer s H0 vs Q E hr h => ?_), hm, FU.kp, hb⟩
  · obtain ⟨_, _, _, _, rfl, _⟩ := h; rfl
  · obtain ⟨F0, v1, thing1, R, rfl, wf, r1, hW, hQ⟩ := h
    have nd := sc_is_whole.nd
    refine ⟨(tRet (tAndV (tCB (rIsi K) (tCons (tVar 0) (tCons (tC (.ty "int")) tNil))) (tNotV (tCB (rIsi K) (tCons (tVar 0) (tCons (tC (.ty "bool")) tNil)))))), (pss_one (ps_ret (pe_and (pe_callB call_isi (by rfl) n_isinstance PyProof.Rows.boot_isinstance (pa_cons (pv 0) (pa_cons (pe_bltn (v := .ty "int") (by rfl) n_int PyProof.Rows.boot_int rfl) pa_nil))) (pe_one (pe_not (pe_callB call_isi (by rfl) n_isinstance PyProof.Rows.boot_isinstance (pa_cons (pv 0) (pa_cons (pe_bltn (v := .ty "bool") (by rfl) n_bool PyProof.Rows.boot_bool rfl) pa_nil)))))))), ?_⟩
    have w := Wf.id wf
    refine a_ret (v := (.bl (decide (((isA "int" thing1) = true) ∧ (¬ ((isA "bool" thing1) = true)))))) (vt_and (vb_of (v_isiA "int" (val_var rfl) r1 w.f) dec_tt) (fun _ => (vt_not (vb_of (v_isiA "bool" (val_var rfl) r1 w.f) dec_tt)))) ?_
    exact hQ _ hW _ _ w
abbrev s_is_mask : Stmt := topS 8
/-! is_mask -/
def W_is_mask (thing1 : An) (width1 : Nat) (R : Bool → Prop) : Prop := jn (fun kk => W_is_whole thing1 fun z1 => if z1 = true then (∃ y1 : Int, thing1 = An.i y1 ∧ (width1 < 100000000) ∧ kk (decide (((0 : Nat) : Int) ≤ y1 ∧ y1 < ((2 ^ width1 : Nat) : Int)))) else (kk false)) fun b1 => R b1
def sp_is_mask (K : PySem.W.Frag) (cc : Cz) : Sp := fun vs H Q _ => ∃ (F : Hp) (v1 : V) (thing1 : An) (width1 : Nat) (R : Bool → Prop), vs = [v1, (.int ((width1 : Nat) : Int))] ∧ Ex F H ∧ pA.r F v1 thing1 ∧ W_is_mask thing1 width1 R ∧ ∀ z, R z → ∀ F' H', Wf F H F' H' → Q (.bl (z)) H'
abbrev N_is_mask : List Str := ["thing", "width"]
theorem sc_is_mask : FnScope N_is_mask ["thing", "width"] (defScope s_is_mask) := ⟨rfl, rfl, rfl, by decide +kernel, rfl, by decide +kernel, by decide +kernel⟩
theorem ok_is_mask {P : Program} {w0 : World} {K : PySem.W.Frag} {mg : Str → Option Value} {base : Heap} {f : Addr} {fd : FuncData} {cc : Cz} (T : Tz K mg cc) (FU : Fun K "is_mask" "is_mask" s_is_mask f fd) (hm : mg "is_mask" = some (.ref f)) (hb : Binds K fd ["thing", "width"] []) (c_is_whole : Fn P w0 K mg base CX0 1 "is_whole" ["thing"] (sp_is_whole K cc)) : Fn P w0 K mg base CX0 2 "is_mask" ["thing", "width"] (sp_is_mask K cc) := by
  refine ⟨f, fd, FU.ok sc_is_mask (fun vs H Q E h => ?_) (fun cdv A outer s H0 vs Q E hr h => ?_), hm, FU.kp, hb⟩
  · obtain ⟨_, _, _, _, _, rfl, _⟩ := h; rfl
  · obtain ⟨F0, v1, thing1, width1, R, rfl, wf, r1, hW, hQ⟩ := h
    have nd := sc_is_mask.nd
    refine ⟨(tRet (tAndV (tCall (sp_is_whole K cc) [] E0 (tCons (tVar 0) tNil)) (tChain kLe kLt (tC (.int 0)) (tVar 0) (tOp kShl (tC (.int 1)) (tVar 1))))), (pss_one (ps_ret (pe_and (pe_fn c_is_whole (hr.mono (by decide)) rfl (pa_cons (pv 0) pa_nil)) (pe_one (pe_chain op_le op_lt pe_int (pv 0) (pe_op op_shlW pe_int (pv 1))))))), ?_⟩
    have w := Wf.id wf
    refine a_retE ?_
    refine e_jnV hW (fun b F' H' => b = b ∧ Wf F0 H0 F' H' ∧ Ex F0 F') ?_ ?_
    · intro N1 hN1 hW
      have gx1 : Ex F0 F0 := Ex.rfl'
      refine e_AndV ?_
      refine e_call ?_
      refine a_val (v := v1) (val_var rfl) ?_
      refine a_nil ?_
      refine ⟨F0, (v1), (thing1), _, rfl, w.f, r1, hW, ?_⟩
      intro z1 hW F1 H1 s1
      replace r1 := Rep.mono _ s1.g r1
      replace w := w.tr s1
      replace gx1 := Ex.tr gx1 s1.g
      refine bl_if ?_
      refine bb_if (fun hc1 => ?_) (fun hc1 => ?_)
      · have hW := ifP hW hc1
        obtain ⟨y1, hy1, hW⟩ := hW
        have hv1 := an_i r1 hy1
        obtain ⟨c1, hW⟩ := hW
        refine e_val (v := .bl (decide (((0 : Nat) : Int) ≤ y1 ∧ y1 < ((2 ^ width1 : Nat) : Int)))) (vb_of (v_chain (b1 := decide (((0 : Nat) : Int) ≤ y1)) (b2 := decide (y1 < ((2 ^ width1 : Nat) : Int))) (x := (.int ((0 : Nat) : Int))) (y := (.int (y1))) (z := (.int ((2 ^ width1 : Nat) : Int))) val_c (v_eq (val_var rfl) hv1) (vn_one val_c (val_var rfl) c1) (fun Q k => rv2 (c_le val_c val_c) k) (fun Q k => rv2 (c_lt val_c val_c) k)) dec_and) ?_
        exact hN1 (decide (((0 : Nat) : Int) ≤ y1 ∧ y1 < ((2 ^ width1 : Nat) : Int))) _ _ ⟨rfl, w, gx1⟩ hW
      · have hW := ifN hW hc1
        exact hN1 false _ _ ⟨rfl, w, gx1⟩ hW
    intro b1 F2 H2 hI1 hW
    obtain ⟨_, w, gx2⟩ := hI1
    have r1 := Rep.mono _ gx2 r1
    exact hQ _ hW _ _ w
abbrev s_even : Stmt := topS 9
/-! even -/
def W_even (number1 : Nat) (R : Bool → Prop) : Prop := whileW (fun (many1, number2) T => T (decide (0 < number2))) (fun (many1, number2) nx1 bk1 => ∀ many2 : Nat, many2 = many1 ^^^ (number2 &&& 1) → ∀ number3 : Nat, number3 = number2 >>> 1 → nx1 (many2, number3)) (0, number1) fun (many1, number2) => R (decide (many1 = 0))
def sp_even (K : PySem.W.Frag) (cc : Cz) : Sp := fun vs H Q _ => ∃ (F : Hp) (number1 : Nat) (R : Bool → Prop), vs = [(.int ((number1 : Nat) : Int))] ∧ Ex F H ∧ W_even number1 R ∧ ∀ z, R z → ∀ F' H', Wf F H F' H' → Q (.bl (z)) H'
abbrev N_even : List Str := ["number", "many"]
theorem sc_even : FnScope N_even ["number"] (defScope s_even) := ⟨rfl, rfl, rfl, by decide +kernel, rfl, by decide +kernel, by decide +kernel⟩
theorem ok_even {P : Program} {w0 : World} {K : PySem.W.Frag} {mg : Str → Option Value} {base : Heap} {f : Addr} {fd : FuncData} {cc : Cz} (T : Tz K mg cc) (FU : Fun K "even" "even" s_even f fd) (hm : mg "even" = some (.ref f)) (hb : Binds K fd ["number"] []) : Fn P w0 K mg base CX0 1 "even" ["number"] (sp_even K cc) := by
  refine ⟨f, fd, FU.ok sc_even (fun vs H Q E h => ?_) (fun cdv A outer s H0 vs Q E hr h => ?_), hm, FU.kp, hb⟩
  · obtain ⟨_, _, _, rfl, _⟩ := h; rfl
  · obtain ⟨F0, number1, R, rfl, wf, hW, hQ⟩ := h
    have nd := sc_even.nd
    refine ⟨(tSeq (tAsg (tC (.int 0)) (gName 1)) (tSeq (tWhile (tTest (tOp kGt (tVar 0) (tC (.int 0)))) (tSeq (tAug 1 (tOp kAnd (tVar 0) (tC (.int 1))) kXor) (tAug 0 (tC (.int 1)) kShr))) (tRet (tOp L2.rEq (tVar 1) (tC (.int 0)))))), (pss_cons (ps_set (i := 1) nd rfl (Or.inl rfl) pe_int) (pss_cons (ps_while PassesOwn.never (pt_cmpR op_gt (pv 0) pe_int (nomark _)) (pss_cons (ps_aug (i := 1) nd rfl (Or.inl rfl) (pe_op op_and (pv 0) pe_int) iop_xor) (pss_one (ps_aug (i := 0) nd rfl (Or.inl rfl) pe_int iop_shr)))) (pss_one (ps_ret (pe_cmpR op_eq (pv 1) pe_int (nomark _)))))), ?_⟩
    have w := Wf.id wf
    refine q_sq fun N1 hN1 => ?_
    refine a_asg (v := (.int ((0 : Nat) : Int))) val_c ?_
    refine hN1 _ _ ?_
    refine q_sq fun N2 hN2 => ?_
    refine w_while (S := Nat × Nat) (fun s σ' F' H' => match s with | (many1, number2) => Wf F0 H0 F' H' ∧ Ex F0 F' ∧ σ' = [some (.int ((number2 : Nat) : Int)), some (.int ((many1 : Nat) : Int))]) hW ⟨w, Ex.rfl', rfl⟩ ?_ ?_ ?_
    · intro s1 σ' F1 H1 T1 Qc1 hI1 hW hT1
      obtain ⟨many1, number2⟩ := s1
      obtain ⟨w, gx1, rfl⟩ := hI1
      refine e_ans (b := decide (0 < number2)) (t_of (vb_dec (c_gt (val_var rfl) val_c) n_lt)) ?_
      exact hT1 _ _ _ ⟨w, gx1, rfl⟩ hW
    · intro N3 Bk1 s2 σ' F2 H2 nx1 bk1 hI2 hW hN3 hB1
      obtain ⟨many1, number2⟩ := s2
      obtain ⟨w, gx2, rfl⟩ := hI2
      refine q_sq fun N4 hN4 => ?_
      obtain ⟨many2, emany1⟩ : ∃ many2 : Nat, many2 = many1 ^^^ (number2 &&& 1) := ⟨_, rfl⟩
      replace hW := hW many2 emany1
      refine a_augV (x := (.int ((many1 : Nat) : Int))) (y := (.int ((number2 &&& 1 : Nat) : Int))) (z := (.int ((many2 : Nat) : Int))) rfl (vn_and (val_var rfl) val_c) (v_eq (vn_xor val_c val_c) (by rw [emany1])) ?_
      refine hN4 _ _ ?_
      obtain ⟨number3, enumber1⟩ : ∃ number3 : Nat, number3 = number2 >>> 1 := ⟨_, rfl⟩
      replace hW := hW number3 enumber1
      refine a_augV (x := (.int ((number2 : Nat) : Int))) (y := (.int ((1 : Nat) : Int))) (z := (.int ((number3 : Nat) : Int))) rfl val_c (v_eq (vn_shr val_c val_c) (by rw [enumber1])) ?_
      exact hN3 (many2, number3) _ _ _ ⟨w, gx2, rfl⟩ hW
    · intro s3 σ' F3 H3 hI3 hW
      obtain ⟨many1, number2⟩ := s3
      obtain ⟨w, gx3, rfl⟩ := hI3
      refine hN2 _ _ ?_
      refine a_ret (v := (.bl (decide (many1 = 0)))) (vb_dec (c_eqI (val_var rfl) val_c) n_eq) ?_
      exact hQ _ hW _ _ w
abbrev s_bits_of : Stmt := topS 10
/-! bits_of -/
def W_bits_of (mask1 : Nat) (R : (List Nat) → Prop) : Prop := whileW (fun (found1, mask2, place1) T => T (decide (0 < mask2))) (fun (found1, mask2, place1) nx1 bk1 => jn (fun kk => if (mask2 &&& 1) = 1 then ((found1.length < 1000000) ∧ kk (found1 ++ [place1])) else (kk found1)) fun found2 => ∀ mask3 : Nat, mask3 = mask2 >>> 1 → ∀ place2 : Nat, place2 = place1 + 1 → nx1 (found2, mask3, place2)) (([] : List Nat), mask1, 0) fun (found1, mask2, place1) => R found1
def sp_bits_of (K : PySem.W.Frag) (cc : Cz) : Sp := fun vs H Q _ => ∃ (F : Hp) (mask1 : Nat) (R : (List Nat) → Prop), vs = [(.int ((mask1 : Nat) : Int))] ∧ Ex F H ∧ W_bits_of mask1 R ∧ ∀ z, R z → ∀ p F' H', Wf F H F' H' → XL pN H F' H' p z → Q (.ref p) H'
abbrev N_bits_of : List Str := ["mask", "found", "place"]
theorem sc_bits_of : FnScope N_bits_of ["mask"] (defScope s_bits_of) := ⟨rfl, rfl, rfl, by decide +kernel, rfl, by decide +kernel, by decide +kernel⟩
theorem ok_bits_of {P : Program} {w0 : World} {K : PySem.W.Frag} {mg : Str → Option Value} {base : Heap} {f : Addr} {fd : FuncData} {cc : Cz} (T : Tz K mg cc) (FU : Fun K "bits_of" "bits_of" s_bits_of f fd) (hm : mg "bits_of" = some (.ref f)) (hb : Binds K fd ["mask"] []) : Fn P w0 K mg base CX0 1 "bits_of" ["mask"] (sp_bits_of K cc) := by
  refine ⟨f, fd, FU.ok sc_bits_of (fun vs H Q E h => ?_) (fun cdv A outer s H0 vs Q E hr h => ?_), hm, FU.kp, hb⟩
  · obtain ⟨_, _, _, rfl, _⟩ := h; rfl
  · obtain ⟨F0, mask1, R, rfl, wf, hW, hQ⟩ := h
    have nd := sc_bits_of.nd
    refine ⟨(tSeq (tAsg (tLst tNil) (gName 1)) (tSeq (tAsg (tC (.int 0)) (gName 2)) (tSeq (tWhile (tTest (tOp kGt (tVar 0) (tC (.int 0)))) (tSeq (tIfS (tTest (tOp L2.rEq (tOp kAnd (tVar 0) (tC (.int 1))) (tC (.int 1)))) (tDrop (tBM K "list" rAppend (tVar 1) (tCons (tVar 2) tNil))) tNext) (tSeq (tAug 0 (tC (.int 1)) kShr) (tAug 2 (tC (.int 1)) kAdd)))) (tRet (tVar 1))))), (pss_cons (ps_set (i := 1) nd rfl (Or.inl rfl) (pe_lst pa_nil)) (pss_cons (ps_set (i := 2) nd rfl (Or.inl rfl) pe_int) (pss_cons (ps_while PassesOwn.never (pt_cmpR op_gt (pv 0) pe_int (nomark _)) (pss_cons (ps_if (pt_cmpR op_eq (pe_op op_and (pv 0) pe_int) pe_int (nomark _)) (pss_one (ps_expr (pe_bm PySem.F.plainAttrs_list PySem.F.slot_list_append PySem.F.type_list_append mt_append (pv 1) (pa_cons (pv 2) pa_nil)))) pss_nil) (pss_cons (ps_aug (i := 0) nd rfl (Or.inl rfl) pe_int iop_shr) (pss_one (ps_aug (i := 2) nd rfl (Or.inl rfl) pe_int iop_add))))) (pss_one (ps_ret (pv 1)))))), ?_⟩
    have w := Wf.id wf
    refine q_sq fun N1 hN1 => ?_
    refine a_asgE ?_
    refine e_lst ?_
    refine a_nil ?_
    refine n_lstX (e := pN) (xs := []) (vs := []) (show All pN _ [] [] from trivial) (show 0 < 1000000 from by decide) w ?_
    intro p1 H1 hp1 s1 x1
    replace w := w.tr s1
    refine hN1 _ _ ?_
    refine q_sq fun N2 hN2 => ?_
    refine a_asg (v := (.int ((0 : Nat) : Int))) val_c ?_
    refine hN2 _ _ ?_
    refine q_sq fun N3 hN3 => ?_
    refine w_while (S := List Nat × Nat × Nat) (fun s σ' F' H' => match s with | (found1, mask2, place1) => Wf F0 H0 F' H' ∧ Ex F0 F' ∧ σ' = [some (.int ((mask2 : Nat) : Int)), some ((.ref p1)), some (.int ((place1 : Nat) : Int))] ∧ XL pN H0 F' H' p1 found1) hW ⟨w, Ex.rfl', rfl, x1⟩ ?_ ?_ ?_
    · intro s2 σ' F1 H2 T1 Qc1 hI1 hW hT1
      obtain ⟨found1, mask2, place1⟩ := s2
      obtain ⟨w, gx1, rfl, x2⟩ := hI1
      refine e_ans (b := decide (0 < mask2)) (t_of (vb_dec (c_gt (val_var rfl) val_c) n_lt)) ?_
      exact hT1 _ _ _ ⟨w, gx1, rfl, x2⟩ hW
    · intro N4 Bk1 s3 σ' F2 H3 nx1 bk1 hI2 hW hN4 hB1
      obtain ⟨found1, mask2, place1⟩ := s3
      obtain ⟨w, gx2, rfl, x2⟩ := hI2
      refine q_jn (S := List Nat) hW (fun found2 σ' F' H' => Wf F0 H0 F' H' ∧ Ex F2 F' ∧ σ' = [some (.int ((mask2 : Nat) : Int)), some ((.ref p1)), some (.int ((place1 : Nat) : Int))] ∧ XL pN H0 F' H' p1 found2) ?_ ?_
      · intro N5 hN5 hW
        have gx3 : Ex F2 F2 := Ex.rfl'
        refine a_ifE ?_
        refine e_ans (b := decide ((mask2 &&& 1) = 1)) (t_of (vb_dec (c_eqI (vn_and (val_var rfl) val_c) val_c) n_eq)) ?_
        refine b_if (fun hc1 => ?_) (fun hc1 => ?_)
        · have hW := ifP hW hc1
          refine a_dropE ?_
          refine m_list x2 (val_var rfl) ?_
          refine a_val (v := (.int ((place1 : Nat) : Int))) (val_var rfl) ?_
          refine a_nil ?_
          obtain ⟨c1, hW⟩ := hW
          refine a_app x2 w c1 rfl (fun H4 w1 x4 kp1 => ?_)
          replace w := w1
          exact hN5 (found1 ++ [place1]) _ _ _ ⟨w, gx3, rfl, x4⟩ hW
        · have hW := ifN hW hc1
          exact hN5 found1 _ _ _ ⟨w, gx3, rfl, x2⟩ hW
      · intro found2 σ' F3 H5 hI3 hW
        obtain ⟨w, gx4, rfl, x3⟩ := hI3
        have gx2 := Ex.tr gx2 gx4
        refine q_sq fun N6 hN6 => ?_
        obtain ⟨mask3, emask1⟩ : ∃ mask3 : Nat, mask3 = mask2 >>> 1 := ⟨_, rfl⟩
        replace hW := hW mask3 emask1
        refine a_augV (x := (.int ((mask2 : Nat) : Int))) (y := (.int ((1 : Nat) : Int))) (z := (.int ((mask3 : Nat) : Int))) rfl val_c (v_eq (vn_shr val_c val_c) (by rw [emask1])) ?_
        refine hN6 _ _ ?_
        obtain ⟨place2, eplace1⟩ : ∃ place2 : Nat, place2 = place1 + 1 := ⟨_, rfl⟩
        replace hW := hW place2 eplace1
        refine a_augV (x := (.int ((place1 : Nat) : Int))) (y := (.int ((1 : Nat) : Int))) (z := (.int ((place2 : Nat) : Int))) rfl val_c (v_eq (vn_add val_c val_c) (by rw [eplace1])) ?_
        exact hN4 (found2, mask3, place2) _ _ _ ⟨w, gx2, rfl, x3⟩ hW
    · intro s5 σ' F4 H6 hI4 hW
      obtain ⟨found1, mask2, place1⟩ := s5
      obtain ⟨w, gx5, rfl, x2⟩ := hI4
      refine hN3 _ _ ?_
      refine a_ret (v := (.ref p1)) (val_var rfl) ?_
      exact hQ _ hW _ _ _ w x2
abbrev s_Steps_lowered : Stmt := inClass (topS 12) 1
/-! Steps.lowered -/
def W_Steps_lowered (kept1 : List (Nat × (Nat × Nat))) (row1 : Nat) (places1 : Nat) (R : (Nat × Nat) → Prop) : Prop := whileW (fun (row2, places2) T => T (decide (hasT kept1 (bits row2) = true))) (fun (row2, places2) nx1 bk1 => ∃ x3, valT kept1 (bits row2) = some x3 ∧ ∀ row3 : Nat, row3 = row2 ^^^ x3.1 → ∀ places3 : Nat, places3 = places2 ^^^ x3.2 → nx1 (row3, places3)) (row1, places1) fun (row2, places2) => R (row2, places2)
def sp_Steps_lowered (K : PySem.W.Frag) (cc : Cz) : Sp := fun vs H Q _ => ∃ (F : Hp) (ob dx d : Addr) (fs : List (Str × V)) (kept1 : List (Nat × (Nat × Nat))) (row1 : Nat) (places1 : Nat) (R : (Nat × Nat) → Prop), vs = [(.ref ob), (.int ((row1 : Nat) : Int)), (.int ((places1 : Nat) : Int))] ∧ Ex F H ∧ H ob = some (.ins cc.Steps dx fs) ∧ fs.lookup ("kept" : Str) = some (V.ref d) ∧ BD (pT2 pN pN) F H d kept1 ∧ W_Steps_lowered kept1 row1 places1 R ∧ ∀ z, R z → ∀ v F' H', Wf F H F' H' → (pT2 pN pN).r F' v z → Q v H'
abbrev N_Steps_lowered : List Str := ["self", "row", "places", "other", "more"]
theorem sc_Steps_lowered : FnScope N_Steps_lowered ["self", "row", "places"] (defScope s_Steps_lowered) := ⟨rfl, rfl, rfl, by decide +kernel, rfl, by decide +kernel, by decide +kernel⟩
theorem ok_Steps_lowered {P : Program} {w0 : World} {K : PySem.W.Frag} {mg : Str → Option Value} {base : Heap} {f : Addr} {fd : FuncData} {cc : Cz} (T : Tz K mg cc) (FU : Fun K "lowered" "Steps.lowered" s_Steps_lowered f fd) (hm : Meth K cc.Steps "lowered" f) (hb : Binds K fd ["self", "row", "places"] []) : Md P w0 K mg base CX0 1 cc.Steps "lowered" ["self", "row", "places"] (sp_Steps_lowered K cc) := by
  refine ⟨f, fd, FU.ok sc_Steps_lowered (fun vs H Q E h => ?_) (fun cdv A outer s H0 vs Q E hr h => ?_), hm, hb⟩
  · obtain ⟨_, _, _, _, _, _, _, _, _, rfl, _⟩ := h; rfl
  · obtain ⟨F0, ob, dx, d, fs, kept1, row1, places1, R, rfl, wf, hob, lk_kept, bd, hW, hQ⟩ := h
    have nd := sc_Steps_lowered.nd
    refine ⟨(tSeq (tWhile (tB (tDIn (tBits (tVar 1)) (tFld K (tVar 0) "kept"))) (tSeq (tAsg (tDGet (tFld K (tVar 0) "kept") (tBits (tVar 1))) (gTup K 2 (gCons (gName 3) (gCons (gName 4) gNil)))) (tSeq (tAug 1 (tVar 3) kXor) (tAug 2 (tVar 4) kXor)))) (tRet (tTup (tCons (tVar 1) (tCons (tVar 2) tNil))))), (pss_cons (ps_while PassesOwn.never (pt_cmp (pc_din (hu_of hr) (pe_bits (pv 1)) (pe_fld (pv 0) rfl))) (pss_cons (ps_asg (pe_dget (hu_of hr) (pe_fld (pv 0) rfl) (pe_bits (pv 1)) (fun _ _ => rfl)) (pg_tup rfl (pgs_cons (pg_name (i := 3) nd rfl (Or.inl rfl)) (pgs_cons (pg_name (i := 4) nd rfl (Or.inl rfl)) pgs_nil)) (by rfl))) (pss_cons (ps_aug (i := 1) nd rfl (Or.inl rfl) (pv 3) iop_xor) (pss_one (ps_aug (i := 2) nd rfl (Or.inl rfl) (pv 4) iop_xor))))) (pss_one (ps_ret (pe_tup (pa_cons (pv 1) (pa_cons (pv 2) pa_nil)))))), ?_⟩
    have bo : BO cc.Steps F0 H0 ob dx fs := ⟨hob⟩
    have w := Wf.id wf
    refine q_sq fun N1 hN1 => ?_
    refine w_while (S := Nat × Nat) (fun s σ' F' H' => match s with | (row2, places2) => ∃ (o1 : Option V) (o2 : Option V), Wf F0 H0 F' H' ∧ Ex F0 F' ∧ σ' = [some (.ref ob), some (.int ((row2 : Nat) : Int)), some (.int ((places2 : Nat) : Int)), o1, o2] ∧ BO cc.Steps F' H' ob dx fs ∧ BD (pT2 pN pN) F' H' d kept1) hW ⟨_, _, w, Ex.rfl', rfl, bo, bd⟩ ?_ ?_ ?_
    · intro s1 σ' F1 H1 T1 Qc1 hI1 hW hT1
      obtain ⟨row2, places2⟩ := s1
      obtain ⟨o1, o2, w, gx1, rfl, x1, x2⟩ := hI1
      refine e_ans (b := decide (hasT kept1 (bits row2) = true)) (t_ofB (vb_of (in_BD (j := bits row2) x2 (vn_bitl (val_var rfl)) (fl_B (na := T.na_Steps_kept) T.cl_Steps x1 lk_kept (val_var rfl))) dec_tt)) ?_
      exact hT1 _ _ _ ⟨_, _, w, gx1, rfl, x1, x2⟩ hW
    · intro N2 Bk1 s2 σ' F2 H2 nx1 bk1 hI2 hW hN2 hB1
      obtain ⟨row2, places2⟩ := s2
      obtain ⟨o1, o2, w, gx2, rfl, x1, x2⟩ := hI2
      refine q_sq fun N3 hN3 => ?_
      refine a_asgG ?_
      obtain ⟨x3, hx1, hW⟩ := hW
      obtain ⟨v1, r1, ix1⟩ := ix_BD x2 hx1
      refine e_val (v := v1) (ix1 (fl_B (na := T.na_Steps_kept) T.cl_Steps x1 lk_kept (val_var rfl)) (vn_bitl (val_var rfl))) ?_
      obtain ⟨p1, u1, u2, rfl, h1, rfl, rfl⟩ := r1
      refine ⟨p1, _, rfl, SqT.of (w.f _ _ h1), rfl, _, _, rfl, _, _, rfl, rfl, ?_⟩
      refine hN3 _ _ ?_
      refine q_sq fun N4 hN4 => ?_
      obtain ⟨row3, erow1⟩ : ∃ row3 : Nat, row3 = row2 ^^^ x3.1 := ⟨_, rfl⟩
      replace hW := hW row3 erow1
      refine a_augV (x := (.int ((row2 : Nat) : Int))) (y := (.int ((x3.1 : Nat) : Int))) (z := (.int ((row3 : Nat) : Int))) rfl (val_var rfl) (v_eq (vn_xor val_c val_c) (by rw [erow1])) ?_
      refine hN4 _ _ ?_
      obtain ⟨places3, eplaces1⟩ : ∃ places3 : Nat, places3 = places2 ^^^ x3.2 := ⟨_, rfl⟩
      replace hW := hW places3 eplaces1
      refine a_augV (x := (.int ((places2 : Nat) : Int))) (y := (.int ((x3.2 : Nat) : Int))) (z := (.int ((places3 : Nat) : Int))) rfl (val_var rfl) (v_eq (vn_xor val_c val_c) (by rw [eplaces1])) ?_
      exact hN2 (row3, places3) _ _ _ ⟨_, _, w, gx2, rfl, x1, x2⟩ hW
    · intro s3 σ' F3 H3 hI3 hW
      obtain ⟨row2, places2⟩ := s3
      obtain ⟨o1, o2, w, gx3, rfl, x1, x2⟩ := hI3
      refine hN1 _ _ ?_
      refine a_retE ?_
      refine e_tup ?_
      refine a_val (v := (.int ((row2 : Nat) : Int))) (val_var rfl) ?_
      refine a_val (v := (.int ((places2 : Nat) : Int))) (val_var rfl) ?_
      refine a_nil ?_
      refine n_tup2 (e := pN) (f := pN) (x := row2) (y := places2) rfl rfl w ?_
      intro p2 F4 H4 s4 r2
      replace x1 := x1.step s4
      replace x2 := x2.step s4
      replace w := w.tr s4
      replace gx3 := Ex.tr gx3 s4.g
      exact hQ _ hW _ _ _ w r2
abbrev s_Steps_crossing : Stmt := inClass (topS 12) 2
/-! Steps.crossing -/
def W_Steps_crossing (self1 : List (Nat × (Nat × Nat)) × List Nat × List Nat) (bit1 : Nat) (R : Nat → Prop) : Prop := (bit1 < 100000000) ∧ ∀ mask1 : Nat, mask1 = 2 ^ bit1 → (self1.1.length < 1000000) ∧ ∀ ys1 : List Nat, ys1.Perm (self1.1.map (·.1)) → ys1.Pairwise (· ≤ ·) → forW ys1 mask1 (fun top1 mask2 nx1 bk1 => ∃ x2, valT self1.1 top1 = some x2 ∧ ∃ x3, valT self1.1 top1 = some x3 ∧ ∀ row1 : Nat, row1 = x3.1 → W_even (row1 &&& mask2) fun z1 => if z1 = true then (nx1 mask2) else ((1 ≤ top1) ∧ (top1 - 1 < 100000000) ∧ ∀ mask3 : Nat, mask3 = mask2 ^^^ (2 ^ (top1 - 1)) → nx1 mask3)) fun mask2 => R mask2
def sp_Steps_crossing (K : PySem.W.Frag) (cc : Cz) : Sp := fun vs H Q _ => ∃ (F : Hp) (v1 : V) (self1 : List (Nat × (Nat × Nat)) × List Nat × List Nat) (bit1 : Nat) (R : Nat → Prop), vs = [v1, (.int ((bit1 : Nat) : Int))] ∧ Ex F H ∧ (pO3 cc.Steps "kept" "found" "gone" (pD (κ := Nat) (pT2 pN pN)) (pL pN) (pL pN)).r F v1 self1 ∧ W_Steps_crossing self1 bit1 R ∧ ∀ z, R z → ∀ F' H', Wf F H F' H' → Q (.int ((z : Nat) : Int)) H'
abbrev N_Steps_crossing : List Str := ["self", "bit", "mask", "top", "row"]
theorem sc_Steps_crossing : FnScope N_Steps_crossing ["self", "bit"] (defScope s_Steps_crossing) := ⟨rfl, rfl, rfl, by decide +kernel, rfl, by decide +kernel, by decide +kernel⟩
theorem ok_Steps_crossing {P : Program} {w0 : World} {K : PySem.W.Frag} {mg : Str → Option Value} {base : Heap} {f : Addr} {fd : FuncData} {cc : Cz} (T : Tz K mg cc) (FU : Fun K "crossing" "Steps.crossing" s_Steps_crossing f fd) (hm : Meth K cc.Steps "crossing" f) (hb : Binds K fd ["self", "bit"] []) (c_even : Fn P w0 K mg base CX0 1 "even" ["number"] (sp_even K cc)) (n_sorted : mg "sorted" = none) : Md P w0 K mg base CX0 2 cc.Steps "crossing" ["self", "bit"] (sp_Steps_crossing K cc) := by
  refine ⟨f, fd, FU.ok sc_Steps_crossing (fun vs H Q E h => ?_) (fun cdv A outer s H0 vs Q E hr h => ?_), hm, hb⟩
  · obtain ⟨_, _, _, _, _, rfl, _⟩ := h; rfl
  · obtain ⟨F0, v1, self1, bit1, R, rfl, wf, r1, hW, hQ⟩ := h
    have nd := sc_Steps_crossing.nd
    refine ⟨(tSeq (tAsg (tOp kShl (tC (.int 1)) (tVar 1)) (gName 2)) (tSeq (tFor (iList K (tCB rSortedDX (tCons (tFld K (tVar 0) "kept") tNil))) (gName 3) (tSeq (tAsg (tOp (L2.rIxT K) (tDGet (tFld K (tVar 0) "kept") (tVar 3)) (tC (.int 0))) (gName 4)) (tIfS (tNot (tB (tCall (sp_even K cc) [] E0 (tCons (tOp kAnd (tVar 4) (tVar 2)) tNil)))) (tAug 2 (tOp kShl (tC (.int 1)) (tOp kSub (tVar 3) (tC (.int 1)))) kXor) tNext))) (tRet (tVar 2)))), (pss_cons (ps_set (i := 2) nd rfl (Or.inl rfl) (pe_op op_shlW pe_int (pv 1))) (pss_cons (ps_for PassesOwn.never rfl (pi_list (pe_callB (call_sortedDX rfl) (by rfl) n_sorted PyProof.Rows.boot_sorted (pa_cons (pe_fld (pv 0) rfl) pa_nil))) (pg_name (i := 3) nd rfl (Or.inl rfl)) (pss_cons (ps_set (i := 4) nd rfl (Or.inl rfl) (pe_ix ix_tup (pe_dget (hu_of hr) (pe_fld (pv 0) rfl) (pv 3) (fun _ _ => rfl)) pe_int (fun _ _ => rfl))) (pss_one (ps_if (pt_not (pt_val (pe_fn c_even (hr.mono (by decide)) rfl (pa_cons (pe_op op_and (pv 4) (pv 2)) pa_nil)))) (pss_one (ps_aug (i := 2) nd rfl (Or.inl rfl) (pe_op op_shlW pe_int (pe_op op_sub (pv 3) pe_int)) iop_xor)) pss_nil)))) (pss_one (ps_ret (pv 2))))), ?_⟩
    have w := Wf.id wf
    refine q_sq fun N1 hN1 => ?_
    obtain ⟨c1, hW⟩ := hW
    obtain ⟨mask1, emask1⟩ : ∃ mask1 : Nat, mask1 = 2 ^ bit1 := ⟨_, rfl⟩
    replace hW := hW mask1 emask1
    refine a_asg (v := (.int ((mask1 : Nat) : Int))) (v_eq (vn_one val_c (val_var rfl) c1) (by rw [emask1])) ?_
    refine hN1 _ _ ?_
    refine q_sq fun N2 hN2 => ?_
    refine f_LE ?_
    refine e_cb ?_
    obtain ⟨v2, r2, fl1⟩ := fl_31 (K := K) T.cl_Steps T.na_Steps_kept r1 w.f
    refine a_val (v := v2) (fl1 (val_var rfl)) ?_
    refine a_nil ?_
    obtain ⟨c2, hW⟩ := hW
    refine n_sortDX r2 w c2 ?_
    intro ys1 p1 H1 h1 h2 hp1 s1 x1
    replace hW := hW ys1 h1 h2
    replace r1 := Rep.mono _ s1.g r1
    replace r2 := Rep.mono _ s1.g r2
    replace w := w.tr s1
    obtain ⟨F1, w1, g1, r3, fz1⟩ := x1.frzE w
    replace r1 := Rep.mono _ g1 r1
    replace r2 := Rep.mono _ g1 r2
    replace w := w1
    refine w_forL (S := Nat) (fun mask2 σ' F' H' => ∃ (o1 : Option V) (o2 : Option V), Wf F0 H0 F' H' ∧ Ex F1 F' ∧ σ' = [some v1, some (.int ((bit1 : Nat) : Int)), some (.int ((mask2 : Nat) : Int)), o1, o2]) r3 hW ⟨_, _, w, Ex.rfl', rfl⟩ (fun s σ' F' H' hI => by obtain ⟨_, _, w', gx', _⟩ := hI; exact ⟨gx', w'.f⟩) w.f ?_ ?_
    · intro N3 Bk1 top1 u1 mask2 σ' F2 H2 nx1 bk1 hI1 hx1 ru1 hW hN3 hB1
      obtain ⟨o1, o2, w, gx1, rfl⟩ := hI1
      have r1 := Rep.mono _ gx1 r1
      have r2 := Rep.mono _ gx1 r2
      have r3 := Rep.mono _ gx1 r3
      obtain rfl : u1 = (.int ((top1 : Nat) : Int)) := ru1
      refine g_name ?_
      refine q_sq fun N4 hN4 => ?_
      obtain ⟨v3, r4, fl2⟩ := fl_31 (K := K) T.cl_Steps T.na_Steps_kept r1 w.f
      obtain ⟨x2, hx2, hW⟩ := hW
      obtain ⟨v4, r5, ix1⟩ := ix_D r4 w.f hx2
      obtain ⟨v5, r6, fl3⟩ := fl_31 (K := K) T.cl_Steps T.na_Steps_kept r1 w.f
      obtain ⟨x3, hx3, hW⟩ := hW
      obtain ⟨v6, r7, ix2⟩ := ix_D r6 w.f hx3
      obtain ⟨_, rfl, ix3⟩ := ix_2a (K := K) r7 w.f
      obtain ⟨row1, erow1⟩ : ∃ row1 : Nat, row1 = x3.1 := ⟨_, rfl⟩
      replace hW := hW row1 erow1
      refine a_asg (v := (.int ((row1 : Nat) : Int))) (v_eq (ix3 (ix2 (fl3 (val_var rfl)) (val_var rfl)) val_c) (by rw [erow1])) ?_
      refine hN4 _ _ ?_
      refine a_ifE ?_
      refine e_tNot ?_
      refine e_tB ?_
      refine e_call ?_
      refine a_val (v := (.int ((row1 &&& mask2 : Nat) : Int))) (vn_and (val_var rfl) (val_var rfl)) ?_
      refine a_nil ?_
      refine ⟨F2, (row1 &&& mask2), _, rfl, w.f, hW, ?_⟩
      intro z1 hW F3 H3 s3
      replace r1 := Rep.mono _ s3.g r1
      replace w := w.tr s3
      replace gx1 := Ex.tr gx1 s3.g
      refine bl_v ?_
      refine bb_ifn (fun hc1 => ?_) (fun hc1 => ?_)
      · have hW := ifP hW hc1
        exact hN3 mask2 _ _ _ ⟨_, _, w, gx1, rfl⟩ hW
      · have hW := ifN hW hc1
        obtain ⟨c3, hW⟩ := hW
        obtain ⟨c4, hW⟩ := hW
        obtain ⟨mask3, emask2⟩ : ∃ mask3 : Nat, mask3 = mask2 ^^^ (2 ^ (top1 - 1)) := ⟨_, rfl⟩
        replace hW := hW mask3 emask2
        refine a_augV (x := (.int ((mask2 : Nat) : Int))) (y := (.int ((2 ^ (top1 - 1) : Nat) : Int))) (z := (.int ((mask3 : Nat) : Int))) rfl (vn_one val_c (vn_sub (val_var rfl) val_c c3) c4) (v_eq (vn_xor val_c val_c) (by rw [emask2])) ?_
        exact hN3 mask3 _ _ _ ⟨_, _, w, gx1, rfl⟩ hW
    · intro mask2 σ' F4 H4 hI2 hW
      obtain ⟨o1, o2, w, gx2, rfl⟩ := hI2
      have r1 := Rep.mono _ gx2 r1
      have r2 := Rep.mono _ gx2 r2
      have r3 := Rep.mono _ gx2 r3
      refine hN2 _ _ ?_
      refine a_ret (v := (.int ((mask2 : Nat) : Int))) (val_var rfl) ?_
      exact hQ _ hW _ _ w
abbrev s_Steps___init__ : Stmt := inClass (topS 12) 0
/-! Steps.__init__ -/
def W_Steps___init__ (rows1 : List Nat) (R : (List (Nat × (Nat × Nat)) × List Nat × List Nat) → Prop) : Prop := forW (enumT rows1) (([] : List Nat), ([] : List (Nat × (Nat × Nat))), ([] : List Nat)) (fun it1 (self_gone1, self_kept1, self_found1) nx1 bk1 => (it1.1 < 100000000) ∧ W_Steps_lowered self_kept1 it1.2 (2 ^ it1.1) fun z1 => if z1.1 = 0 then ((self_gone1.length < 1000000) ∧ nx1 (self_gone1 ++ [z1.2], self_kept1, self_found1)) else ((self_kept1.length < 1000000) ∧ (self_found1.length < 1000000) ∧ nx1 (self_gone1, putT self_kept1 (bits z1.1) (z1.1, z1.2), self_found1 ++ [it1.1]))) fun (self_gone1, self_kept1, self_found1) => R (self_kept1, self_found1, self_gone1)
def sp_Steps___init__ (K : PySem.W.Frag) (cc : Cz) : Sp := fun vs H Q _ => ∃ (F : Hp) (ob dx : Addr) (v1 : V) (rows1 : List Nat) (R : (List (Nat × (Nat × Nat)) × List Nat × List Nat) → Prop), vs = [(.ref ob), v1] ∧ H ob = some (.ins cc.Steps dx []) ∧ F ob = none ∧ Ex F H ∧ (pL pN).r F v1 rows1 ∧ W_Steps___init__ rows1 R ∧ ∀ z, R z → ∀ F' H', Wf F (wo H ob) F' H' → (pO3 cc.Steps "kept" "found" "gone" (pD (κ := Nat) (pT2 pN pN)) (pL pN) (pL pN)).r F' (.ref ob) z → Q .non H'
abbrev N_Steps___init__ : List Str := ["self", "rows", "place", "row", "left", "places"]
theorem sc_Steps___init__ : FnScope N_Steps___init__ ["self", "rows"] (defScope s_Steps___init__) := ⟨rfl, rfl, rfl, by decide +kernel, rfl, by decide +kernel, by decide +kernel⟩
theorem ok_Steps___init__ {P : Program} {w0 : World} {K : PySem.W.Frag} {mg : Str → Option Value} {base : Heap} {f : Addr} {fd : FuncData} {cc : Cz} (T : Tz K mg cc) (FU : Fun K "__init__" "Steps.__init__" s_Steps___init__ f fd) (hm : Mk K cc.Steps f) (hg : mg "Steps" = some (.ref cc.Steps)) (hb : Binds K fd ["self", "rows"] []) (c_Steps_lowered : Md P w0 K mg base CX0 1 cc.Steps "lowered" ["self", "row", "places"] (sp_Steps_lowered K cc)) (n_enumerate : mg "enumerate" = none) : Nw P w0 K mg base CX0 2 cc.Steps "Steps" ["self", "rows"] (sp_Steps___init__ K cc) := by
  refine ⟨f, fd, FU.ok sc_Steps___init__ (fun vs H Q E h => ?_) (fun cdv A outer s H0 vs Q E hr h => ?_), hm, hg, hb⟩
  · obtain ⟨_, _, _, _, _, _, rfl, _⟩ := h; rfl
  · obtain ⟨F0, ob, dx, v1, rows1, R, rfl, hob, nob, wf, r1, hW, hQ⟩ := h
    have nd := sc_Steps___init__.nd
    refine ⟨(tSeq (sFld K (tVar 0) tDNewK "kept") (tSeq (sFld K (tVar 0) (tLst tNil) "found") (tSeq (sFld K (tVar 0) (tLst tNil) "gone") (tFor (iEnum K (tCons (tVar 1) tNil)) (gTup K 2 (gCons (gName 2) (gCons (gName 3) gNil))) (tSeq (tAsg (tMeth cc.Steps "lowered" (sp_Steps_lowered K cc) [] E0 (tVar 0) (tCons (tVar 3) (tCons (tOp kShl (tC (.int 1)) (tVar 2)) tNil))) (gTup K 2 (gCons (gName 4) (gCons (gName 5) gNil)))) (tIfS (tTest (tOp L2.rEq (tVar 4) (tC (.int 0)))) (tDrop (tBM K "list" rAppend (tFld K (tVar 0) "gone") (tCons (tVar 5) tNil))) (tSeq (sDPut (tFld K (tVar 0) "kept") (tBits (tVar 4)) (tTup (tCons (tVar 4) (tCons (tVar 5) tNil)))) (tDrop (tBM K "list" rAppend (tFld K (tVar 0) "found") (tCons (tVar 2) tNil)))))))))), (pss_cons (ps_fld (pv 0) pe_dnewK rfl) (pss_cons (ps_fld (pv 0) (pe_lst pa_nil) rfl) (pss_cons (ps_fld (pv 0) (pe_lst pa_nil) rfl) (pss_one (ps_for PassesOwn.never rfl (pi_enum (by rfl) n_enumerate (pa_cons (pv 1) pa_nil)) (pg_tup rfl (pgs_cons (pg_name (i := 2) nd rfl (Or.inl rfl)) (pgs_cons (pg_name (i := 3) nd rfl (Or.inl rfl)) pgs_nil)) (by rfl)) (pss_cons (ps_asg (pe_md c_Steps_lowered T.cl_Steps (hr.mono (by decide)) (pv 0) (pa_cons (pv 3) (pa_cons (pe_op op_shlW pe_int (pv 2)) pa_nil))) (pg_tup rfl (pgs_cons (pg_name (i := 4) nd rfl (Or.inl rfl)) (pgs_cons (pg_name (i := 5) nd rfl (Or.inl rfl)) pgs_nil)) (by rfl))) (pss_one (ps_if (pt_cmpR op_eq (pv 4) pe_int (nomark _)) (pss_one (ps_expr (pe_bm PySem.F.plainAttrs_list PySem.F.slot_list_append PySem.F.type_list_append mt_append (pe_fld (pv 0) rfl) (pa_cons (pv 5) pa_nil)))) (pss_cons (ps_dput (hu_of hr) (pe_fld (pv 0) rfl) (pe_bits (pv 4)) (pe_tup (pa_cons (pv 4) (pa_cons (pv 5) pa_nil))) rfl) (pss_one (ps_expr (pe_bm PySem.F.plainAttrs_list PySem.F.slot_list_append PySem.F.type_list_append mt_append (pe_fld (pv 0) rfl) (pa_cons (pv 2) pa_nil))))))))))))), ?_⟩
    have xs := Xc.start nob hob
    have w := Wf.start wf nob
    generalize hH0 : wo H0 ob = Hb at xs w hQ
    refine q_sq fun N1 hN1 => ?_
    refine e_fld ?_
    refine n_dict (κ := Nat) (e := (pT2 pN pN)) w ?_
    intro p1 H1 hp1 s1 x1
    have ne1 := xs.ne hp1
    replace r1 := Rep.mono _ s1.g r1
    replace xs := xs.step s1
    replace w := w.tr s1
    refine a_fld T.cl_Steps T.na_Steps_kept xs w (show 0 < 1000 from by decide) (val_var rfl) (fun H2 w1 x2 kp1 => ?_)
    replace x1 := x1.kept kp1 (Ne.symm ne1)
    replace w := w1
    replace x2 : Xc Hb F0 H2 ob (.ins cc.Steps dx [("kept", (.ref p1))]) := Xc.cast x2 rfl
    refine hN1 _ _ ?_
    refine q_sq fun N2 hN2 => ?_
    refine e_fld ?_
    refine e_lst ?_
    refine a_nil ?_
    refine n_lstX (e := pN) (xs := []) (vs := []) (show All pN _ [] [] from trivial) (show 0 < 1000000 from by decide) w ?_
    intro p2 H3 hp2 s2 x3
    have ne2 := x2.ne hp2
    have ne3 := x1.ne hp2
    replace r1 := Rep.mono _ s2.g r1
    replace x2 := x2.step s2
    replace x1 := x1.step s2
    replace w := w.tr s2
    refine a_fld T.cl_Steps T.na_Steps_found x2 w (show 1 < 1000 from by decide) (val_var rfl) (fun H4 w2 x4 kp2 => ?_)
    replace x1 := x1.kept kp2 (Ne.symm ne1)
    replace x3 := x3.kept kp2 (Ne.symm ne2)
    replace w := w2
    replace x4 : Xc Hb F0 H4 ob (.ins cc.Steps dx [("kept", (.ref p1)), ("found", (.ref p2))]) := Xc.cast x4 ((put_ne (by decide +kernel)).trans (congrArg _ rfl))
    refine hN2 _ _ ?_
    refine q_sq fun N3 hN3 => ?_
    refine e_fld ?_
    refine e_lst ?_
    refine a_nil ?_
    refine n_lstX (e := pN) (xs := []) (vs := []) (show All pN _ [] [] from trivial) (show 0 < 1000000 from by decide) w ?_
    intro p3 H5 hp3 s3 x5
    have ne4 := x4.ne hp3
    have ne5 := x1.ne hp3
    have ne6 := x3.ne hp3
    replace r1 := Rep.mono _ s3.g r1
    replace x4 := x4.step s3
    replace x1 := x1.step s3
    replace x3 := x3.step s3
    replace w := w.tr s3
    refine a_fld T.cl_Steps T.na_Steps_gone x4 w (show 2 < 1000 from by decide) (val_var rfl) (fun H6 w3 x6 kp3 => ?_)
    replace x1 := x1.kept kp3 (Ne.symm ne1)
    replace x3 := x3.kept kp3 (Ne.symm ne2)
    replace x5 := x5.kept kp3 (Ne.symm ne4)
    replace w := w3
    replace x6 : Xc Hb F0 H6 ob (.ins cc.Steps dx [("kept", (.ref p1)), ("found", (.ref p2)), ("gone", (.ref p3))]) := Xc.cast x6 ((put_ne (by decide +kernel)).trans (congrArg _ ((put_ne (by decide +kernel)).trans (congrArg _ rfl))))
    refine hN3 _ _ ?_
    refine f_J ?_
    refine a_val (v := v1) (val_var rfl) ?_
    refine a_nil ?_
    refine src_enum r1 w.f (fun a1 T1 => ?_)
    refine w_forG (S := List Nat × (List (Nat × (Nat × Nat))) × List Nat) T1 (fun s σ' F' H' => match s with | (self_gone1, self_kept1, self_found1) => ∃ (o1 : Option V) (o2 : Option V) (o3 : Option V) (o4 : Option V), Wf F0 Hb F' H' ∧ Ex F0 F' ∧ σ' = [some (.ref ob), some v1, o1, o2, o3, o4] ∧ XL pN Hb F' H' p3 self_gone1 ∧ XD (pT2 pN pN) Hb F' H' p1 self_kept1 ∧ XL pN Hb F' H' p2 self_found1 ∧ Xc Hb F' H' ob (.ins cc.Steps dx [("kept", (.ref p1)), ("found", (.ref p2)), ("gone", (.ref p3))])) hW ⟨_, _, _, _, w, Ex.rfl', rfl, x5, x1, x3, x6⟩ (fun s σ' F' H' hI => by obtain ⟨self_gone1, self_kept1, self_found1⟩ := s; obtain ⟨_, _, _, _, w', gx', _⟩ := hI; exact ⟨gx', w'.f⟩) w.f ?_ ?_
    · intro N4 Bk1 it1 u1 s4 σ' F1 H7 F2 H8 nx1 bk1 hI1 hx1 s5 ru1 hW hN4 hB1
      obtain ⟨self_gone1, self_kept1, self_found1⟩ := s4
      obtain ⟨o1, o2, o3, o4, w, gx1, rfl, x7, x8, x9, x10⟩ := hI1
      have r1 := Rep.mono _ gx1 r1
      replace r1 := Rep.mono _ s5.g r1
      replace x10 := x10.step s5
      replace x8 := x8.step s5
      replace x9 := x9.step s5
      replace x7 := x7.step s5
      replace w := w.tr s5
      replace gx1 := Ex.tr gx1 s5.g
      obtain ⟨p4, u2, u3, rfl, h1, rfl, rfl⟩ := ru1
      refine ⟨p4, _, rfl, SqT.of (w.f _ _ h1), rfl, _, _, rfl, _, _, rfl, rfl, ?_⟩
      refine q_sq fun N5 hN5 => ?_
      refine a_asgG ?_
      refine e_md ?_
      refine e_val (v := (.ref ob)) (val_var rfl) ?_
      refine ⟨_, _, _, rfl, x10.h, ((lk_ne (by decide +kernel)).trans ((lk_ne (by decide +kernel)).trans ((lk_ne (by decide +kernel)).trans rfl))), ?_⟩
      refine a_val (v := (.int ((it1.2 : Nat) : Int))) (val_var rfl) ?_
      obtain ⟨c1, hW⟩ := hW
      refine a_val (v := (.int ((2 ^ it1.1 : Nat) : Int))) (vn_one val_c (val_var rfl) c1) ?_
      refine a_nil ?_
      refine ⟨F2, ob, dx, p1, _, (self_kept1), (it1.2), (2 ^ it1.1), _, rfl, w.f, x10.h, lk_eq, x8.bw, hW, ?_⟩
      intro z1 hW v2 F3 H9 s6 r2
      replace r1 := Rep.mono _ s6.g r1
      replace x10 := x10.step s6
      replace x8 := x8.step s6
      replace x9 := x9.step s6
      replace x7 := x7.step s6
      replace w := w.tr s6
      replace gx1 := Ex.tr gx1 s6.g
      obtain ⟨p5, u4, u5, rfl, h2, rfl, rfl⟩ := r2
      refine ⟨p5, _, rfl, SqT.of (w.f _ _ h2), rfl, _, _, rfl, _, _, rfl, rfl, ?_⟩
      refine hN5 _ _ ?_
      refine a_ifE ?_
      refine e_ans (b := decide (z1.1 = 0)) (t_of (vb_dec (c_eqI (val_var rfl) val_c) n_eq)) ?_
      refine b_if (fun hc1 => ?_) (fun hc1 => ?_)
      · have hW := ifP hW hc1
        refine a_dropE ?_
        refine m_list x7 (fl_X T.cl_Steps T.na_Steps_gone x10 ((lk_ne (by decide +kernel)).trans ((lk_ne (by decide +kernel)).trans lk_eq)) (val_var rfl)) ?_
        refine a_val (v := (.int ((z1.2 : Nat) : Int))) (val_var rfl) ?_
        refine a_nil ?_
        obtain ⟨c2, hW⟩ := hW
        refine a_app x7 w c2 rfl (fun H10 w4 x11 kp4 => ?_)
        replace x10 := x10.kept kp4 ne4
        replace x8 := x8.kept kp4 ne5
        replace x9 := x9.kept kp4 ne6
        replace w := w4
        exact hN4 (self_gone1 ++ [z1.2], self_kept1, self_found1) _ _ _ ⟨_, _, _, _, w, gx1, rfl, x11, x8, x9, x10⟩ hW
      · have hW := ifN hW hc1
        refine q_sq fun N6 hN6 => ?_
        refine e_dput ?_
        refine e_tup ?_
        refine a_val (v := (.int ((z1.1 : Nat) : Int))) (val_var rfl) ?_
        refine a_val (v := (.int ((z1.2 : Nat) : Int))) (val_var rfl) ?_
        refine a_nil ?_
        refine n_tup2 (e := pN) (f := pN) (x := z1.1) (y := z1.2) rfl rfl w ?_
        intro p6 F4 H11 s7 r3
        replace r1 := Rep.mono _ s7.g r1
        replace x10 := x10.step s7
        replace x8 := x8.step s7
        replace x9 := x9.step s7
        replace x7 := x7.step s7
        replace w := w.tr s7
        replace gx1 := Ex.tr gx1 s7.g
        obtain ⟨c3, hW⟩ := hW
        refine d_put (j := bits z1.1) x8 w c3 r3 (fl_X T.cl_Steps T.na_Steps_kept x10 lk_eq (val_var rfl)) (vn_bitl (val_var rfl)) (fun H12 w5 x12 kp5 => ?_)
        replace x10 := x10.kept kp5 ne1
        replace x9 := x9.kept kp5 (Ne.symm ne3)
        replace x7 := x7.kept kp5 (Ne.symm ne5)
        replace w := w5
        refine hN6 _ _ ?_
        refine a_dropE ?_
        refine m_list x9 (fl_X T.cl_Steps T.na_Steps_found x10 ((lk_ne (by decide +kernel)).trans lk_eq) (val_var rfl)) ?_
        refine a_val (v := (.int ((it1.1 : Nat) : Int))) (val_var rfl) ?_
        refine a_nil ?_
        obtain ⟨c4, hW⟩ := hW
        refine a_app x9 w c4 rfl (fun H13 w6 x13 kp6 => ?_)
        replace x10 := x10.kept kp6 ne2
        replace x12 := x12.kept kp6 ne3
        replace x7 := x7.kept kp6 (Ne.symm ne6)
        replace w := w6
        exact hN4 (self_gone1, putT self_kept1 (bits z1.1) (z1.1, z1.2), self_found1 ++ [it1.1]) _ _ _ ⟨_, _, _, _, w, gx1, rfl, x7, x12, x13, x10⟩ hW
    · intro s8 σ' F5 H14 hI2 hW
      obtain ⟨self_gone1, self_kept1, self_found1⟩ := s8
      obtain ⟨o1, o2, o3, o4, w, gx2, rfl, x7, x8, x9, x10⟩ := hI2
      have r1 := Rep.mono _ gx2 r1
      obtain ⟨F6, w7, g1, r4, fz1⟩ := x8.frzE w
      replace r1 := Rep.mono _ g1 r1
      replace x10 := x10.frzO fz1 ne1 g1
      replace x9 := x9.frzO fz1 (Ne.symm ne3) g1
      replace x7 := x7.frzO fz1 (Ne.symm ne5) g1
      replace w := w7
      replace gx2 := Ex.tr gx2 g1
      obtain ⟨F7, w8, g2, r5, fz2⟩ := x9.frzE w
      replace r1 := Rep.mono _ g2 r1
      replace x10 := x10.frzO fz2 ne2 g2
      replace r4 := Rep.mono _ g2 r4
      replace x7 := x7.frzO fz2 (Ne.symm ne6) g2
      replace w := w8
      replace gx2 := Ex.tr gx2 g2
      obtain ⟨F8, w9, g3, r6, fz3⟩ := x7.frzE w
      replace r1 := Rep.mono _ g3 r1
      replace x10 := x10.frzO fz3 ne4 g3
      replace r4 := Rep.mono _ g3 r4
      replace r5 := Rep.mono _ g3 r5
      replace w := w9
      replace gx2 := Ex.tr gx2 g3
      obtain ⟨F9, w10, g4, h3⟩ := x10.frzE w
      exact hQ _ hW _ _ w10 ⟨ob, dx, _, rfl, h3, _, _, _, rfl, (Rep.mono _ g4 r4), (Rep.mono _ g4 r5), (Rep.mono _ g4 r6)⟩
abbrev s_rank : Stmt := topS 13
/-! rank -/
def W_rank (rows1 : List Nat) (R : Nat → Prop) : Prop := W_Steps___init__ rows1 fun z1 => R z1.2.1.length
def sp_rank (K : PySem.W.Frag) (cc : Cz) : Sp := fun vs H Q _ => ∃ (F : Hp) (v1 : V) (rows1 : List Nat) (R : Nat → Prop), vs = [v1] ∧ Ex F H ∧ (pL pN).r F v1 rows1 ∧ W_rank rows1 R ∧ ∀ z, R z → ∀ F' H', Wf F H F' H' → Q (.int ((z : Nat) : Int)) H'
abbrev N_rank : List Str := ["rows"]
theorem sc_rank : FnScope N_rank ["rows"] (defScope s_rank) := ⟨rfl, rfl, rfl, by decide +kernel, rfl, by decide +kernel, by decide +kernel⟩
theorem ok_rank {P : Program} {w0 : World} {K : PySem.W.Frag} {mg : Str → Option Value} {base : Heap} {f : Addr} {fd : FuncData} {cc : Cz} (T : Tz K mg cc) (FU : Fun K "rank" "rank" s_rank f fd) (hm : mg "rank" = some (.ref f)) (hb : Binds K fd ["rows"] []) (c_Steps___init__ : Nw P w0 K mg base CX0 2 cc.Steps "Steps" ["self", "rows"] (sp_Steps___init__ K cc)) (n_len : mg "len" = none) : Fn P w0 K mg base CX0 4 "rank" ["rows"] (sp_rank K cc) := by
  refine ⟨f, fd, FU.ok sc_rank (fun vs H Q E h => ?_) (fun cdv A outer s H0 vs Q E hr h => ?_), hm, FU.kp, hb⟩
  · obtain ⟨_, _, _, _, rfl, _⟩ := h; rfl
  · obtain ⟨F0, v1, rows1, R, rfl, wf, r1, hW, hQ⟩ := h
    have nd := sc_rank.nd
    refine ⟨(tRet (tCB (Wk.rLen K) (tCons (tFld K (tMake cc.Steps (sp_Steps___init__ K cc) [] E0 (tCons (tVar 0) tNil)) "found") tNil))), (pss_one (ps_ret (pe_callB call_len_seq (by rfl) n_len PySem.boot_len (pa_cons (pe_fld (pe_nw c_Steps___init__ (hr.mono (by decide)) rfl (pa_cons (pv 0) pa_nil)) rfl) pa_nil)))), ?_⟩
    have w := Wf.id wf
    refine a_retE ?_
    refine e_cb ?_
    refine a_cons ?_
    refine e_tfld ?_
    refine e_nw ?_
    refine a_val (v := v1) (val_var rfl) ?_
    refine a_nil ?_
    intro ob1 dx1 nx1 nd1 ne1
    refine ⟨F0, ob1, dx1, (v1), (rows1), _, rfl, upd_same, (w.f.non nx1), (Ex.made w.f nx1 nd1), r1, hW, ?_⟩
    intro z1 hW F1 H1 s1 r2
    refine ⟨rfl, ?_⟩
    replace s1 := Wf.made nx1 nd1 s1
    replace r1 := Rep.mono _ s1.g r1
    replace w := w.tr s1
    obtain ⟨v2, r3, fl1⟩ := fl_32 (K := K) T.cl_Steps T.na_Steps_found r2 w.f
    refine fl_val (fl1 val_c) ?_
    refine a_nil ?_
    refine rcb1 (z := .int ((z1.2.1.length : Nat) : Int)) (len_L r3 w.f val_c) ?_
    exact hQ _ hW _ _ w
abbrev s_across : Stmt := topS 14
/-! across -/
def W_across (rows1 : List Nat) (width1 : Nat) (R : (List Nat) → Prop) : Prop := W_Steps___init__ rows1 fun z1 => (width1 < 1000000) ∧ compW (List.range width1) (fun bit1 kk => if ¬ (hasT z1.1 (bit1 + 1) = true) then (W_Steps_crossing z1 bit1 fun z2 => kk (some z2)) else (kk none)) fun ys1 => R ys1
def sp_across (K : PySem.W.Frag) (cc : Cz) : Sp := fun vs H Q _ => ∃ (F : Hp) (v1 : V) (rows1 : List Nat) (width1 : Nat) (R : (List Nat) → Prop), vs = [v1, (.int ((width1 : Nat) : Int))] ∧ Ex F H ∧ (pL pN).r F v1 rows1 ∧ W_across rows1 width1 R ∧ ∀ z, R z → ∀ p F' H', Wf F H F' H' → XL pN H F' H' p z → Q (.ref p) H'
abbrev N_across : List Str := ["rows", "width", "steps", "bit"]
theorem sc_across : FnScope N_across ["rows", "width"] (defScope s_across) := ⟨rfl, rfl, rfl, by decide +kernel, rfl, by decide +kernel, by decide +kernel⟩
theorem ok_across {P : Program} {w0 : World} {K : PySem.W.Frag} {mg : Str → Option Value} {base : Heap} {f : Addr} {fd : FuncData} {cc : Cz} (T : Tz K mg cc) (FU : Fun K "across" "across" s_across f fd) (hm : mg "across" = some (.ref f)) (hb : Binds K fd ["rows", "width"] []) (c_Steps___init__ : Nw P w0 K mg base CX0 2 cc.Steps "Steps" ["self", "rows"] (sp_Steps___init__ K cc)) (c_Steps_crossing : Md P w0 K mg base CX0 2 cc.Steps "crossing" ["self", "bit"] (sp_Steps_crossing K cc)) (n_range : mg "range" = none) : Fn P w0 K mg base CX0 4 "across" ["rows", "width"] (sp_across K cc) := by
  refine ⟨f, fd, FU.ok sc_across (fun vs H Q E h => ?_) (fun cdv A outer s H0 vs Q E hr h => ?_), hm, FU.kp, hb⟩
  · obtain ⟨_, _, _, _, _, rfl, _⟩ := h; rfl
  · obtain ⟨F0, v1, rows1, width1, R, rfl, wf, r1, hW, hQ⟩ := h
    have nd := sc_across.nd
    refine ⟨(tSeq (tAsg (tMake cc.Steps (sp_Steps___init__ K cc) [] E0 (tCons (tVar 0) tNil)) (gName 2)) (tRet (tLc (iRng1 (tCons (tVar 1) tNil)) (gName 3) (tB (tDNotIn (tOp kAdd (tVar 3) (tC (.int 1))) (tFld K (tVar 2) "kept"))) (tMeth cc.Steps "crossing" (sp_Steps_crossing K cc) [] E0 (tVar 2) (tCons (tVar 3) tNil)) [3]))), (pss_cons (ps_set (i := 2) nd rfl (Or.inr rfl) (pe_nw c_Steps___init__ (hr.mono (by decide)) rfl (pa_cons (pv 0) pa_nil))) (pss_one (ps_ret (pe_lc (own := [("bit", 3)]) (wi := (iRng1 (tCons (tVar 1) tNil))) (g := (gName 3)) (tt := (tB (tDNotIn (tOp kAdd (tVar 3) (tC (.int 1))) (tFld K (tVar 2) "kept")))) (te := (tMeth cc.Steps "crossing" (sp_Steps_crossing K cc) [] E0 (tVar 2) (tCons (tVar 3) tNil))) rfl nd (pi_range1 rfl n_range (pa_cons (pv 1) pa_nil)) (blkOk_by (N := N_across) (sc := defScope s_across) (by decide +kernel)) (fun _ _ _ _ _ => (pg_name (i := 3) nd rfl (Or.inl rfl))) (fun _ _ _ _ _ => (pts_one (pt_cmp (pc_dnotin (hu_of hr) (pe_op op_add (pv 3) pe_int) (pe_fld (pv 2) rfl))))) (fun _ _ _ _ _ => (pe_md c_Steps_crossing T.cl_Steps (hr.mono (by decide)) (pv 2) (pa_cons (pv 3) pa_nil))))))), ?_⟩
    have w := Wf.id wf
    refine q_sq fun N1 hN1 => ?_
    refine a_asgE ?_
    refine e_nw ?_
    refine a_val (v := v1) (val_var rfl) ?_
    refine a_nil ?_
    intro ob1 dx1 nx1 nd1 ne1
    refine ⟨F0, ob1, dx1, (v1), (rows1), _, rfl, upd_same, (w.f.non nx1), (Ex.made w.f nx1 nd1), r1, hW, ?_⟩
    intro z1 hW F1 H1 s1 r2
    refine ⟨rfl, ?_⟩
    replace s1 := Wf.made nx1 nd1 s1
    replace r1 := Rep.mono _ s1.g r1
    replace w := w.tr s1
    refine hN1 _ _ ?_
    refine a_retE ?_
    refine c_RE ?_
    refine e_val (v := (.int ((width1 : Nat) : Int))) (val_var rfl) ?_
    obtain ⟨c1, hW⟩ := hW
    refine w_compR (e := pN) w c1 hW ?_ ?_
    · intro Qy Qn bit1 F2 H2 R1 q1 hx1 hW hy1 hn1
      have r1 := Rep.mono _ q1.g r1
      have r2 := Rep.mono _ q1.g r2
      have w := Wf.id q1.f
      refine ⟨rfl, ?_⟩
      obtain ⟨v2, r3, fl1⟩ := fl_31 (K := K) T.cl_Steps T.na_Steps_kept r2 w.f
      refine e_ans (b := decide (¬ (hasT z1.1 (bit1 + 1) = true))) (t_ofB (vb_of (nin_D (j := bit1 + 1) r3 w.f (vn_add (val_var rfl) val_c) (fl1 (val_var rfl))) dec_nt)) ?_
      refine b_if (fun hc1 => ?_) (fun hc1 => ?_)
      · have hW := ifP hW hc1
        refine e_md ?_
        refine e_val (v := (.ref ob1)) (val_var rfl) ?_
        obtain ⟨p1, dx2, fs1, ev1, ho1, lm1⟩ := me_3 (m := "crossing") r2 w.f
        refine ⟨_, _, _, ev1, ho1, lm1, ?_⟩
        refine a_val (v := (.int ((bit1 : Nat) : Int))) (val_var rfl) ?_
        refine a_nil ?_
        refine ⟨F2, ((.ref ob1)), (z1), (bit1), _, rfl, w.f, r2, hW, ?_⟩
        intro z2 hW F3 H3 s2
        replace r1 := Rep.mono _ s2.g r1
        replace r2 := Rep.mono _ s2.g r2
        replace r3 := Rep.mono _ s2.g r3
        replace w := w.tr s2
        exact hy1 _ _ _ _ w rfl hW
      · have hW := ifN hW hc1
        exact hn1 _ _ w hW
    intro p2 ys1 F4 H4 hp1 s3 x1 hW
    replace r1 := Rep.mono _ s3.g r1
    replace r2 := Rep.mono _ s3.g r2
    replace w := w.tr s3
    exact hQ _ hW _ _ _ w x1
abbrev s_is_pairs : Stmt := topS 29
/-! is_pairs -/
def W_is_pairs (thing1 : List (Nat × Nat)) (most1 : Nat) (stores1 : Nat) (inputs1 : Nat) (R : Bool → Prop) : Prop := if most1 < thing1.length then (R false) else (forW thing1 () (fun pair1 _ nx1 bk1 => if 2 ≠ 2 then (R false) else (jn (fun kk => W_is_mask (An.i ((pair1.1 : Nat) : Int)) stores1 fun z1 => if z1 = true then (W_is_mask (An.i ((pair1.2 : Nat) : Int)) inputs1 fun z2 => kk (!z2)) else (kk true)) fun b1 => if b1 = true then (R false) else (nx1 ()))) fun _ => R true)
def sp_is_pairs (K : PySem.W.Frag) (cc : Cz) : Sp := fun vs H Q _ => ∃ (F : Hp) (v1 : V) (thing1 : List (Nat × Nat)) (most1 : Nat) (stores1 : Nat) (inputs1 : Nat) (R : Bool → Prop), vs = [v1, (.int ((most1 : Nat) : Int)), (.int ((stores1 : Nat) : Int)), (.int ((inputs1 : Nat) : Int))] ∧ Ex F H ∧ (pL (pT2 pN pN)).r F v1 thing1 ∧ W_is_pairs thing1 most1 stores1 inputs1 R ∧ ∀ z, R z → ∀ F' H', Wf F H F' H' → Q (.bl (z)) H'
abbrev N_is_pairs : List Str := ["thing", "most", "stores", "inputs", "pair"]
theorem sc_is_pairs : FnScope N_is_pairs ["thing", "most", "stores", "inputs"] (defScope s_is_pairs) := ⟨rfl, rfl, rfl, by decide +kernel, rfl, by decide +kernel, by decide +kernel⟩
theorem ok_is_pairs {P : Program} {w0 : World} {K : PySem.W.Frag} {mg : Str → Option Value} {base : Heap} {f : Addr} {fd : FuncData} {cc : Cz} (T : Tz K mg cc) (FU : Fun K "is_pairs" "is_pairs" s_is_pairs f fd) (hm : mg "is_pairs" = some (.ref f)) (hb : Binds K fd ["thing", "most", "stores", "inputs"] []) (c_is_mask : Fn P w0 K mg base CX0 2 "is_mask" ["thing", "width"] (sp_is_mask K cc)) (n_isinstance : mg "isinstance" = none) (n_len : mg "len" = none) (n_list : mg "list" = none) (n_tuple : mg "tuple" = none) : Fn P w0 K mg base CX0 3 "is_pairs" ["thing", "most", "stores", "inputs"] (sp_is_pairs K cc) := by
  refine ⟨f, fd, FU.ok sc_is_pairs (fun vs H Q E h => ?_) (fun cdv A outer s H0 vs Q E hr h => ?_), hm, FU.kp, hb⟩
  · obtain ⟨_, _, _, _, _, _, _, rfl, _⟩ := h; rfl
  · obtain ⟨F0, v1, thing1, most1, stores1, inputs1, R, rfl, wf, r1, hW, hQ⟩ := h
    have nd := sc_is_pairs.nd
    refine ⟨(tSeq (tIfS (tOr (tNot (tB (tCB (rIsi K) (tCons (tVar 0) (tCons (tC (.ty "list")) tNil))))) (tTest (tOp kGt (tCB (Wk.rLen K) (tCons (tVar 0) tNil)) (tVar 1)))) (tRet (tC (.bl false))) tNext) (tSeq (tFor (iList K (tVar 0)) (gName 4) (tSeq (tIfS (tOr (tNot (tB (tCB (rIsi K) (tCons (tVar 4) (tCons (tC (.ty "tuple")) tNil))))) (tTest (tOp L2.rNe (tCB (Wk.rLen K) (tCons (tVar 4) tNil)) (tC (.int 2))))) (tRet (tC (.bl false))) tNext) (tIfS (tOr (tNot (tB (tCall (sp_is_mask K cc) [] E0 (tCons (tOp (L2.rIxT K) (tVar 4) (tC (.int 0))) (tCons (tVar 2) tNil))))) (tNot (tB (tCall (sp_is_mask K cc) [] E0 (tCons (tOp (L2.rIxT K) (tVar 4) (tC (.int 1))) (tCons (tVar 3) tNil)))))) (tRet (tC (.bl false))) tNext))) (tRet (tC (.bl true))))), (pss_cons (ps_if (PW.pt (pw_or (pt_not (pt_val (pe_callB call_isi (by rfl) n_isinstance PyProof.Rows.boot_isinstance (pa_cons (pv 0) (pa_cons (pe_bltn (v := .ty "list") (by rfl) n_list PyProof.Rows.boot_list rfl) pa_nil))))) (pw_or1 (pt_cmpR op_gt (pe_callB call_len_seq (by rfl) n_len PySem.boot_len (pa_cons (pv 0) pa_nil)) (pv 1) (nomark _))))) (pss_one (ps_ret pe_bl)) pss_nil) (pss_cons (ps_for PassesOwn.never rfl (pi_list (pv 0)) (pg_name (i := 4) nd rfl (Or.inl rfl)) (pss_cons (ps_if (PW.pt (pw_or (pt_not (pt_val (pe_callB call_isi (by rfl) n_isinstance PyProof.Rows.boot_isinstance (pa_cons (pv 4) (pa_cons (pe_bltn (v := .ty "tuple") (by rfl) n_tuple PyProof.Rows.boot_tuple rfl) pa_nil))))) (pw_or1 (pt_cmpR op_ne (pe_callB call_len_seq (by rfl) n_len PySem.boot_len (pa_cons (pv 4) pa_nil)) pe_int (nomark _))))) (pss_one (ps_ret pe_bl)) pss_nil) (pss_one (ps_if (PW.pt (pw_or (pt_not (pt_val (pe_fn c_is_mask (hr.mono (by decide)) rfl (pa_cons (pe_ix ix_tup (pv 4) pe_int (fun _ _ => rfl)) (pa_cons (pv 2) pa_nil))))) (pw_or1 (pt_not (pt_val (pe_fn c_is_mask (hr.mono (by decide)) rfl (pa_cons (pe_ix ix_tup (pv 4) pe_int (fun _ _ => rfl)) (pa_cons (pv 3) pa_nil)))))))) (pss_one (ps_ret pe_bl)) pss_nil)))) (pss_one (ps_ret pe_bl)))), ?_⟩
    have w := Wf.id wf
    refine q_sq fun N1 hN1 => ?_
    refine a_ifE ?_
    refine e_ans (b := decide (most1 < thing1.length)) (t_iff (p := (¬ (True)) ∨ (most1 < thing1.length)) (q := most1 < thing1.length) (t_or (t_not (t_ofB (vb_of (v_isi (b := true) (val_var rfl) (ty_L r1 w.f) (by decide +kernel)) dec_T))) (fun _ => (t_of (vb_dec (c_gt (len_L r1 w.f (val_var rfl)) (val_var rfl)) n_lt)))) (by simp)) ?_
    refine b_if (fun hc1 => ?_) (fun hc1 => ?_)
    · have hW := ifP hW hc1
      refine a_ret (v := (.bl (false))) val_c ?_
      exact hQ _ hW _ _ w
    · have hW := ifN hW hc1
      refine hN1 _ _ ?_
      refine q_sq fun N2 hN2 => ?_
      refine f_LE ?_
      refine e_val (v := v1) (val_var rfl) ?_
      refine w_forL (S := Unit) (fun _ σ' F' H' => ∃ (o1 : Option V), Wf F0 H0 F' H' ∧ Ex F0 F' ∧ σ' = [some v1, some (.int ((most1 : Nat) : Int)), some (.int ((stores1 : Nat) : Int)), some (.int ((inputs1 : Nat) : Int)), o1]) r1 hW ⟨_, w, Ex.rfl', rfl⟩ (fun s σ' F' H' hI => by obtain ⟨_, w', gx', _⟩ := hI; exact ⟨gx', w'.f⟩) w.f ?_ ?_
      · intro N3 Bk1 pair1 u1 s1 σ' F1 H1 nx1 bk1 hI1 hx1 ru1 hW hN3 hB1
        obtain ⟨o1, w, gx1, rfl⟩ := hI1
        have r1 := Rep.mono _ gx1 r1
        refine g_name ?_
        refine q_sq fun N4 hN4 => ?_
        refine a_ifE ?_
        refine e_ans (b := decide (2 ≠ 2)) (t_iff (p := (¬ (True)) ∨ (2 ≠ 2)) (q := 2 ≠ 2) (t_or (t_not (t_ofB (vb_of (v_isi (b := true) (val_var rfl) (ty_T2 ru1 w.f) (by decide +kernel)) dec_T))) (fun _ => (t_of (vb_dec (c_neI (len_T2 ru1 w.f (val_var rfl)) val_c) n_ne)))) (by simp)) ?_
        refine b_if (fun hc2 => ?_) (fun hc2 => ?_)
        · have hW := ifP hW hc2
          refine a_ret (v := (.bl (false))) val_c ?_
          exact hQ _ hW _ _ w
        · have hW := ifN hW hc2
          refine hN4 _ _ ?_
          refine a_ifE ?_
          refine e_jnT hW (fun b F' H' => b = b ∧ Wf F0 H0 F' H' ∧ Ex F1 F') ?_ ?_
          · intro N5 hN5 hW
            have gx2 : Ex F1 F1 := Ex.rfl'
            refine e_tOr ?_
            refine e_tNot ?_
            refine e_tB ?_
            refine e_call ?_
            obtain ⟨_, rfl, ix1⟩ := ix_2a (K := K) ru1 w.f
            refine a_val (v := (.int ((pair1.1 : Nat) : Int))) (ix1 (val_var rfl) val_c) ?_
            refine a_val (v := (.int ((stores1 : Nat) : Int))) (val_var rfl) ?_
            refine a_nil ?_
            refine ⟨F1, ((.int ((pair1.1 : Nat) : Int))), ((An.i ((pair1.1 : Nat) : Int))), (stores1), _, rfl, w.f, (show pA.r _ (.int ((pair1.1 : Nat) : Int)) (An.i ((pair1.1 : Nat) : Int)) from rfl), hW, ?_⟩
            intro z1 hW F2 H2 s2
            replace r1 := Rep.mono _ s2.g r1
            replace ru1 := Rep.mono _ s2.g ru1
            replace w := w.tr s2
            replace gx2 := Ex.tr gx2 s2.g
            replace gx1 := Ex.tr gx1 s2.g
            refine bl_v ?_
            refine bb_ifn (fun hc3 => ?_) (fun hc3 => ?_)
            · have hW := ifP hW hc3
              refine e_tNot ?_
              refine e_tB ?_
              refine e_call ?_
              obtain ⟨_, rfl, ix2⟩ := ix_2b (K := K) ru1 w.f
              refine a_val (v := (.int ((pair1.2 : Nat) : Int))) (ix2 (val_var rfl) val_c) ?_
              refine a_val (v := (.int ((inputs1 : Nat) : Int))) (val_var rfl) ?_
              refine a_nil ?_
              refine ⟨F2, ((.int ((pair1.2 : Nat) : Int))), ((An.i ((pair1.2 : Nat) : Int))), (inputs1), _, rfl, w.f, (show pA.r _ (.int ((pair1.2 : Nat) : Int)) (An.i ((pair1.2 : Nat) : Int)) from rfl), hW, ?_⟩
              intro z2 hW F3 H3 s3
              replace r1 := Rep.mono _ s3.g r1
              replace ru1 := Rep.mono _ s3.g ru1
              replace w := w.tr s3
              replace gx2 := Ex.tr gx2 s3.g
              replace gx1 := Ex.tr gx1 s3.g
              refine bl_v ?_
              exact hN5 (!z2) _ _ ⟨rfl, w, gx2⟩ hW
            · have hW := ifN hW hc3
              exact hN5 true _ _ ⟨rfl, w, gx2⟩ hW
          intro b1 F4 H4 hI2 hW
          obtain ⟨_, w, gx3⟩ := hI2
          have r1 := Rep.mono _ gx3 r1
          have ru1 := Rep.mono _ gx3 ru1
          have gx1 := Ex.tr gx1 gx3
          refine bb_if (fun hc4 => ?_) (fun hc4 => ?_)
          · have hW := ifP hW hc4
            refine a_ret (v := (.bl (false))) val_c ?_
            exact hQ _ hW _ _ w
          · have hW := ifN hW hc4
            exact hN3 () _ _ _ ⟨_, w, gx1, rfl⟩ hW
      · intro s4 σ' F5 H5 hI3 hW
        obtain ⟨o1, w, gx4, rfl⟩ := hI3
        have r1 := Rep.mono _ gx4 r1
        refine hN2 _ _ ?_
        refine a_ret (v := (.bl (true))) val_c ?_
        exact hQ _ hW _ _ w
abbrev s_bit_of : Stmt := topS 30
/-! bit_of -/
def W_bit_of (pair1 : Nat × Nat) (state1 : Nat) (row1 : Nat) (R : Nat → Prop) : Prop := W_even (pair1.1 &&& state1) fun z1 => W_even (pair1.2 &&& row1) fun z2 => R (Bool.toNat (decide (z1 ≠ z2)))
def sp_bit_of (K : PySem.W.Frag) (cc : Cz) : Sp := fun vs H Q _ => ∃ (F : Hp) (v1 : V) (pair1 : Nat × Nat) (state1 : Nat) (row1 : Nat) (R : Nat → Prop), vs = [v1, (.int ((state1 : Nat) : Int)), (.int ((row1 : Nat) : Int))] ∧ Ex F H ∧ (pT2 pN pN).r F v1 pair1 ∧ W_bit_of pair1 state1 row1 R ∧ ∀ z, R z → ∀ F' H', Wf F H F' H' → Q (.int ((z : Nat) : Int)) H'
abbrev N_bit_of : List Str := ["pair", "state", "row"]
theorem sc_bit_of : FnScope N_bit_of ["pair", "state", "row"] (defScope s_bit_of) := ⟨rfl, rfl, rfl, by decide +kernel, rfl, by decide +kernel, by decide +kernel⟩
theorem ok_bit_of {P : Program} {w0 : World} {K : PySem.W.Frag} {mg : Str → Option Value} {base : Heap} {f : Addr} {fd : FuncData} {cc : Cz} (T : Tz K mg cc) (FU : Fun K "bit_of" "bit_of" s_bit_of f fd) (hm : mg "bit_of" = some (.ref f)) (hb : Binds K fd ["pair", "state", "row"] []) (c_even : Fn P w0 K mg base CX0 1 "even" ["number"] (sp_even K cc)) (n_int : mg "int" = none) : Fn P w0 K mg base CX0 2 "bit_of" ["pair", "state", "row"] (sp_bit_of K cc) := by
  refine ⟨f, fd, FU.ok sc_bit_of (fun vs H Q E h => ?_) (fun cdv A outer s H0 vs Q E hr h => ?_), hm, FU.kp, hb⟩
  · obtain ⟨_, _, _, _, _, _, rfl, _⟩ := h; rfl
  · obtain ⟨F0, v1, pair1, state1, row1, R, rfl, wf, r1, hW, hQ⟩ := h
    have nd := sc_bit_of.nd
    refine ⟨(tRet (tCB rInt1 (tCons (tOp L2.rNe (tCall (sp_even K cc) [] E0 (tCons (tOp kAnd (tOp (L2.rIxT K) (tVar 0) (tC (.int 0))) (tVar 1)) tNil)) (tCall (sp_even K cc) [] E0 (tCons (tOp kAnd (tOp (L2.rIxT K) (tVar 0) (tC (.int 1))) (tVar 2)) tNil))) tNil))), (pss_one (ps_ret (pe_callTy call_int1 (by rfl) n_int PyProof.Rows.boot_int (pa_cons (pe_cmpR op_ne (pe_fn c_even (hr.mono (by decide)) rfl (pa_cons (pe_op op_and (pe_ix ix_tup (pv 0) pe_int (fun _ _ => rfl)) (pv 1)) pa_nil)) (pe_fn c_even (hr.mono (by decide)) rfl (pa_cons (pe_op op_and (pe_ix ix_tup (pv 0) pe_int (fun _ _ => rfl)) (pv 2)) pa_nil)) (nomark _)) pa_nil)))), ?_⟩
    have w := Wf.id wf
    refine a_retE ?_
    refine e_cb ?_
    refine a_cons ?_
    refine e_op ?_
    refine e_call ?_
    obtain ⟨_, rfl, ix1⟩ := ix_2a (K := K) r1 w.f
    refine a_val (v := (.int ((pair1.1 &&& state1 : Nat) : Int))) (vn_and (ix1 (val_var rfl) val_c) (val_var rfl)) ?_
    refine a_nil ?_
    refine ⟨F0, (pair1.1 &&& state1), _, rfl, w.f, hW, ?_⟩
    intro z1 hW F1 H1 s1
    replace r1 := Rep.mono _ s1.g r1
    replace w := w.tr s1
    refine e_call ?_
    obtain ⟨_, rfl, ix2⟩ := ix_2b (K := K) r1 w.f
    refine a_val (v := (.int ((pair1.2 &&& row1 : Nat) : Int))) (vn_and (ix2 (val_var rfl) val_c) (val_var rfl)) ?_
    refine a_nil ?_
    refine ⟨F1, (pair1.2 &&& row1), _, rfl, w.f, hW, ?_⟩
    intro z2 hW F2 H2 s2
    replace r1 := Rep.mono _ s2.g r1
    replace w := w.tr s2
    refine rv2 (z := .bl (decide (z1 ≠ z2))) (c_neB val_c val_c) ?_
    refine a_nil ?_
    refine rcb1 (z := (.int ((Bool.toNat (decide (z1 ≠ z2)) : Nat) : Int))) (v_intB val_c) ?_
    exact hQ _ hW _ _ w
abbrev s_bits_by : Stmt := topS 31
/-! bits_by -/
def W_bits_by (pairs1 : List (Nat × Nat)) (state1 : Nat) (row1 : Nat) (R : Nat → Prop) : Prop := forW (enumT pairs1) 0 (fun it1 found1 nx1 bk1 => W_bit_of it1.2 state1 row1 fun z1 => (NShl z1 it1.1) ∧ ∀ found2 : Nat, found2 = found1 + (z1 <<< it1.1) → nx1 found2) fun found1 => R found1
def sp_bits_by (K : PySem.W.Frag) (cc : Cz) : Sp := fun vs H Q _ => ∃ (F : Hp) (v1 : V) (pairs1 : List (Nat × Nat)) (state1 : Nat) (row1 : Nat) (R : Nat → Prop), vs = [v1, (.int ((state1 : Nat) : Int)), (.int ((row1 : Nat) : Int))] ∧ Ex F H ∧ (pTL (pT2 pN pN)).r F v1 pairs1 ∧ W_bits_by pairs1 state1 row1 R ∧ ∀ z, R z → ∀ F' H', Wf F H F' H' → Q (.int ((z : Nat) : Int)) H'
abbrev N_bits_by : List Str := ["pairs", "state", "row", "found", "place", "pair"]
theorem sc_bits_by : FnScope N_bits_by ["pairs", "state", "row"] (defScope s_bits_by) := ⟨rfl, rfl, rfl, by decide +kernel, rfl, by decide +kernel, by decide +kernel⟩
theorem ok_bits_by {P : Program} {w0 : World} {K : PySem.W.Frag} {mg : Str → Option Value} {base : Heap} {f : Addr} {fd : FuncData} {cc : Cz} (T : Tz K mg cc) (FU : Fun K "bits_by" "bits_by" s_bits_by f fd) (hm : mg "bits_by" = some (.ref f)) (hb : Binds K fd ["pairs", "state", "row"] []) (c_bit_of : Fn P w0 K mg base CX0 2 "bit_of" ["pair", "state", "row"] (sp_bit_of K cc)) (n_enumerate : mg "enumerate" = none) : Fn P w0 K mg base CX0 3 "bits_by" ["pairs", "state", "row"] (sp_bits_by K cc) := by
  refine ⟨f, fd, FU.ok sc_bits_by (fun vs H Q E h => ?_) (fun cdv A outer s H0 vs Q E hr h => ?_), hm, FU.kp, hb⟩
  · obtain ⟨_, _, _, _, _, _, rfl, _⟩ := h; rfl
  · obtain ⟨F0, v1, pairs1, state1, row1, R, rfl, wf, r1, hW, hQ⟩ := h
    have nd := sc_bits_by.nd
    refine ⟨(tSeq (tAsg (tC (.int 0)) (gName 3)) (tSeq (tFor (iEnumT K (tCons (tVar 0) tNil)) (gTup K 2 (gCons (gName 4) (gCons (gName 5) gNil))) (tAug 3 (tOp kShl (tCall (sp_bit_of K cc) [] E0 (tCons (tVar 5) (tCons (tVar 1) (tCons (tVar 2) tNil)))) (tVar 4)) kAdd)) (tRet (tVar 3)))), (pss_cons (ps_set (i := 3) nd rfl (Or.inl rfl) pe_int) (pss_cons (ps_for PassesOwn.never rfl (pi_enumT (by rfl) n_enumerate (pa_cons (pv 0) pa_nil)) (pg_tup rfl (pgs_cons (pg_name (i := 4) nd rfl (Or.inl rfl)) (pgs_cons (pg_name (i := 5) nd rfl (Or.inl rfl)) pgs_nil)) (by rfl)) (pss_one (ps_aug (i := 3) nd rfl (Or.inl rfl) (pe_op op_shlW (pe_fn c_bit_of (hr.mono (by decide)) rfl (pa_cons (pv 5) (pa_cons (pv 1) (pa_cons (pv 2) pa_nil)))) (pv 4)) iop_add))) (pss_one (ps_ret (pv 3))))), ?_⟩
    have w := Wf.id wf
    refine q_sq fun N1 hN1 => ?_
    refine a_asg (v := (.int ((0 : Nat) : Int))) val_c ?_
    refine hN1 _ _ ?_
    refine q_sq fun N2 hN2 => ?_
    refine f_J ?_
    refine a_val (v := v1) (val_var rfl) ?_
    refine a_nil ?_
    refine src_enumT r1 w.f (fun a1 T1 => ?_)
    refine w_forG (S := Nat) T1 (fun found1 σ' F' H' => ∃ (o1 : Option V) (o2 : Option V), Wf F0 H0 F' H' ∧ Ex F0 F' ∧ σ' = [some v1, some (.int ((state1 : Nat) : Int)), some (.int ((row1 : Nat) : Int)), some (.int ((found1 : Nat) : Int)), o1, o2]) hW ⟨_, _, w, Ex.rfl', rfl⟩ (fun s σ' F' H' hI => by obtain ⟨_, _, w', gx', _⟩ := hI; exact ⟨gx', w'.f⟩) w.f ?_ ?_
    · intro N3 Bk1 it1 u1 found1 σ' F1 H1 F2 H2 nx1 bk1 hI1 hx1 s2 ru1 hW hN3 hB1
      obtain ⟨o1, o2, w, gx1, rfl⟩ := hI1
      have r1 := Rep.mono _ gx1 r1
      replace r1 := Rep.mono _ s2.g r1
      replace w := w.tr s2
      replace gx1 := Ex.tr gx1 s2.g
      obtain ⟨p1, u2, u3, rfl, h1, rfl, r2⟩ := ru1
      refine ⟨p1, _, rfl, SqT.of (w.f _ _ h1), rfl, _, _, rfl, _, _, rfl, rfl, ?_⟩
      refine a_augE (x := (.int ((found1 : Nat) : Int))) rfl ?_
      refine e_op ?_
      refine e_call ?_
      refine a_val (v := u3) (val_var rfl) ?_
      refine a_val (v := (.int ((state1 : Nat) : Int))) (val_var rfl) ?_
      refine a_val (v := (.int ((row1 : Nat) : Int))) (val_var rfl) ?_
      refine a_nil ?_
      refine ⟨F2, (u3), (it1.2), (state1), (row1), _, rfl, w.f, r2, hW, ?_⟩
      intro z1 hW F3 H3 s3
      replace r1 := Rep.mono _ s3.g r1
      replace r2 := Rep.mono _ s3.g r2
      replace w := w.tr s3
      replace gx1 := Ex.tr gx1 s3.g
      refine e_val (v := (.int ((it1.1 : Nat) : Int))) (val_var rfl) ?_
      obtain ⟨c1, hW⟩ := hW
      refine rv2 (z := (.int ((z1 <<< it1.1 : Nat) : Int))) (vn_shl val_c val_c c1) ?_
      obtain ⟨found2, efound1⟩ : ∃ found2 : Nat, found2 = found1 + (z1 <<< it1.1) := ⟨_, rfl⟩
      replace hW := hW found2 efound1
      refine rv2 (z := (.int ((found2 : Nat) : Int))) (v_eq (vn_add val_c val_c) (by rw [efound1])) ?_
      exact hN3 found2 _ _ _ ⟨_, _, w, gx1, rfl⟩ hW
    · intro found1 σ' F4 H4 hI2 hW
      obtain ⟨o1, o2, w, gx2, rfl⟩ := hI2
      have r1 := Rep.mono _ gx2 r1
      refine hN2 _ _ ?_
      refine a_ret (v := (.int ((found1 : Nat) : Int))) (val_var rfl) ?_
      exact hQ _ hW _ _ w
abbrev s_Machine___init__ : Stmt := inClass (topS 32) 0
/-! Machine.__init__ -/
def W_Machine___init__ (inputs1 : Nat) (nexts1 : List (Nat × Nat)) (outs1 : List (Nat × Nat)) (R : (Nat × List (Nat × Nat) × List (Nat × Nat)) → Prop) : Prop := jn (fun kk => W_is_whole (An.i ((inputs1 : Nat) : Int)) fun z1 => if z1 = true then (kk (decide (¬ (0 ≤ inputs1 ∧ inputs1 ≤ 6)))) else (kk true)) fun b1 => if b1 = true then (False) else (jn (fun kk => W_is_pairs nexts1 120 nexts1.length inputs1 fun z2 => if z2 = true then (W_is_pairs outs1 6 nexts1.length inputs1 fun z3 => kk (!z3)) else (kk true)) fun b2 => if b2 = true then (False) else (R (inputs1, nexts1, outs1)))
def sp_Machine___init__ (K : PySem.W.Frag) (cc : Cz) : Sp := fun vs H Q _ => ∃ (F : Hp) (ob dx : Addr) (inputs1 : Nat) (v1 : V) (nexts1 : List (Nat × Nat)) (v2 : V) (outs1 : List (Nat × Nat)) (R : (Nat × List (Nat × Nat) × List (Nat × Nat)) → Prop), vs = [(.ref ob), (.int ((inputs1 : Nat) : Int)), v1, v2] ∧ H ob = some (.ins cc.Machine dx []) ∧ F ob = none ∧ Ex F H ∧ (pL (pT2 pN pN)).r F v1 nexts1 ∧ (pL (pT2 pN pN)).r F v2 outs1 ∧ W_Machine___init__ inputs1 nexts1 outs1 R ∧ ∀ z, R z → ∀ F' H', Wf F (wo H ob) F' H' → (pO3 cc.Machine "inputs" "nexts" "outs" pN (pTL (pT2 pN pN)) (pTL (pT2 pN pN))).r F' (.ref ob) z → Q .non H'
abbrev N_Machine___init__ : List Str := ["self", "inputs", "nexts", "outs"]
theorem sc_Machine___init__ : FnScope N_Machine___init__ ["self", "inputs", "nexts", "outs"] (defScope s_Machine___init__) := ⟨rfl, rfl, rfl, by decide +kernel, rfl, by decide +kernel, by decide +kernel⟩
theorem ok_Machine___init__ {P : Program} {w0 : World} {K : PySem.W.Frag} {mg : Str → Option Value} {base : Heap} {f : Addr} {fd : FuncData} {cc : Cz} (T : Tz K mg cc) (FU : Fun K "__init__" "Machine.__init__" s_Machine___init__ f fd) (hm : Mk K cc.Machine f) (hg : mg "Machine" = some (.ref cc.Machine)) (hb : Binds K fd ["self", "inputs", "nexts", "outs"] []) (c_is_whole : Fn P w0 K mg base CX0 1 "is_whole" ["thing"] (sp_is_whole K cc)) (c_is_pairs : Fn P w0 K mg base CX0 3 "is_pairs" ["thing", "most", "stores", "inputs"] (sp_is_pairs K cc)) (n_isinstance : mg "isinstance" = none) (n_len : mg "len" = none) (n_list : mg "list" = none) (n_tuple : mg "tuple" = none) : Nw P w0 K mg base CX0 4 cc.Machine "Machine" ["self", "inputs", "nexts", "outs"] (sp_Machine___init__ K cc) := by
  refine ⟨f, fd, FU.ok sc_Machine___init__ (fun vs H Q E h => ?_) (fun cdv A outer s H0 vs Q E hr h => ?_), hm, hg, hb⟩
  · obtain ⟨_, _, _, _, _, _, _, _, _, rfl, _⟩ := h; rfl
  · obtain ⟨F0, ob, dx, inputs1, v1, nexts1, v2, outs1, R, rfl, hob, nob, wf, r1, r2, hW, hQ⟩ := h
    have nd := sc_Machine___init__.nd
    refine ⟨(tSeq (tIfS (tOr (tNot (tB (tCall (sp_is_whole K cc) [] E0 (tCons (tVar 1) tNil)))) (tOr (tNot (tTest (tChain kLe kLe (tC (.int 0)) (tVar 1) (tC (.int 6))))) (tNot (tB (tCB (rIsi K) (tCons (tVar 2) (tCons (tC (.ty "list")) tNil))))))) tNever tNext) (tSeq (tIfS (tOr (tNot (tB (tCall (sp_is_pairs K cc) [] E0 (tCons (tVar 2) (tCons (tC (.int 120)) (tCons (tCB (Wk.rLen K) (tCons (tVar 2) tNil)) (tCons (tVar 1) tNil))))))) (tNot (tB (tCall (sp_is_pairs K cc) [] E0 (tCons (tVar 3) (tCons (tC (.int 6)) (tCons (tCB (Wk.rLen K) (tCons (tVar 2) tNil)) (tCons (tVar 1) tNil)))))))) tNever tNext) (tSeq (sFld K (tVar 0) (tVar 1) "inputs") (tSeq (sFld K (tVar 0) (tCB (rTupOf K) (tCons (tVar 2) tNil)) "nexts") (sFld K (tVar 0) (tCB (rTupOf K) (tCons (tVar 3) tNil)) "outs"))))), (pss_cons (ps_if (PW.pt (pw_or (pt_not (pt_val (pe_fn c_is_whole (hr.mono (by decide)) rfl (pa_cons (pv 1) pa_nil)))) (pw_or (pt_not (pt_chain op_le op_le pe_int (pv 1) (pe_globE T.gl_MOST_INPUTS rfl))) (pw_or1 (pt_not (pt_val (pe_callB call_isi (by rfl) n_isinstance PyProof.Rows.boot_isinstance (pa_cons (pv 2) (pa_cons (pe_bltn (v := .ty "list") (by rfl) n_list PyProof.Rows.boot_list rfl) pa_nil))))))))) (pss_one ps_never) pss_nil) (pss_cons (ps_if (PW.pt (pw_or (pt_not (pt_val (pe_fn c_is_pairs (hr.mono (by decide)) rfl (pa_cons (pv 2) (pa_cons (pe_globE T.gl_MOST_STORES rfl) (pa_cons (pe_callB call_len_seq (by rfl) n_len PySem.boot_len (pa_cons (pv 2) pa_nil)) (pa_cons (pv 1) pa_nil))))))) (pw_or1 (pt_not (pt_val (pe_fn c_is_pairs (hr.mono (by decide)) rfl (pa_cons (pv 3) (pa_cons (pe_globE T.gl_MOST_OUTS rfl) (pa_cons (pe_callB call_len_seq (by rfl) n_len PySem.boot_len (pa_cons (pv 2) pa_nil)) (pa_cons (pv 1) pa_nil)))))))))) (pss_one ps_never) pss_nil) (pss_cons (ps_fld (pv 0) (pv 1) rfl) (pss_cons (ps_fld (pv 0) (pe_callTy call_tuple_of (by rfl) n_tuple PyProof.Rows.boot_tuple (pa_cons (pv 2) pa_nil)) rfl) (pss_one (ps_fld (pv 0) (pe_callTy call_tuple_of (by rfl) n_tuple PyProof.Rows.boot_tuple (pa_cons (pv 3) pa_nil)) rfl)))))), ?_⟩
    have xs := Xc.start nob hob
    have w := Wf.start wf nob
    generalize hH0 : wo H0 ob = Hb at xs w hQ
    refine q_sq fun N1 hN1 => ?_
    refine a_ifE ?_
    refine e_jnT hW (fun b F' H' => b = b ∧ Wf F0 Hb F' H' ∧ Ex F0 F' ∧ Xc Hb F' H' ob (.ins cc.Machine dx [])) ?_ ?_
    · intro N2 hN2 hW
      have gx1 : Ex F0 F0 := Ex.rfl'
      refine e_tOr ?_
      refine e_tNot ?_
      refine e_tB ?_
      refine e_call ?_
      refine a_val (v := (.int ((inputs1 : Nat) : Int))) (val_var rfl) ?_
      refine a_nil ?_
      refine ⟨F0, ((.int ((inputs1 : Nat) : Int))), ((An.i ((inputs1 : Nat) : Int))), _, rfl, w.f, (show pA.r _ (.int ((inputs1 : Nat) : Int)) (An.i ((inputs1 : Nat) : Int)) from rfl), hW, ?_⟩
      intro z1 hW F1 H1 s1
      replace r1 := Rep.mono _ s1.g r1
      replace r2 := Rep.mono _ s1.g r2
      replace xs := xs.step s1
      replace w := w.tr s1
      replace gx1 := Ex.tr gx1 s1.g
      refine bl_v ?_
      refine bb_ifn (fun hc1 => ?_) (fun hc1 => ?_)
      · have hW := ifP hW hc1
        refine e_ans (b := decide (¬ (0 ≤ inputs1 ∧ inputs1 ≤ 6))) (t_iff (p := (¬ (0 ≤ inputs1 ∧ inputs1 ≤ 6)) ∨ (¬ (True))) (q := ¬ (0 ≤ inputs1 ∧ inputs1 ≤ 6)) (t_or (t_not (t_of (vb_of (v_chain (b1 := decide (0 ≤ inputs1)) (b2 := decide (inputs1 ≤ 6)) (x := (.int ((0 : Nat) : Int))) (y := (.int ((inputs1 : Nat) : Int))) (z := (.int ((6 : Nat) : Int))) val_c (val_var rfl) val_c (fun Q k => rv2 (vb_dec (c_le val_c val_c) n_le) k) (fun Q k => rv2 (vb_dec (c_le val_c val_c) n_le) k)) dec_and))) (fun _ => (t_not (t_ofB (vb_of (v_isi (b := true) (val_var rfl) (ty_L r1 w.f) (by decide +kernel)) dec_T))))) (by simp)) ?_
        exact hN2 (decide (¬ (0 ≤ inputs1 ∧ inputs1 ≤ 6))) _ _ ⟨rfl, w, gx1, xs⟩ hW
      · have hW := ifN hW hc1
        exact hN2 true _ _ ⟨rfl, w, gx1, xs⟩ hW
    intro b1 F2 H2 hI1 hW
    obtain ⟨_, w, gx2, x1⟩ := hI1
    have r1 := Rep.mono _ gx2 r1
    have r2 := Rep.mono _ gx2 r2
    refine bb_if (fun hc2 => ?_) (fun hc2 => ?_)
    · have hW := ifP hW hc2
      exact hW
    · have hW := ifN hW hc2
      refine hN1 _ _ ?_
      refine q_sq fun N3 hN3 => ?_
      refine a_ifE ?_
      refine e_jnT hW (fun b F' H' => b = b ∧ Wf F0 Hb F' H' ∧ Ex F2 F' ∧ Xc Hb F' H' ob (.ins cc.Machine dx [])) ?_ ?_
      · intro N4 hN4 hW
        have gx3 : Ex F2 F2 := Ex.rfl'
        refine e_tOr ?_
        refine e_tNot ?_
        refine e_tB ?_
        refine e_call ?_
        refine a_val (v := v1) (val_var rfl) ?_
        refine a_val (v := (.int ((120 : Nat) : Int))) val_c ?_
        refine a_val (v := (.int ((nexts1.length : Nat) : Int))) (len_L r1 w.f (val_var rfl)) ?_
        refine a_val (v := (.int ((inputs1 : Nat) : Int))) (val_var rfl) ?_
        refine a_nil ?_
        refine ⟨F2, (v1), (nexts1), (120), (nexts1.length), (inputs1), _, rfl, w.f, r1, hW, ?_⟩
        intro z2 hW F3 H3 s2
        replace r1 := Rep.mono _ s2.g r1
        replace r2 := Rep.mono _ s2.g r2
        replace x1 := x1.step s2
        replace w := w.tr s2
        replace gx3 := Ex.tr gx3 s2.g
        refine bl_v ?_
        refine bb_ifn (fun hc3 => ?_) (fun hc3 => ?_)
        · have hW := ifP hW hc3
          refine e_tNot ?_
          refine e_tB ?_
          refine e_call ?_
          refine a_val (v := v2) (val_var rfl) ?_
          refine a_val (v := (.int ((6 : Nat) : Int))) val_c ?_
          refine a_val (v := (.int ((nexts1.length : Nat) : Int))) (len_L r1 w.f (val_var rfl)) ?_
          refine a_val (v := (.int ((inputs1 : Nat) : Int))) (val_var rfl) ?_
          refine a_nil ?_
          refine ⟨F3, (v2), (outs1), (6), (nexts1.length), (inputs1), _, rfl, w.f, r2, hW, ?_⟩
          intro z3 hW F4 H4 s3
          replace r1 := Rep.mono _ s3.g r1
          replace r2 := Rep.mono _ s3.g r2
          replace x1 := x1.step s3
          replace w := w.tr s3
          replace gx3 := Ex.tr gx3 s3.g
          refine bl_v ?_
          exact hN4 (!z3) _ _ ⟨rfl, w, gx3, x1⟩ hW
        · have hW := ifN hW hc3
          exact hN4 true _ _ ⟨rfl, w, gx3, x1⟩ hW
      intro b2 F5 H5 hI2 hW
      obtain ⟨_, w, gx4, x2⟩ := hI2
      have r1 := Rep.mono _ gx4 r1
      have r2 := Rep.mono _ gx4 r2
      refine bb_if (fun hc4 => ?_) (fun hc4 => ?_)
      · have hW := ifP hW hc4
        exact hW
      · have hW := ifN hW hc4
        refine hN3 _ _ ?_
        refine q_sq fun N5 hN5 => ?_
        refine e_fld ?_
        refine e_val (v := (.int ((inputs1 : Nat) : Int))) (val_var rfl) ?_
        refine a_fld T.cl_Machine T.na_Machine_inputs x2 w (show 0 < 1000 from by decide) (val_var rfl) (fun H6 w1 x3 kp1 => ?_)
        replace w := w1
        replace x3 : Xc Hb F5 H6 ob (.ins cc.Machine dx [("inputs", (.int ((inputs1 : Nat) : Int)))]) := Xc.cast x3 rfl
        refine hN5 _ _ ?_
        refine q_sq fun N6 hN6 => ?_
        refine e_fld ?_
        refine e_cb ?_
        refine a_val (v := v1) (val_var rfl) ?_
        refine a_nil ?_
        refine n_tupOf r1 w ?_
        intro p1 F6 H7 s4 r3
        replace r1 := Rep.mono _ s4.g r1
        replace r2 := Rep.mono _ s4.g r2
        replace x3 := x3.step s4
        replace w := w.tr s4
        refine a_fld T.cl_Machine T.na_Machine_nexts x3 w (show 1 < 1000 from by decide) (val_var rfl) (fun H8 w2 x4 kp2 => ?_)
        replace w := w2
        replace x4 : Xc Hb F6 H8 ob (.ins cc.Machine dx [("inputs", (.int ((inputs1 : Nat) : Int))), ("nexts", (.ref p1))]) := Xc.cast x4 ((put_ne (by decide +kernel)).trans (congrArg _ rfl))
        refine hN6 _ _ ?_
        refine e_fld ?_
        refine e_cb ?_
        refine a_val (v := v2) (val_var rfl) ?_
        refine a_nil ?_
        refine n_tupOf r2 w ?_
        intro p2 F7 H9 s5 r4
        replace r1 := Rep.mono _ s5.g r1
        replace r2 := Rep.mono _ s5.g r2
        replace x4 := x4.step s5
        replace r3 := Rep.mono _ s5.g r3
        replace w := w.tr s5
        refine a_fld T.cl_Machine T.na_Machine_outs x4 w (show 2 < 1000 from by decide) (val_var rfl) (fun H10 w3 x5 kp3 => ?_)
        replace w := w3
        replace x5 : Xc Hb F7 H10 ob (.ins cc.Machine dx [("inputs", (.int ((inputs1 : Nat) : Int))), ("nexts", (.ref p1)), ("outs", (.ref p2))]) := Xc.cast x5 ((put_ne (by decide +kernel)).trans (congrArg _ ((put_ne (by decide +kernel)).trans (congrArg _ rfl))))
        obtain ⟨F8, w4, g1, h1⟩ := x5.frzE w
        exact hQ _ hW _ _ w4 ⟨ob, dx, _, rfl, h1, _, _, _, rfl, rfl, (Rep.mono _ g1 r3), (Rep.mono _ g1 r4)⟩
abbrev s_Machine_stores : Stmt := inClass (topS 32) 1
/-! Machine.stores -/
def W_Machine_stores (self1 : Nat × List (Nat × Nat) × List (Nat × Nat)) (R : Nat → Prop) : Prop := R self1.2.1.length
def sp_Machine_stores (K : PySem.W.Frag) (cc : Cz) : Sp := fun vs H Q _ => ∃ (F : Hp) (v1 : V) (self1 : Nat × List (Nat × Nat) × List (Nat × Nat)) (R : Nat → Prop), vs = [v1] ∧ Ex F H ∧ (pO3 cc.Machine "inputs" "nexts" "outs" pN (pTL (pT2 pN pN)) (pTL (pT2 pN pN))).r F v1 self1 ∧ W_Machine_stores self1 R ∧ ∀ z, R z → ∀ F' H', Wf F H F' H' → Q (.int ((z : Nat) : Int)) H'
abbrev N_Machine_stores : List Str := ["self"]
theorem sc_Machine_stores : FnScope N_Machine_stores ["self"] (defScope s_Machine_stores) := ⟨rfl, rfl, rfl, by decide +kernel, rfl, by decide +kernel, by decide +kernel⟩
theorem ok_Machine_stores {P : Program} {w0 : World} {K : PySem.W.Frag} {mg : Str → Option Value} {base : Heap} {f : Addr} {fd : FuncData} {cc : Cz} (T : Tz K mg cc) (FU : Fun K "stores" "Machine.stores" s_Machine_stores f fd) (hm : Meth K cc.Machine "stores" f) (hb : Binds K fd ["self"] []) (n_len : mg "len" = none) : Md P w0 K mg base CX0 1 cc.Machine "stores" ["self"] (sp_Machine_stores K cc) := by
  refine ⟨f, fd, FU.ok sc_Machine_stores (fun vs H Q E h => ?_) (fun cdv A outer s H0 vs Q E hr h => ?_), hm, hb⟩
  · obtain ⟨_, _, _, _, rfl, _⟩ := h; rfl
  · obtain ⟨F0, v1, self1, R, rfl, wf, r1, hW, hQ⟩ := h
    have nd := sc_Machine_stores.nd
    refine ⟨(tRet (tCB (Wk.rLen K) (tCons (tFld K (tVar 0) "nexts") tNil))), (pss_one (ps_ret (pe_callB call_len_seq (by rfl) n_len PySem.boot_len (pa_cons (pe_fld (pv 0) rfl) pa_nil)))), ?_⟩
    have w := Wf.id wf
    obtain ⟨v2, r2, fl1⟩ := fl_32 (K := K) T.cl_Machine T.na_Machine_nexts r1 w.f
    refine a_ret (v := (.int ((self1.2.1.length : Nat) : Int))) (len_TL r2 w.f (fl1 (val_var rfl))) ?_
    exact hQ _ hW _ _ w
abbrev s_Machine_need : Stmt := inClass (topS 32) 4
/-! Machine.need -/
def W_Machine_need (self1 : Nat × List (Nat × Nat) × List (Nat × Nat)) (thing1 : An) (width1 : Nat) (E_BadMask : Prop) (R : Unit → Prop) : Prop := W_is_mask thing1 width1 fun z1 => if z1 = true then (R ()) else (E_BadMask)
def sp_Machine_need (K : PySem.W.Frag) (cc : Cz) : Sp := fun vs H Q E => ∃ (F : Hp) (v1 : V) (self1 : Nat × List (Nat × Nat) × List (Nat × Nat)) (v2 : V) (thing1 : An) (width1 : Nat) (E_BadMask : Prop) (R : Unit → Prop), vs = [v1, v2, (.int ((width1 : Nat) : Int))] ∧ Ex F H ∧ (pO3 cc.Machine "inputs" "nexts" "outs" pN (pTL (pT2 pN pN)) (pTL (pT2 pN pN))).r F v1 self1 ∧ pA.r F v2 thing1 ∧ W_Machine_need self1 thing1 width1 E_BadMask R ∧ (E_BadMask → ∀ F' H', Wf F H F' H' → E (.ref cc.BadMask) none H') ∧ ∀ z, R z → ∀ F' H', Wf F H F' H' → Q .non H'
abbrev N_Machine_need : List Str := ["self", "thing", "width"]
theorem sc_Machine_need : FnScope N_Machine_need ["self", "thing", "width"] (defScope s_Machine_need) := ⟨rfl, rfl, rfl, by decide +kernel, rfl, by decide +kernel, by decide +kernel⟩
theorem ok_Machine_need {P : Program} {w0 : World} {K : PySem.W.Frag} {mg : Str → Option Value} {base : Heap} {f : Addr} {fd : FuncData} {cc : Cz} (T : Tz K mg cc) (FU : Fun K "need" "Machine.need" s_Machine_need f fd) (hm : Meth K cc.Machine "need" f) (hb : Binds K fd ["self", "thing", "width"] []) (c_is_mask : Fn P w0 K mg base CX0 2 "is_mask" ["thing", "width"] (sp_is_mask K cc)) : Md P w0 K mg base (L2.CX P w0) 3 cc.Machine "need" ["self", "thing", "width"] (sp_Machine_need K cc) := by
  refine ⟨f, fd, FU.okX sc_Machine_need (fun vs H Q E h => ?_) (fun cdv A outer s H0 vs Q E hr h => ?_), hm, hb⟩
  · obtain ⟨_, _, _, _, _, _, _, _, rfl, _⟩ := h; rfl
  · obtain ⟨F0, v1, self1, v2, thing1, width1, E_BadMask, R, rfl, wf, r1, r2, hW, hE_BadMask, hQ⟩ := h
    have nd := sc_Machine_need.nd
    refine ⟨(tIfS (tNot (tB (tCall (sp_is_mask K cc) [] E0 (tCons (tVar 1) (tCons (tVar 2) tNil))))) (tRaise (fun cls d _ H => E cls d H) cc.BadMask) tNext), (pss_one (ps_if (pt_not (pt_val (pe_fn c_is_mask (hr.mono (by decide)) rfl (pa_cons (pv 1) (pa_cons (pv 2) pa_nil))))) (pss_one (ps_raise (W := (fun cls d _ H => E cls d H)) rfl (takes_of rfl rfl rfl rfl) (pmk_own PySem.F.excBase_ValueError T.xc_BadMask.x T.xc_BadMask.g T.xc_BadMask.k (raises_own T.xc_BadMask.b T.xc_BadMask.t) (by exact rfl)))) pss_nil)), ?_⟩
    have w := Wf.id wf
    refine a_ifE ?_
    refine e_tNot ?_
    refine e_tB ?_
    refine e_call ?_
    refine a_val (v := v2) (val_var rfl) ?_
    refine a_val (v := (.int ((width1 : Nat) : Int))) (val_var rfl) ?_
    refine a_nil ?_
    refine ⟨F0, (v2), (thing1), (width1), _, rfl, w.f, r2, hW, ?_⟩
    intro z1 hW F1 H1 s1
    replace r1 := Rep.mono _ s1.g r1
    replace r2 := Rep.mono _ s1.g r2
    replace w := w.tr s1
    refine bl_v ?_
    refine bb_ifn (fun hc1 => ?_) (fun hc1 => ?_)
    · have hW := ifP hW hc1
      exact hQ _ hW _ _ w
    · have hW := ifN hW hc1
      refine a_raise ?_
      exact hE_BadMask hW _ _ w
abbrev s_Machine_step : Stmt := inClass (topS 32) 5
/-! Machine.step -/
def W_Machine_step (self1 : Nat × List (Nat × Nat) × List (Nat × Nat)) (state1 : An) (row1 : An) (E_BadMask : Prop) (R : (Nat × Nat) → Prop) : Prop := W_Machine_stores self1 fun z1 => W_Machine_need self1 state1 z1 (E_BadMask) fun z2 => W_Machine_need self1 row1 self1.1 (E_BadMask) fun z3 => ∃ y1 : Nat, state1 = An.i ((y1 : Nat) : Int) ∧ ∃ y2 : Nat, row1 = An.i ((y2 : Nat) : Int) ∧ W_bits_by self1.2.2 y1 y2 fun z4 => ∃ y3 : Nat, state1 = An.i ((y3 : Nat) : Int) ∧ ∃ y4 : Nat, row1 = An.i ((y4 : Nat) : Int) ∧ W_bits_by self1.2.1 y3 y4 fun z5 => R (z4, z5)
def sp_Machine_step (K : PySem.W.Frag) (cc : Cz) : Sp := fun vs H Q E => ∃ (F : Hp) (v1 : V) (self1 : Nat × List (Nat × Nat) × List (Nat × Nat)) (v2 : V) (state1 : An) (v3 : V) (row1 : An) (E_BadMask : Prop) (R : (Nat × Nat) → Prop), vs = [v1, v2, v3] ∧ Ex F H ∧ (pO3 cc.Machine "inputs" "nexts" "outs" pN (pTL (pT2 pN pN)) (pTL (pT2 pN pN))).r F v1 self1 ∧ pA.r F v2 state1 ∧ pA.r F v3 row1 ∧ W_Machine_step self1 state1 row1 E_BadMask R ∧ (E_BadMask → ∀ F' H', Wf F H F' H' → E (.ref cc.BadMask) none H') ∧ ∀ z, R z → ∀ v F' H', Wf F H F' H' → (pT2 pN pN).r F' v z → Q v H'
abbrev N_Machine_step : List Str := ["self", "state", "row"]
theorem sc_Machine_step : FnScope N_Machine_step ["self", "state", "row"] (defScope s_Machine_step) := ⟨rfl, rfl, rfl, by decide +kernel, rfl, by decide +kernel, by decide +kernel⟩
theorem ok_Machine_step {P : Program} {w0 : World} {K : PySem.W.Frag} {mg : Str → Option Value} {base : Heap} {f : Addr} {fd : FuncData} {cc : Cz} (T : Tz K mg cc) (FU : Fun K "step" "Machine.step" s_Machine_step f fd) (hm : Meth K cc.Machine "step" f) (hb : Binds K fd ["self", "state", "row"] []) (c_Machine_stores : Md P w0 K mg base CX0 1 cc.Machine "stores" ["self"] (sp_Machine_stores K cc)) (c_Machine_need : Md P w0 K mg base (L2.CX P w0) 3 cc.Machine "need" ["self", "thing", "width"] (sp_Machine_need K cc)) (c_bits_by : Fn P w0 K mg base CX0 3 "bits_by" ["pairs", "state", "row"] (sp_bits_by K cc)) : Md P w0 K mg base (L2.CX P w0) 4 cc.Machine "step" ["self", "state", "row"] (sp_Machine_step K cc) := by
  refine ⟨f, fd, FU.okX sc_Machine_step (fun vs H Q E h => ?_) (fun cdv A outer s H0 vs Q E hr h => ?_), hm, hb⟩
  · obtain ⟨_, _, _, _, _, _, _, _, _, rfl, _⟩ := h; rfl
  · obtain ⟨F0, v1, self1, v2, state1, v3, row1, E_BadMask, R, rfl, wf, r1, r2, r3, hW, hE_BadMask, hQ⟩ := h
    have nd := sc_Machine_step.nd
    refine ⟨(tSeq (tDrop (tMdS cc.Machine "need" (sp_Machine_need K cc) (WE (fun cls d _ H => E cls d H)) (tVar 0) (tCons (tVar 1) (tCons (tMeth cc.Machine "stores" (sp_Machine_stores K cc) [] E0 (tVar 0) tNil) tNil)))) (tSeq (tDrop (tMdS cc.Machine "need" (sp_Machine_need K cc) (WE (fun cls d _ H => E cls d H)) (tVar 0) (tCons (tVar 2) (tCons (tFld K (tVar 0) "inputs") tNil)))) (tRet (tTup (tCons (tCall (sp_bits_by K cc) [] E0 (tCons (tFld K (tVar 0) "outs") (tCons (tVar 1) (tCons (tVar 2) tNil)))) (tCons (tCall (sp_bits_by K cc) [] E0 (tCons (tFld K (tVar 0) "nexts") (tCons (tVar 1) (tCons (tVar 2) tNil)))) tNil)))))), (pss_cons (ps_expr (pe_mdS (W := (fun cls d _ H => E cls d H)) c_Machine_need (takes_of rfl rfl rfl rfl) T.cl_Machine (hr.mono (by decide)) (pv 0) (pa_cons (pv 1) (pa_cons (pe_md0 c_Machine_stores T.cl_Machine (hr.mono (by decide)) (pv 0)) pa_nil)))) (pss_cons (ps_expr (pe_mdS (W := (fun cls d _ H => E cls d H)) c_Machine_need (takes_of rfl rfl rfl rfl) T.cl_Machine (hr.mono (by decide)) (pv 0) (pa_cons (pv 2) (pa_cons (pe_fld (pv 0) rfl) pa_nil)))) (pss_one (ps_ret (pe_tup (pa_cons (pe_fn c_bits_by (hr.mono (by decide)) rfl (pa_cons (pe_fld (pv 0) rfl) (pa_cons (pv 1) (pa_cons (pv 2) pa_nil)))) (pa_cons (pe_fn c_bits_by (hr.mono (by decide)) rfl (pa_cons (pe_fld (pv 0) rfl) (pa_cons (pv 1) (pa_cons (pv 2) pa_nil)))) pa_nil))))))), ?_⟩
    have w := Wf.id wf
    refine q_sq fun N1 hN1 => ?_
    refine a_dropE ?_
    refine e_mdS ?_
    refine e_val (v := v1) (val_var rfl) ?_
    obtain ⟨p1, dx1, fs1, ev1, ho1, lm1⟩ := me_3 (m := "need") r1 w.f
    refine ⟨_, _, _, ev1, ho1, lm1, ?_⟩
    refine a_val (v := v2) (val_var rfl) ?_
    refine a_cons ?_
    refine e_md ?_
    refine e_val (v := v1) (val_var rfl) ?_
    obtain ⟨p2, dx2, fs2, ev2, ho2, lm2⟩ := me_3 (m := "stores") r1 w.f
    refine ⟨_, _, _, ev2, ho2, lm2, ?_⟩
    refine a_nil ?_
    refine ⟨F0, (v1), (self1), _, rfl, w.f, r1, hW, ?_⟩
    intro z1 hW F1 H1 s1
    replace r1 := Rep.mono _ s1.g r1
    replace r2 := Rep.mono _ s1.g r2
    replace r3 := Rep.mono _ s1.g r3
    replace w := w.tr s1
    refine a_nil ?_
    refine ⟨F1, (v1), (self1), (v2), (state1), (z1), _, _, rfl, w.f, r1, r2, hW, ?_, ?_⟩
    · intro hW F2 H2 s2
      replace r1 := Rep.mono _ s2.g r1
      replace r2 := Rep.mono _ s2.g r2
      replace r3 := Rep.mono _ s2.g r3
      replace w := w.tr s2
      exact hE_BadMask hW _ _ w
    intro z2 hW F3 H3 s3
    replace r1 := Rep.mono _ s3.g r1
    replace r2 := Rep.mono _ s3.g r2
    replace r3 := Rep.mono _ s3.g r3
    replace w := w.tr s3
    refine hN1 _ _ ?_
    refine q_sq fun N2 hN2 => ?_
    refine a_dropE ?_
    refine e_mdS ?_
    refine e_val (v := v1) (val_var rfl) ?_
    obtain ⟨p3, dx3, fs3, ev3, ho3, lm3⟩ := me_3 (m := "need") r1 w.f
    refine ⟨_, _, _, ev3, ho3, lm3, ?_⟩
    refine a_val (v := v3) (val_var rfl) ?_
    obtain ⟨_, rfl, fl1⟩ := fl_31 (K := K) T.cl_Machine T.na_Machine_inputs r1 w.f
    refine a_val (v := (.int ((self1.1 : Nat) : Int))) (fl1 (val_var rfl)) ?_
    refine a_nil ?_
    refine ⟨F3, (v1), (self1), (v3), (row1), (self1.1), _, _, rfl, w.f, r1, r3, hW, ?_, ?_⟩
    · intro hW F4 H4 s4
      replace r1 := Rep.mono _ s4.g r1
      replace r2 := Rep.mono _ s4.g r2
      replace r3 := Rep.mono _ s4.g r3
      replace w := w.tr s4
      exact hE_BadMask hW _ _ w
    intro z3 hW F5 H5 s5
    replace r1 := Rep.mono _ s5.g r1
    replace r2 := Rep.mono _ s5.g r2
    replace r3 := Rep.mono _ s5.g r3
    replace w := w.tr s5
    refine hN2 _ _ ?_
    refine a_retE ?_
    refine e_tup ?_
    refine a_cons ?_
    refine e_call ?_
    obtain ⟨v5, r5, fl2⟩ := fl_33 (K := K) T.cl_Machine T.na_Machine_outs r1 w.f
    refine a_val (v := v5) (fl2 (val_var rfl)) ?_
    obtain ⟨y1, hy1, hW⟩ := hW
    have hv1 := an_i r2 hy1
    refine a_val (v := (.int ((y1 : Nat) : Int))) (v_eq (val_var rfl) hv1) ?_
    obtain ⟨y2, hy2, hW⟩ := hW
    have hv2 := an_i r3 hy2
    refine a_val (v := (.int ((y2 : Nat) : Int))) (v_eq (val_var rfl) hv2) ?_
    refine a_nil ?_
    refine ⟨F5, (v5), (self1.2.2), (y1), (y2), _, rfl, w.f, r5, hW, ?_⟩
    intro z4 hW F6 H6 s6
    replace r1 := Rep.mono _ s6.g r1
    replace r2 := Rep.mono _ s6.g r2
    replace r3 := Rep.mono _ s6.g r3
    replace r5 := Rep.mono _ s6.g r5
    replace w := w.tr s6
    refine a_cons ?_
    refine e_call ?_
    obtain ⟨v6, r6, fl3⟩ := fl_32 (K := K) T.cl_Machine T.na_Machine_nexts r1 w.f
    refine a_val (v := v6) (fl3 (val_var rfl)) ?_
    obtain ⟨y3, hy3, hW⟩ := hW
    have hv3 := an_i r2 hy3
    refine a_val (v := (.int ((y3 : Nat) : Int))) (v_eq (val_var rfl) hv3) ?_
    obtain ⟨y4, hy4, hW⟩ := hW
    have hv4 := an_i r3 hy4
    refine a_val (v := (.int ((y4 : Nat) : Int))) (v_eq (val_var rfl) hv4) ?_
    refine a_nil ?_
    refine ⟨F6, (v6), (self1.2.1), (y3), (y4), _, rfl, w.f, r6, hW, ?_⟩
    intro z5 hW F7 H7 s7
    replace r1 := Rep.mono _ s7.g r1
    replace r2 := Rep.mono _ s7.g r2
    replace r3 := Rep.mono _ s7.g r3
    replace r5 := Rep.mono _ s7.g r5
    replace r6 := Rep.mono _ s7.g r6
    replace w := w.tr s7
    refine a_nil ?_
    refine n_tup2 (e := pN) (f := pN) (x := z4) (y := z5) rfl rfl w ?_
    intro p4 F8 H8 s8 r7
    replace r1 := Rep.mono _ s8.g r1
    replace r2 := Rep.mono _ s8.g r2
    replace r3 := Rep.mono _ s8.g r3
    replace r5 := Rep.mono _ s8.g r5
    replace r6 := Rep.mono _ s8.g r6
    replace w := w.tr s8
    exact hQ _ hW _ _ _ w r7
abbrev s_Machine_walk : Stmt := inClass (topS 32) 6
/-! Machine.walk -/
def W_Machine_walk (self1 : Nat × List (Nat × Nat) × List (Nat × Nat)) (rows1 : List An) (state1 : An) (E_BadMask : Prop) (R : (List Nat × Nat) → Prop) : Prop := W_Machine_stores self1 fun z1 => W_Machine_need self1 state1 z1 (E_BadMask) fun z2 => forW rows1 () (fun row1 _ nx1 bk1 => W_Machine_need self1 row1 self1.1 (E_BadMask) fun z3 => nx1 ()) fun _ => ∃ y1 : Nat, state1 = An.i ((y1 : Nat) : Int) ∧ forW rows1 (y1, ([] : List Nat)) (fun row2 (state2, answers1) nx2 bk2 => W_Machine_step self1 (An.i ((state2 : Nat) : Int)) row2 (E_BadMask) fun z4 => (answers1.length < 1000000) ∧ nx2 (z4.2, answers1 ++ [z4.1])) fun (state2, answers1) => R (answers1, state2)
def sp_Machine_walk (K : PySem.W.Frag) (cc : Cz) : Sp := fun vs H Q E => ∃ (F : Hp) (v1 : V) (self1 : Nat × List (Nat × Nat) × List (Nat × Nat)) (v2 : V) (rows1 : List An) (v3 : V) (state1 : An) (E_BadMask : Prop) (R : (List Nat × Nat) → Prop), vs = [v1, v2, v3] ∧ Ex F H ∧ (pO3 cc.Machine "inputs" "nexts" "outs" pN (pTL (pT2 pN pN)) (pTL (pT2 pN pN))).r F v1 self1 ∧ (pL pA).r F v2 rows1 ∧ pA.r F v3 state1 ∧ W_Machine_walk self1 rows1 state1 E_BadMask R ∧ (E_BadMask → ∀ F' H', Wf F H F' H' → E (.ref cc.BadMask) none H') ∧ ∀ z, R z → ∀ (l0 : Addr) v F' H', Wf F H F' H' → (pT2 pV pN).r F' v (V.ref l0, z.2) → XL pN H F' H' l0 z.1 → Q v H'
abbrev N_Machine_walk : List Str := ["self", "rows", "state", "row", "answers", "answer"]
theorem sc_Machine_walk : FnScope N_Machine_walk ["self", "rows", "state"] (defScope s_Machine_walk) := ⟨rfl, rfl, rfl, by decide +kernel, rfl, by decide +kernel, by decide +kernel⟩
theorem ok_Machine_walk {P : Program} {w0 : World} {K : PySem.W.Frag} {mg : Str → Option Value} {base : Heap} {f : Addr} {fd : FuncData} {cc : Cz} (T : Tz K mg cc) (FU : Fun K "walk" "Machine.walk" s_Machine_walk f fd) (hm : Meth K cc.Machine "walk" f) (hb : Binds K fd ["self", "rows", "state"] []) (c_Machine_stores : Md P w0 K mg base CX0 1 cc.Machine "stores" ["self"] (sp_Machine_stores K cc)) (c_Machine_need : Md P w0 K mg base (L2.CX P w0) 3 cc.Machine "need" ["self", "thing", "width"] (sp_Machine_need K cc)) (c_Machine_step : Md P w0 K mg base (L2.CX P w0) 4 cc.Machine "step" ["self", "state", "row"] (sp_Machine_step K cc)) : Md P w0 K mg base (L2.CX P w0) 5 cc.Machine "walk" ["self", "rows", "state"] (sp_Machine_walk K cc) := by
  refine ⟨f, fd, FU.okX sc_Machine_walk (fun vs H Q E h => ?_) (fun cdv A outer s H0 vs Q E hr h => ?_), hm, hb⟩
  · obtain ⟨_, _, _, _, _, _, _, _, _, rfl, _⟩ := h; rfl
  · obtain ⟨F0, v1, self1, v2, rows1, v3, state1, E_BadMask, R, rfl, wf, r1, r2, r3, hW, hE_BadMask, hQ⟩ := h
    have nd := sc_Machine_walk.nd
    refine ⟨(tSeq (tDrop (tMdS cc.Machine "need" (sp_Machine_need K cc) (WE (fun cls d _ H => E cls d H)) (tVar 0) (tCons (tVar 2) (tCons (tMeth cc.Machine "stores" (sp_Machine_stores K cc) [] E0 (tVar 0) tNil) tNil)))) (tSeq (tFor (iList K (tVar 1)) (gName 3) (tDrop (tMdS cc.Machine "need" (sp_Machine_need K cc) (WE (fun cls d _ H => E cls d H)) (tVar 0) (tCons (tVar 3) (tCons (tFld K (tVar 0) "inputs") tNil))))) (tSeq (tAsg (tLst tNil) (gName 4)) (tSeq (tFor (iList K (tVar 1)) (gName 3) (tSeq (tAsg (tMdS cc.Machine "step" (sp_Machine_step K cc) (WE (fun cls d _ H => E cls d H)) (tVar 0) (tCons (tVar 2) (tCons (tVar 3) tNil))) (gTup K 2 (gCons (gName 5) (gCons (gName 2) gNil)))) (tDrop (tBM K "list" rAppend (tVar 4) (tCons (tVar 5) tNil))))) (tRet (tTup (tCons (tVar 4) (tCons (tVar 2) tNil)))))))), (pss_cons (ps_expr (pe_mdS (W := (fun cls d _ H => E cls d H)) c_Machine_need (takes_of rfl rfl rfl rfl) T.cl_Machine (hr.mono (by decide)) (pv 0) (pa_cons (pv 2) (pa_cons (pe_md0 c_Machine_stores T.cl_Machine (hr.mono (by decide)) (pv 0)) pa_nil)))) (pss_cons (ps_for (passes_of rfl) rfl (pi_list (pv 1)) (pg_name (i := 3) nd rfl (Or.inl rfl)) (pss_one (ps_expr (pe_mdS (W := (fun cls d _ H => E cls d H)) c_Machine_need (takes_of rfl rfl rfl rfl) T.cl_Machine (hr.mono (by decide)) (pv 0) (pa_cons (pv 3) (pa_cons (pe_fld (pv 0) rfl) pa_nil)))))) (pss_cons (ps_set (i := 4) nd rfl (Or.inl rfl) (pe_lst pa_nil)) (pss_cons (ps_for (passes_of rfl) rfl (pi_list (pv 1)) (pg_name (i := 3) nd rfl (Or.inl rfl)) (pss_cons (ps_asg (pe_mdS (W := (fun cls d _ H => E cls d H)) c_Machine_step (takes_of rfl rfl rfl rfl) T.cl_Machine (hr.mono (by decide)) (pv 0) (pa_cons (pv 2) (pa_cons (pv 3) pa_nil))) (pg_tup rfl (pgs_cons (pg_name (i := 5) nd rfl (Or.inl rfl)) (pgs_cons (pg_name (i := 2) nd rfl (Or.inl rfl)) pgs_nil)) (by rfl))) (pss_one (ps_expr (pe_bm PySem.F.plainAttrs_list PySem.F.slot_list_append PySem.F.type_list_append mt_append (pv 4) (pa_cons (pv 5) pa_nil)))))) (pss_one (ps_ret (pe_tup (pa_cons (pv 4) (pa_cons (pv 2) pa_nil))))))))), ?_⟩
    have w := Wf.id wf
    refine q_sq fun N1 hN1 => ?_
    refine a_dropE ?_
    refine e_mdS ?_
    refine e_val (v := v1) (val_var rfl) ?_
    obtain ⟨p1, dx1, fs1, ev1, ho1, lm1⟩ := me_3 (m := "need") r1 w.f
    refine ⟨_, _, _, ev1, ho1, lm1, ?_⟩
    refine a_val (v := v3) (val_var rfl) ?_
    refine a_cons ?_
    refine e_md ?_
    refine e_val (v := v1) (val_var rfl) ?_
    obtain ⟨p2, dx2, fs2, ev2, ho2, lm2⟩ := me_3 (m := "stores") r1 w.f
    refine ⟨_, _, _, ev2, ho2, lm2, ?_⟩
    refine a_nil ?_
    refine ⟨F0, (v1), (self1), _, rfl, w.f, r1, hW, ?_⟩
    intro z1 hW F1 H1 s1
    replace r1 := Rep.mono _ s1.g r1
    replace r2 := Rep.mono _ s1.g r2
    replace r3 := Rep.mono _ s1.g r3
    replace w := w.tr s1
    refine a_nil ?_
    refine ⟨F1, (v1), (self1), (v3), (state1), (z1), _, _, rfl, w.f, r1, r3, hW, ?_, ?_⟩
    · intro hW F2 H2 s2
      replace r1 := Rep.mono _ s2.g r1
      replace r2 := Rep.mono _ s2.g r2
      replace r3 := Rep.mono _ s2.g r3
      replace w := w.tr s2
      exact hE_BadMask hW _ _ w
    intro z2 hW F3 H3 s3
    replace r1 := Rep.mono _ s3.g r1
    replace r2 := Rep.mono _ s3.g r2
    replace r3 := Rep.mono _ s3.g r3
    replace w := w.tr s3
    refine hN1 _ _ ?_
    refine q_sq fun N2 hN2 => ?_
    refine f_LE ?_
    refine e_val (v := v2) (val_var rfl) ?_
    refine w_forL (S := Unit) (fun _ σ' F' H' => ∃ (o1 : Option V), Wf F0 H0 F' H' ∧ Ex F3 F' ∧ σ' = [some v1, some v2, some v3, o1, none, none]) r2 hW ⟨_, w, Ex.rfl', rfl⟩ (fun s σ' F' H' hI => by obtain ⟨_, w', gx', _⟩ := hI; exact ⟨gx', w'.f⟩) w.f ?_ ?_
    · intro N3 Bk1 row1 u1 s4 σ' F4 H4 nx1 bk1 hI1 hx1 ru1 hW hN3 hB1
      obtain ⟨o1, w, gx1, rfl⟩ := hI1
      have r1 := Rep.mono _ gx1 r1
      have r2 := Rep.mono _ gx1 r2
      have r3 := Rep.mono _ gx1 r3
      refine g_name ?_
      refine a_dropE ?_
      refine e_mdS ?_
      refine e_val (v := v1) (val_var rfl) ?_
      obtain ⟨p3, dx3, fs3, ev3, ho3, lm3⟩ := me_3 (m := "need") r1 w.f
      refine ⟨_, _, _, ev3, ho3, lm3, ?_⟩
      refine a_val (v := u1) (val_var rfl) ?_
      obtain ⟨_, rfl, fl1⟩ := fl_31 (K := K) T.cl_Machine T.na_Machine_inputs r1 w.f
      refine a_val (v := (.int ((self1.1 : Nat) : Int))) (fl1 (val_var rfl)) ?_
      refine a_nil ?_
      refine ⟨F4, (v1), (self1), (u1), (row1), (self1.1), _, _, rfl, w.f, r1, ru1, hW, ?_, ?_⟩
      · intro hW F5 H5 s5
        replace r1 := Rep.mono _ s5.g r1
        replace r2 := Rep.mono _ s5.g r2
        replace r3 := Rep.mono _ s5.g r3
        replace ru1 := Rep.mono _ s5.g ru1
        replace w := w.tr s5
        replace gx1 := Ex.tr gx1 s5.g
        exact hE_BadMask hW _ _ w
      intro z3 hW F6 H6 s6
      replace r1 := Rep.mono _ s6.g r1
      replace r2 := Rep.mono _ s6.g r2
      replace r3 := Rep.mono _ s6.g r3
      replace ru1 := Rep.mono _ s6.g ru1
      replace w := w.tr s6
      replace gx1 := Ex.tr gx1 s6.g
      exact hN3 () _ _ _ ⟨_, w, gx1, rfl⟩ hW
    · intro s7 σ' F7 H7 hI2 hW
      obtain ⟨o1, w, gx2, rfl⟩ := hI2
      have r1 := Rep.mono _ gx2 r1
      have r2 := Rep.mono _ gx2 r2
      have r3 := Rep.mono _ gx2 r3
      refine hN2 _ _ ?_
      refine q_sq fun N4 hN4 => ?_
      refine a_asgE ?_
      refine e_lst ?_
      refine a_nil ?_
      refine n_lstX (e := pN) (xs := []) (vs := []) (show All pN _ [] [] from trivial) (show 0 < 1000000 from by decide) w ?_
      intro p4 H8 hp1 s8 x1
      replace r1 := Rep.mono _ s8.g r1
      replace r2 := Rep.mono _ s8.g r2
      replace r3 := Rep.mono _ s8.g r3
      replace w := w.tr s8
      replace gx2 := Ex.tr gx2 s8.g
      refine hN4 _ _ ?_
      refine q_sq fun N5 hN5 => ?_
      obtain ⟨y1, hy1, hW⟩ := hW
      obtain rfl : v3 = .int ((y1 : Nat) : Int) := an_i r3 hy1
      refine f_LE ?_
      refine e_val (v := v2) (val_var rfl) ?_
      refine w_forL (S := Nat × List Nat) (fun s σ' F' H' => match s with | (state2, answers1) => ∃ (o2 : Option V) (o3 : Option V), Wf F0 H0 F' H' ∧ Ex F7 F' ∧ σ' = [some v1, some v2, some (.int ((state2 : Nat) : Int)), o2, some ((.ref p4)), o3] ∧ XL pN H0 F' H' p4 answers1) r2 hW ⟨_, _, w, Ex.rfl', rfl, x1⟩ (fun s σ' F' H' hI => by obtain ⟨state2, answers1⟩ := s; obtain ⟨_, _, w', gx', _⟩ := hI; exact ⟨gx', w'.f⟩) w.f ?_ ?_
      · intro N6 Bk2 row2 u2 s9 σ' F8 H9 nx2 bk2 hI3 hx2 ru2 hW hN6 hB2
        obtain ⟨state2, answers1⟩ := s9
        obtain ⟨o2, o3, w, gx3, rfl, x2⟩ := hI3
        have r1 := Rep.mono _ gx3 r1
        have r2 := Rep.mono _ gx3 r2
        have gx2 := Ex.tr gx2 gx3
        refine g_name ?_
        refine q_sq fun N7 hN7 => ?_
        refine a_asgG ?_
        refine e_mdS ?_
        refine e_val (v := v1) (val_var rfl) ?_
        obtain ⟨p5, dx4, fs4, ev4, ho4, lm4⟩ := me_3 (m := "step") r1 w.f
        refine ⟨_, _, _, ev4, ho4, lm4, ?_⟩
        refine a_val (v := (.int ((state2 : Nat) : Int))) (val_var rfl) ?_
        refine a_val (v := u2) (val_var rfl) ?_
        refine a_nil ?_
        refine ⟨F8, (v1), (self1), ((.int ((state2 : Nat) : Int))), ((An.i ((state2 : Nat) : Int))), (u2), (row2), _, _, rfl, w.f, r1, (show pA.r _ (.int ((state2 : Nat) : Int)) (An.i ((state2 : Nat) : Int)) from rfl), ru2, hW, ?_, ?_⟩
        · intro hW F9 H10 s10
          replace r1 := Rep.mono _ s10.g r1
          replace r2 := Rep.mono _ s10.g r2
          replace x2 := x2.step s10
          replace ru2 := Rep.mono _ s10.g ru2
          replace w := w.tr s10
          replace gx3 := Ex.tr gx3 s10.g
          replace gx2 := Ex.tr gx2 s10.g
          exact hE_BadMask hW _ _ w
        intro z4 hW v5 F10 H11 s11 r5
        replace r1 := Rep.mono _ s11.g r1
        replace r2 := Rep.mono _ s11.g r2
        replace x2 := x2.step s11
        replace ru2 := Rep.mono _ s11.g ru2
        replace w := w.tr s11
        replace gx3 := Ex.tr gx3 s11.g
        replace gx2 := Ex.tr gx2 s11.g
        obtain ⟨p6, u3, u4, rfl, h1, rfl, rfl⟩ := r5
        refine ⟨p6, _, rfl, SqT.of (w.f _ _ h1), rfl, _, _, rfl, _, _, rfl, rfl, ?_⟩
        refine hN7 _ _ ?_
        refine a_dropE ?_
        refine m_list x2 (val_var rfl) ?_
        refine a_val (v := (.int ((z4.1 : Nat) : Int))) (val_var rfl) ?_
        refine a_nil ?_
        obtain ⟨c1, hW⟩ := hW
        refine a_app x2 w c1 rfl (fun H12 w1 x3 kp1 => ?_)
        replace w := w1
        exact hN6 (z4.2, answers1 ++ [z4.1]) _ _ _ ⟨_, _, w, gx3, rfl, x3⟩ hW
      · intro s12 σ' F11 H13 hI4 hW
        obtain ⟨state2, answers1⟩ := s12
        obtain ⟨o2, o3, w, gx4, rfl, x2⟩ := hI4
        have r1 := Rep.mono _ gx4 r1
        have r2 := Rep.mono _ gx4 r2
        have gx2 := Ex.tr gx2 gx4
        refine hN5 _ _ ?_
        refine a_retE ?_
        refine e_tup ?_
        refine a_val (v := (.ref p4)) (val_var rfl) ?_
        refine a_val (v := (.int ((state2 : Nat) : Int))) (val_var rfl) ?_
        refine a_nil ?_
        refine n_tup2 (e := pV) (f := pN) (x := V.ref p4) (y := state2) rfl rfl w ?_
        intro p7 F12 H14 s13 r6
        replace r1 := Rep.mono _ s13.g r1
        replace r2 := Rep.mono _ s13.g r2
        replace x2 := x2.step s13
        replace w := w.tr s13
        replace gx4 := Ex.tr gx4 s13.g
        replace gx2 := Ex.tr gx2 s13.g
        exact hQ (answers1, state2) hW _ _ _ _ w r6 x2
abbrev s_Machine_after : Stmt := inClass (topS 32) 8
/-! Machine.after -/
def W_Machine_after (self1 : Nat × List (Nat × Nat) × List (Nat × Nat)) (rows1 : List An) (state1 : An) (E_BadMask : Prop) (R : Nat → Prop) : Prop := W_Machine_walk self1 rows1 state1 (E_BadMask) fun z1 => R z1.2
def sp_Machine_after (K : PySem.W.Frag) (cc : Cz) : Sp := fun vs H Q E => ∃ (F : Hp) (v1 : V) (self1 : Nat × List (Nat × Nat) × List (Nat × Nat)) (v2 : V) (rows1 : List An) (v3 : V) (state1 : An) (E_BadMask : Prop) (R : Nat → Prop), vs = [v1, v2, v3] ∧ Ex F H ∧ (pO3 cc.Machine "inputs" "nexts" "outs" pN (pTL (pT2 pN pN)) (pTL (pT2 pN pN))).r F v1 self1 ∧ (pL pA).r F v2 rows1 ∧ pA.r F v3 state1 ∧ W_Machine_after self1 rows1 state1 E_BadMask R ∧ (E_BadMask → ∀ F' H', Wf F H F' H' → E (.ref cc.BadMask) none H') ∧ ∀ z, R z → ∀ F' H', Wf F H F' H' → Q (.int ((z : Nat) : Int)) H'
abbrev N_Machine_after : List Str := ["self", "rows", "state"]
theorem sc_Machine_after : FnScope N_Machine_after ["self", "rows", "state"] (defScope s_Machine_after) := ⟨rfl, rfl, rfl, by decide +kernel, rfl, by decide +kernel, by decide +kernel⟩
theorem ok_Machine_after {P : Program} {w0 : World} {K : PySem.W.Frag} {mg : Str → Option Value} {base : Heap} {f : Addr} {fd : FuncData} {cc : Cz} (T : Tz K mg cc) (FU : FunD K "after" "Machine.after" (defArgs s_Machine_after) (defBody s_Machine_after) (defScope s_Machine_after) [.int 0] [] f fd) (hm : Meth K cc.Machine "after" f) (hb : Binds K fd ["self", "rows", "state"] []) (hb2 : ∃ ds, Vals [.int 0] ds ∧ Binds K fd ["self", "rows", "state"] ds) (c_Machine_walk : Md P w0 K mg base (L2.CX P w0) 5 cc.Machine "walk" ["self", "rows", "state"] (sp_Machine_walk K cc)) : MdD P w0 K mg base (L2.CX P w0) 6 cc.Machine "after" ["self", "rows", "state"] (sp_Machine_after K cc) [.int 0] := by
  refine ⟨f, fd, FU.ok sc_Machine_after (fun vs H Q E h => ?_) (fun cdv A outer s H0 vs Q E hr h => ?_), hm, hb, hb2⟩
  · obtain ⟨_, _, _, _, _, _, _, _, _, rfl, _⟩ := h; rfl
  · obtain ⟨F0, v1, self1, v2, rows1, v3, state1, E_BadMask, R, rfl, wf, r1, r2, r3, hW, hE_BadMask, hQ⟩ := h
    have nd := sc_Machine_after.nd
    refine ⟨(tRet (tOp (L2.rIxT K) (tMdS cc.Machine "walk" (sp_Machine_walk K cc) (WE (fun cls d _ H => E cls d H)) (tVar 0) (tCons (tVar 1) (tCons (tVar 2) tNil))) (tC (.int 1)))), (pss_one (ps_ret (pe_ix ix_tup (pe_mdS (W := (fun cls d _ H => E cls d H)) c_Machine_walk (takes_of rfl rfl rfl rfl) T.cl_Machine (hr.mono (by decide)) (pv 0) (pa_cons (pv 1) (pa_cons (pv 2) pa_nil))) pe_int (fun _ _ => rfl)))), ?_⟩
    have w := Wf.id wf
    refine a_retE ?_
    refine e_op ?_
    refine e_mdS ?_
    refine e_val (v := v1) (val_var rfl) ?_
    obtain ⟨p1, dx1, fs1, ev1, ho1, lm1⟩ := me_3 (m := "walk") r1 w.f
    refine ⟨_, _, _, ev1, ho1, lm1, ?_⟩
    refine a_val (v := v2) (val_var rfl) ?_
    refine a_val (v := v3) (val_var rfl) ?_
    refine a_nil ?_
    refine ⟨F0, (v1), (self1), (v2), (rows1), (v3), (state1), _, _, rfl, w.f, r1, r2, r3, hW, ?_, ?_⟩
    · intro hW F1 H1 s1
      replace r1 := Rep.mono _ s1.g r1
      replace r2 := Rep.mono _ s1.g r2
      replace r3 := Rep.mono _ s1.g r3
      replace w := w.tr s1
      exact hE_BadMask hW _ _ w
    intro z1 hW l1 v4 F2 H2 s2 r4 x1
    replace x1 := x1.base w
    replace r1 := Rep.mono _ s2.g r1
    replace r2 := Rep.mono _ s2.g r2
    replace r3 := Rep.mono _ s2.g r3
    replace w := w.tr s2
    refine e_val (v := (.int ((1 : Nat) : Int))) val_c ?_
    obtain ⟨_, rfl, ix1⟩ := ix_2b (K := K) r4 w.f
    refine rv2 (z := (.int ((z1.2 : Nat) : Int))) (ix1 val_c val_c) ?_
    exact hQ _ hW _ _ w
abbrev s_Machine_back : Stmt := inClass (topS 32) 10
/-! Machine.back -/
def W_Machine_back (self1 : Nat × List (Nat × Nat) × List (Nat × Nat)) (mask1 : An) (E_BadMask : Prop) (R : (Nat × Nat) → Prop) : Prop := W_Machine_stores self1 fun z1 => W_Machine_need self1 mask1 z1 (E_BadMask) fun z2 => ∃ y1 : Nat, mask1 = An.i ((y1 : Nat) : Int) ∧ W_bits_of y1 fun z3 => forW z3 (0, 0) (fun place1 (stores1, inputs1) nx1 bk1 => ∃ x2, self1.2.1[place1]? = some x2 ∧ ∃ x3, self1.2.1[place1]? = some x3 ∧ ∀ stores2 : Nat, stores2 = stores1 ^^^ x3.1 → ∃ x4, self1.2.1[place1]? = some x4 ∧ ∃ x5, self1.2.1[place1]? = some x5 ∧ ∀ inputs2 : Nat, inputs2 = inputs1 ^^^ x5.2 → nx1 (stores2, inputs2)) fun (stores1, inputs1) => R (stores1, inputs1)
def sp_Machine_back (K : PySem.W.Frag) (cc : Cz) : Sp := fun vs H Q E => ∃ (F : Hp) (v1 : V) (self1 : Nat × List (Nat × Nat) × List (Nat × Nat)) (v2 : V) (mask1 : An) (E_BadMask : Prop) (R : (Nat × Nat) → Prop), vs = [v1, v2] ∧ Ex F H ∧ (pO3 cc.Machine "inputs" "nexts" "outs" pN (pTL (pT2 pN pN)) (pTL (pT2 pN pN))).r F v1 self1 ∧ pA.r F v2 mask1 ∧ W_Machine_back self1 mask1 E_BadMask R ∧ (E_BadMask → ∀ F' H', Wf F H F' H' → E (.ref cc.BadMask) none H') ∧ ∀ z, R z → ∀ v F' H', Wf F H F' H' → (pT2 pN pN).r F' v z → Q v H'
abbrev N_Machine_back : List Str := ["self", "mask", "stores", "inputs", "place"]
theorem sc_Machine_back : FnScope N_Machine_back ["self", "mask"] (defScope s_Machine_back) := ⟨rfl, rfl, rfl, by decide +kernel, rfl, by decide +kernel, by decide +kernel⟩
theorem ok_Machine_back {P : Program} {w0 : World} {K : PySem.W.Frag} {mg : Str → Option Value} {base : Heap} {f : Addr} {fd : FuncData} {cc : Cz} (T : Tz K mg cc) (FU : Fun K "back" "Machine.back" s_Machine_back f fd) (hm : Meth K cc.Machine "back" f) (hb : Binds K fd ["self", "mask"] []) (c_Machine_stores : Md P w0 K mg base CX0 1 cc.Machine "stores" ["self"] (sp_Machine_stores K cc)) (c_Machine_need : Md P w0 K mg base (L2.CX P w0) 3 cc.Machine "need" ["self", "thing", "width"] (sp_Machine_need K cc)) (c_bits_of : Fn P w0 K mg base CX0 1 "bits_of" ["mask"] (sp_bits_of K cc)) : Md P w0 K mg base (L2.CX P w0) 4 cc.Machine "back" ["self", "mask"] (sp_Machine_back K cc) := by
  refine ⟨f, fd, FU.okX sc_Machine_back (fun vs H Q E h => ?_) (fun cdv A outer s H0 vs Q E hr h => ?_), hm, hb⟩
  · obtain ⟨_, _, _, _, _, _, _, rfl, _⟩ := h; rfl
  · obtain ⟨F0, v1, self1, v2, mask1, E_BadMask, R, rfl, wf, r1, r2, hW, hE_BadMask, hQ⟩ := h
    have nd := sc_Machine_back.nd
    refine ⟨(tSeq (tDrop (tMdS cc.Machine "need" (sp_Machine_need K cc) (WE (fun cls d _ H => E cls d H)) (tVar 0) (tCons (tVar 1) (tCons (tMeth cc.Machine "stores" (sp_Machine_stores K cc) [] E0 (tVar 0) tNil) tNil)))) (tSeq (tAsg (tC (.int 0)) (gName 2)) (tSeq (tAsg (tC (.int 0)) (gName 3)) (tSeq (tFor (iList K (tCall (sp_bits_of K cc) [] E0 (tCons (tVar 1) tNil))) (gName 4) (tSeq (tAsg (tOp kXor (tVar 2) (tOp (L2.rIxT K) (tOp (L2.rIxT K) (tFld K (tVar 0) "nexts") (tVar 4)) (tC (.int 0)))) (gName 2)) (tAsg (tOp kXor (tVar 3) (tOp (L2.rIxT K) (tOp (L2.rIxT K) (tFld K (tVar 0) "nexts") (tVar 4)) (tC (.int 1)))) (gName 3)))) (tRet (tTup (tCons (tVar 2) (tCons (tVar 3) tNil)))))))), (pss_cons (ps_expr (pe_mdS (W := (fun cls d _ H => E cls d H)) c_Machine_need (takes_of rfl rfl rfl rfl) T.cl_Machine (hr.mono (by decide)) (pv 0) (pa_cons (pv 1) (pa_cons (pe_md0 c_Machine_stores T.cl_Machine (hr.mono (by decide)) (pv 0)) pa_nil)))) (pss_cons (ps_set (i := 2) nd rfl (Or.inl rfl) pe_int) (pss_cons (ps_set (i := 3) nd rfl (Or.inl rfl) pe_int) (pss_cons (ps_for (passes_of rfl) rfl (pi_list (pe_fn c_bits_of (hr.mono (by decide)) rfl (pa_cons (pv 1) pa_nil))) (pg_name (i := 4) nd rfl (Or.inl rfl)) (pss_cons (ps_set (i := 2) nd rfl (Or.inl rfl) (pe_op op_xor (pv 2) (pe_ix ix_tup (pe_ix ix_tup (pe_fld (pv 0) rfl) (pv 4) (fun _ _ => rfl)) pe_int (fun _ _ => rfl)))) (pss_one (ps_set (i := 3) nd rfl (Or.inl rfl) (pe_op op_xor (pv 3) (pe_ix ix_tup (pe_ix ix_tup (pe_fld (pv 0) rfl) (pv 4) (fun _ _ => rfl)) pe_int (fun _ _ => rfl))))))) (pss_one (ps_ret (pe_tup (pa_cons (pv 2) (pa_cons (pv 3) pa_nil))))))))), ?_⟩
    have w := Wf.id wf
    refine q_sq fun N1 hN1 => ?_
    refine a_dropE ?_
    refine e_mdS ?_
    refine e_val (v := v1) (val_var rfl) ?_
    obtain ⟨p1, dx1, fs1, ev1, ho1, lm1⟩ := me_3 (m := "need") r1 w.f
    refine ⟨_, _, _, ev1, ho1, lm1, ?_⟩
    refine a_val (v := v2) (val_var rfl) ?_
    refine a_cons ?_
    refine e_md ?_
    refine e_val (v := v1) (val_var rfl) ?_
    obtain ⟨p2, dx2, fs2, ev2, ho2, lm2⟩ := me_3 (m := "stores") r1 w.f
    refine ⟨_, _, _, ev2, ho2, lm2, ?_⟩
    refine a_nil ?_
    refine ⟨F0, (v1), (self1), _, rfl, w.f, r1, hW, ?_⟩
    intro z1 hW F1 H1 s1
    replace r1 := Rep.mono _ s1.g r1
    replace r2 := Rep.mono _ s1.g r2
    replace w := w.tr s1
    refine a_nil ?_
    refine ⟨F1, (v1), (self1), (v2), (mask1), (z1), _, _, rfl, w.f, r1, r2, hW, ?_, ?_⟩
    · intro hW F2 H2 s2
      replace r1 := Rep.mono _ s2.g r1
      replace r2 := Rep.mono _ s2.g r2
      replace w := w.tr s2
      exact hE_BadMask hW _ _ w
    intro z2 hW F3 H3 s3
    replace r1 := Rep.mono _ s3.g r1
    replace r2 := Rep.mono _ s3.g r2
    replace w := w.tr s3
    refine hN1 _ _ ?_
    refine q_sq fun N2 hN2 => ?_
    refine a_asg (v := (.int ((0 : Nat) : Int))) val_c ?_
    refine hN2 _ _ ?_
    refine q_sq fun N3 hN3 => ?_
    refine a_asg (v := (.int ((0 : Nat) : Int))) val_c ?_
    refine hN3 _ _ ?_
    refine q_sq fun N4 hN4 => ?_
    refine f_LE ?_
    refine e_call ?_
    obtain ⟨y1, hy1, hW⟩ := hW
    have hv1 := an_i r2 hy1
    refine a_val (v := (.int ((y1 : Nat) : Int))) (v_eq (val_var rfl) hv1) ?_
    refine a_nil ?_
    refine ⟨F3, (y1), _, rfl, w.f, hW, ?_⟩
    intro z3 hW p3 F4 H4 s4 x1
    replace x1 := x1.base w
    replace r1 := Rep.mono _ s4.g r1
    replace r2 := Rep.mono _ s4.g r2
    replace w := w.tr s4
    obtain ⟨F5, w1, g1, r3, fz1⟩ := x1.frzE w
    replace r1 := Rep.mono _ g1 r1
    replace r2 := Rep.mono _ g1 r2
    replace w := w1
    refine w_forL (S := Nat × Nat) (fun s σ' F' H' => match s with | (stores1, inputs1) => ∃ (o1 : Option V), Wf F0 H0 F' H' ∧ Ex F5 F' ∧ σ' = [some v1, some v2, some (.int ((stores1 : Nat) : Int)), some (.int ((inputs1 : Nat) : Int)), o1]) r3 hW ⟨_, w, Ex.rfl', rfl⟩ (fun s σ' F' H' hI => by obtain ⟨stores1, inputs1⟩ := s; obtain ⟨_, w', gx', _⟩ := hI; exact ⟨gx', w'.f⟩) w.f ?_ ?_
    · intro N5 Bk1 place1 u1 s5 σ' F6 H5 nx1 bk1 hI1 hx1 ru1 hW hN5 hB1
      obtain ⟨stores1, inputs1⟩ := s5
      obtain ⟨o1, w, gx1, rfl⟩ := hI1
      have r1 := Rep.mono _ gx1 r1
      have r2 := Rep.mono _ gx1 r2
      have r3 := Rep.mono _ gx1 r3
      obtain rfl : u1 = (.int ((place1 : Nat) : Int)) := ru1
      refine g_name ?_
      refine q_sq fun N6 hN6 => ?_
      obtain ⟨v3, r4, fl1⟩ := fl_32 (K := K) T.cl_Machine T.na_Machine_nexts r1 w.f
      obtain ⟨v4, r5, fl2⟩ := fl_32 (K := K) T.cl_Machine T.na_Machine_nexts r1 w.f
      obtain ⟨x2, hx2_1, hW⟩ := hW
      obtain ⟨v5, r6, ix1⟩ := ix_TL (K := K) r5 w.f hx2_1
      obtain ⟨v6, r7, fl3⟩ := fl_32 (K := K) T.cl_Machine T.na_Machine_nexts r1 w.f
      obtain ⟨v7, r8, fl4⟩ := fl_32 (K := K) T.cl_Machine T.na_Machine_nexts r1 w.f
      obtain ⟨x3, hx3_1, hW⟩ := hW
      obtain ⟨v8, r9, ix2⟩ := ix_TL (K := K) r8 w.f hx3_1
      obtain ⟨_, rfl, ix3⟩ := ix_2a (K := K) r9 w.f
      obtain ⟨stores2, estores1⟩ : ∃ stores2 : Nat, stores2 = stores1 ^^^ x3.1 := ⟨_, rfl⟩
      replace hW := hW stores2 estores1
      refine a_asg (v := (.int ((stores2 : Nat) : Int))) (v_eq (vn_xor (val_var rfl) (ix3 (ix2 (fl4 (val_var rfl)) (val_var rfl)) val_c)) (by rw [estores1])) ?_
      refine hN6 _ _ ?_
      obtain ⟨v10, r11, fl5⟩ := fl_32 (K := K) T.cl_Machine T.na_Machine_nexts r1 w.f
      obtain ⟨v11, r12, fl6⟩ := fl_32 (K := K) T.cl_Machine T.na_Machine_nexts r1 w.f
      obtain ⟨x4, hx4_1, hW⟩ := hW
      obtain ⟨v12, r13, ix4⟩ := ix_TL (K := K) r12 w.f hx4_1
      obtain ⟨v13, r14, fl7⟩ := fl_32 (K := K) T.cl_Machine T.na_Machine_nexts r1 w.f
      obtain ⟨v14, r15, fl8⟩ := fl_32 (K := K) T.cl_Machine T.na_Machine_nexts r1 w.f
      obtain ⟨x5, hx5_1, hW⟩ := hW
      obtain ⟨v15, r16, ix5⟩ := ix_TL (K := K) r15 w.f hx5_1
      obtain ⟨_, rfl, ix6⟩ := ix_2b (K := K) r16 w.f
      obtain ⟨inputs2, einputs1⟩ : ∃ inputs2 : Nat, inputs2 = inputs1 ^^^ x5.2 := ⟨_, rfl⟩
      replace hW := hW inputs2 einputs1
      refine a_asg (v := (.int ((inputs2 : Nat) : Int))) (v_eq (vn_xor (val_var rfl) (ix6 (ix5 (fl8 (val_var rfl)) (val_var rfl)) val_c)) (by rw [einputs1])) ?_
      exact hN5 (stores2, inputs2) _ _ _ ⟨_, w, gx1, rfl⟩ hW
    · intro s6 σ' F7 H6 hI2 hW
      obtain ⟨stores1, inputs1⟩ := s6
      obtain ⟨o1, w, gx2, rfl⟩ := hI2
      have r1 := Rep.mono _ gx2 r1
      have r2 := Rep.mono _ gx2 r2
      have r3 := Rep.mono _ gx2 r3
      refine hN4 _ _ ?_
      refine a_retE ?_
      refine e_tup ?_
      refine a_val (v := (.int ((stores1 : Nat) : Int))) (val_var rfl) ?_
      refine a_val (v := (.int ((inputs1 : Nat) : Int))) (val_var rfl) ?_
      refine a_nil ?_
      refine n_tup2 (e := pN) (f := pN) (x := stores1) (y := inputs1) rfl rfl w ?_
      intro p4 F8 H7 s7 r18
      replace r1 := Rep.mono _ s7.g r1
      replace r2 := Rep.mono _ s7.g r2
      replace w := w.tr s7
      replace gx2 := Ex.tr gx2 s7.g
      exact hQ _ hW _ _ _ w r18
abbrev s_need_turns : Stmt := topS 17
/-! need_turns -/
def W_need_turns (turns1 : An) (E_BadRow : Prop) (R : Unit → Prop) : Prop := jn (fun kk => W_is_whole turns1 fun z1 => if z1 = true then (∃ y1 : Int, turns1 = An.i y1 ∧ kk (decide (¬ (((0 : Nat) : Int) ≤ y1 ∧ y1 ≤ ((20 : Nat) : Int))))) else (kk true)) fun b1 => if b1 = true then (E_BadRow) else (R ())
def sp_need_turns (K : PySem.W.Frag) (cc : Cz) : Sp := fun vs H Q E => ∃ (F : Hp) (v1 : V) (turns1 : An) (E_BadRow : Prop) (R : Unit → Prop), vs = [v1] ∧ Ex F H ∧ pA.r F v1 turns1 ∧ W_need_turns turns1 E_BadRow R ∧ (E_BadRow → ∀ F' H', Wf F H F' H' → E (.ref cc.BadRow) none H') ∧ ∀ z, R z → ∀ F' H', Wf F H F' H' → Q .non H'
abbrev N_need_turns : List Str := ["turns"]
theorem sc_need_turns : FnScope N_need_turns ["turns"] (defScope s_need_turns) := ⟨rfl, rfl, rfl, by decide +kernel, rfl, by decide +kernel, by decide +kernel⟩
theorem ok_need_turns {P : Program} {w0 : World} {K : PySem.W.Frag} {mg : Str → Option Value} {base : Heap} {f : Addr} {fd : FuncData} {cc : Cz} (T : Tz K mg cc) (FU : Fun K "need_turns" "need_turns" s_need_turns f fd) (hm : mg "need_turns" = some (.ref f)) (hb : Binds K fd ["turns"] []) (c_is_whole : Fn P w0 K mg base CX0 1 "is_whole" ["thing"] (sp_is_whole K cc)) : Fn P w0 K mg base (L2.CX P w0) 2 "need_turns" ["turns"] (sp_need_turns K cc) := by
  refine ⟨f, fd, FU.okX sc_need_turns (fun vs H Q E h => ?_) (fun cdv A outer s H0 vs Q E hr h => ?_), hm, FU.kp, hb⟩
  · obtain ⟨_, _, _, _, _, rfl, _⟩ := h; rfl
  · obtain ⟨F0, v1, turns1, E_BadRow, R, rfl, wf, r1, hW, hE_BadRow, hQ⟩ := h
    have nd := sc_need_turns.nd
    refine ⟨(tIfS (tOr (tNot (tB (tCall (sp_is_whole K cc) [] E0 (tCons (tVar 0) tNil)))) (tNot (tTest (tChain kLe kLe (tC (.int 0)) (tVar 0) (tC (.int 20)))))) (tRaise (fun cls d _ H => E cls d H) cc.BadRow) tNext), (pss_one (ps_if (PW.pt (pw_or (pt_not (pt_val (pe_fn c_is_whole (hr.mono (by decide)) rfl (pa_cons (pv 0) pa_nil)))) (pw_or1 (pt_not (pt_chain op_le op_le pe_int (pv 0) (pe_globE T.gl_MOST_TURNS rfl)))))) (pss_one (ps_raise (W := (fun cls d _ H => E cls d H)) rfl (takes_of rfl rfl rfl rfl) (pmk_own PySem.F.excBase_ValueError T.xc_BadRow.x T.xc_BadRow.g T.xc_BadRow.k (raises_own T.xc_BadRow.b T.xc_BadRow.t) (by exact rfl)))) pss_nil)), ?_⟩
    have w := Wf.id wf
    refine a_ifE ?_
    refine e_jnT hW (fun b F' H' => b = b ∧ Wf F0 H0 F' H' ∧ Ex F0 F') ?_ ?_
    · intro N1 hN1 hW
      have gx1 : Ex F0 F0 := Ex.rfl'
      refine e_tOr ?_
      refine e_tNot ?_
      refine e_tB ?_
      refine e_call ?_
      refine a_val (v := v1) (val_var rfl) ?_
      refine a_nil ?_
      refine ⟨F0, (v1), (turns1), _, rfl, w.f, r1, hW, ?_⟩
      intro z1 hW F1 H1 s1
      replace r1 := Rep.mono _ s1.g r1
      replace w := w.tr s1
      replace gx1 := Ex.tr gx1 s1.g
      refine bl_v ?_
      refine bb_ifn (fun hc1 => ?_) (fun hc1 => ?_)
      · have hW := ifP hW hc1
        obtain ⟨y1, hy1, hW⟩ := hW
        have hv1 := an_i r1 hy1
        refine e_ans (b := decide (¬ (((0 : Nat) : Int) ≤ y1 ∧ y1 ≤ ((20 : Nat) : Int)))) (t_not (t_of (vb_of (v_chain (b1 := decide (((0 : Nat) : Int) ≤ y1)) (b2 := decide (y1 ≤ ((20 : Nat) : Int))) (x := (.int ((0 : Nat) : Int))) (y := (.int (y1))) (z := (.int ((20 : Nat) : Int))) val_c (v_eq (val_var rfl) hv1) val_c (fun Q k => rv2 (c_le val_c val_c) k) (fun Q k => rv2 (c_le val_c val_c) k)) dec_and))) ?_
        exact hN1 (decide (¬ (((0 : Nat) : Int) ≤ y1 ∧ y1 ≤ ((20 : Nat) : Int)))) _ _ ⟨rfl, w, gx1⟩ hW
      · have hW := ifN hW hc1
        exact hN1 true _ _ ⟨rfl, w, gx1⟩ hW
    intro b1 F2 H2 hI1 hW
    obtain ⟨_, w, gx2⟩ := hI1
    have r1 := Rep.mono _ gx2 r1
    refine bb_if (fun hc2 => ?_) (fun hc2 => ?_)
    · have hW := ifP hW hc2
      refine a_raise ?_
      exact hE_BadRow hW _ _ w
    · have hW := ifN hW hc2
      exact hQ _ hW _ _ w
abbrev s_need_handed : Stmt := topS 18
/-! need_handed -/
def W_need_handed (machine1 : Nat × List (Nat × Nat) × List (Nat × Nat)) (rows1 : An) (E_BadRow : Prop) (R : Unit → Prop) : Prop := jn (fun kk => if ¬ ((isA "list" rows1) = true) then (kk true) else (∃ ys1 : List An, rows1 = An.l ys1 ∧ kk (decide (20 < ys1.length)))) fun b1 => if b1 = true then (E_BadRow) else (∃ ys2 : List An, rows1 = An.l ys2 ∧ forW ys2 () (fun row1 _ nx1 bk1 => W_is_mask row1 machine1.1 fun z1 => if z1 = true then (nx1 ()) else (E_BadRow)) fun _ => R ())
def sp_need_handed (K : PySem.W.Frag) (cc : Cz) : Sp := fun vs H Q E => ∃ (F : Hp) (v1 : V) (machine1 : Nat × List (Nat × Nat) × List (Nat × Nat)) (v2 : V) (rows1 : An) (E_BadRow : Prop) (R : Unit → Prop), vs = [v1, v2] ∧ Ex F H ∧ (pO3 cc.Machine "inputs" "nexts" "outs" pN (pTL (pT2 pN pN)) (pTL (pT2 pN pN))).r F v1 machine1 ∧ pA.r F v2 rows1 ∧ W_need_handed machine1 rows1 E_BadRow R ∧ (E_BadRow → ∀ F' H', Wf F H F' H' → E (.ref cc.BadRow) none H') ∧ ∀ z, R z → ∀ F' H', Wf F H F' H' → Q .non H'
abbrev N_need_handed : List Str := ["machine", "rows", "row"]
theorem sc_need_handed : FnScope N_need_handed ["machine", "rows"] (defScope s_need_handed) := ⟨rfl, rfl, rfl, by decide +kernel, rfl, by decide +kernel, by decide +kernel⟩
theorem ok_need_handed {P : Program} {w0 : World} {K : PySem.W.Frag} {mg : Str → Option Value} {base : Heap} {f : Addr} {fd : FuncData} {cc : Cz} (T : Tz K mg cc) (FU : Fun K "need_handed" "need_handed" s_need_handed f fd) (hm : mg "need_handed" = some (.ref f)) (hb : Binds K fd ["machine", "rows"] []) (c_is_mask : Fn P w0 K mg base CX0 2 "is_mask" ["thing", "width"] (sp_is_mask K cc)) (n_isinstance : mg "isinstance" = none) (n_len : mg "len" = none) (n_list : mg "list" = none) : Fn P w0 K mg base (L2.CX P w0) 3 "need_handed" ["machine", "rows"] (sp_need_handed K cc) := by
  refine ⟨f, fd, FU.okX sc_need_handed (fun vs H Q E h => ?_) (fun cdv A outer s H0 vs Q E hr h => ?_), hm, FU.kp, hb⟩
  · obtain ⟨_, _, _, _, _, _, _, rfl, _⟩ := h; rfl
  · obtain ⟨F0, v1, machine1, v2, rows1, E_BadRow, R, rfl, wf, r1, r2, hW, hE_BadRow, hQ⟩ := h
    have nd := sc_need_handed.nd
    refine ⟨(tSeq (tIfS (tOr (tNot (tB (tCB (rIsi K) (tCons (tVar 1) (tCons (tC (.ty "list")) tNil))))) (tTest (tOp kGt (tCB (Wk.rLen K) (tCons (tVar 1) tNil)) (tC (.int 20))))) (tRaise (fun cls d _ H => E cls d H) cc.BadRow) tNext) (tFor (iList K (tVar 1)) (gName 2) (tIfS (tNot (tB (tCall (sp_is_mask K cc) [] E0 (tCons (tVar 2) (tCons (tFld K (tVar 0) "inputs") tNil))))) (tRaise (fun cls d _ H => E cls d H) cc.BadRow) tNext))), (pss_cons (ps_if (PW.pt (pw_or (pt_not (pt_val (pe_callB call_isi (by rfl) n_isinstance PyProof.Rows.boot_isinstance (pa_cons (pv 1) (pa_cons (pe_bltn (v := .ty "list") (by rfl) n_list PyProof.Rows.boot_list rfl) pa_nil))))) (pw_or1 (pt_cmpR op_gt (pe_callB call_len_seq (by rfl) n_len PySem.boot_len (pa_cons (pv 1) pa_nil)) (pe_globE T.gl_MOST_TURNS rfl) (nomark _))))) (pss_one (ps_raise (W := (fun cls d _ H => E cls d H)) rfl (takes_of rfl rfl rfl rfl) (pmk_own PySem.F.excBase_ValueError T.xc_BadRow.x T.xc_BadRow.g T.xc_BadRow.k (raises_own T.xc_BadRow.b T.xc_BadRow.t) (by exact rfl)))) pss_nil) (pss_one (ps_for (passes_of rfl) rfl (pi_list (pv 1)) (pg_name (i := 2) nd rfl (Or.inl rfl)) (pss_one (ps_if (pt_not (pt_val (pe_fn c_is_mask (hr.mono (by decide)) rfl (pa_cons (pv 2) (pa_cons (pe_fld (pv 0) rfl) pa_nil))))) (pss_one (ps_raise (W := (fun cls d _ H => E cls d H)) rfl (takes_of rfl rfl rfl rfl) (pmk_own PySem.F.excBase_ValueError T.xc_BadRow.x T.xc_BadRow.g T.xc_BadRow.k (raises_own T.xc_BadRow.b T.xc_BadRow.t) (by exact rfl)))) pss_nil))))), ?_⟩
    have w := Wf.id wf
    refine q_sq fun N1 hN1 => ?_
    refine a_ifE ?_
    refine e_jnT hW (fun b F' H' => b = b ∧ Wf F0 H0 F' H' ∧ Ex F0 F') ?_ ?_
    · intro N2 hN2 hW
      have gx1 : Ex F0 F0 := Ex.rfl'
      refine e_tOr ?_
      refine e_ans (b := decide (¬ ((isA "list" rows1) = true))) (t_not (t_ofB (vb_of (v_isiA "list" (val_var rfl) r2 w.f) dec_tt))) ?_
      refine b_if (fun hc1 => ?_) (fun hc1 => ?_)
      · have hW := ifP hW hc1
        exact hN2 true _ _ ⟨rfl, w, gx1⟩ hW
      · have hW := ifN hW hc1
        obtain ⟨ys1, hy1, hW⟩ := hW
        have r3 := an_toL r2 hy1
        refine e_ans (b := decide (20 < ys1.length)) (t_of (vb_dec (c_gt (len_L r3 w.f (val_var rfl)) val_c) n_lt)) ?_
        exact hN2 (decide (20 < ys1.length)) _ _ ⟨rfl, w, gx1⟩ hW
    intro b1 F1 H1 hI1 hW
    obtain ⟨_, w, gx2⟩ := hI1
    have r1 := Rep.mono _ gx2 r1
    have r2 := Rep.mono _ gx2 r2
    refine bb_if (fun hc2 => ?_) (fun hc2 => ?_)
    · have hW := ifP hW hc2
      refine a_raise ?_
      exact hE_BadRow hW _ _ w
    · have hW := ifN hW hc2
      refine hN1 _ _ ?_
      obtain ⟨ys2, hy2, hW⟩ := hW
      have r4 := an_toL r2 hy2
      refine f_LE ?_
      refine e_val (v := v2) (val_var rfl) ?_
      refine w_forL (S := Unit) (fun _ σ' F' H' => ∃ (o1 : Option V), Wf F0 H0 F' H' ∧ Ex F1 F' ∧ σ' = [some v1, some v2, o1]) r4 hW ⟨_, w, Ex.rfl', rfl⟩ (fun s σ' F' H' hI => by obtain ⟨_, w', gx', _⟩ := hI; exact ⟨gx', w'.f⟩) w.f ?_ ?_
      · intro N3 Bk1 row1 u1 s1 σ' F2 H2 nx1 bk1 hI2 hx1 ru1 hW hN3 hB1
        obtain ⟨o1, w, gx3, rfl⟩ := hI2
        have r1 := Rep.mono _ gx3 r1
        have r4 := Rep.mono _ gx3 r4
        refine g_name ?_
        refine a_ifE ?_
        refine e_tNot ?_
        refine e_tB ?_
        refine e_call ?_
        refine a_val (v := u1) (val_var rfl) ?_
        obtain ⟨_, rfl, fl1⟩ := fl_31 (K := K) T.cl_Machine T.na_Machine_inputs r1 w.f
        refine a_val (v := (.int ((machine1.1 : Nat) : Int))) (fl1 (val_var rfl)) ?_
        refine a_nil ?_
        refine ⟨F2, (u1), (row1), (machine1.1), _, rfl, w.f, ru1, hW, ?_⟩
        intro z1 hW F3 H3 s2
        replace r1 := Rep.mono _ s2.g r1
        replace r4 := Rep.mono _ s2.g r4
        replace ru1 := Rep.mono _ s2.g ru1
        replace w := w.tr s2
        replace gx3 := Ex.tr gx3 s2.g
        refine bl_v ?_
        refine bb_ifn (fun hc3 => ?_) (fun hc3 => ?_)
        · have hW := ifP hW hc3
          exact hN3 () _ _ _ ⟨_, w, gx3, rfl⟩ hW
        · have hW := ifN hW hc3
          refine a_raise ?_
          exact hE_BadRow hW _ _ w
      · intro s3 σ' F4 H4 hI3 hW
        obtain ⟨o1, w, gx4, rfl⟩ := hI3
        have r1 := Rep.mono _ gx4 r1
        have r4 := Rep.mono _ gx4 r4
        exact hQ _ hW _ _ w
abbrev s_check_masks : Stmt := topS 19
/-! check_masks -/
def W_check_masks (machine1 : Nat × List (Nat × Nat) × List (Nat × Nat)) (turns1 : An) (E_BadRow : Prop) (R : (List Nat) → Prop) : Prop := W_need_turns turns1 (E_BadRow) fun z1 => ∃ y1 : Nat, turns1 = An.i ((y1 : Nat) : Int) ∧ W_Machine_stores machine1 fun z2 => (z2 < 1000000) ∧ forW (List.range z2) ([] : List Nat) (fun store1 found1 nx1 bk1 => (store1 < 100000000) ∧ ∀ later1 : Nat, later1 = 2 ^ store1 → (y1 < 1000000) ∧ forW ((List.range y1).reverse) (later1, 0) (fun turn1 (later2, mask1) nx2 bk2 => W_Machine_back machine1 (An.i ((later2 : Nat) : Int)) False fun z3 => (NMul turn1 machine1.1) ∧ (NShl z3.2 (turn1 * machine1.1)) ∧ ∀ mask2 : Nat, mask2 = mask1 ||| (z3.2 <<< (turn1 * machine1.1)) → nx2 (z3.1, mask2)) fun (later2, mask1) => (found1.length < 1000000) ∧ nx1 (found1 ++ [mask1])) fun found1 => R found1
def sp_check_masks (K : PySem.W.Frag) (cc : Cz) : Sp := fun vs H Q E => ∃ (F : Hp) (v1 : V) (machine1 : Nat × List (Nat × Nat) × List (Nat × Nat)) (v2 : V) (turns1 : An) (E_BadRow : Prop) (R : (List Nat) → Prop), vs = [v1, v2] ∧ Ex F H ∧ (pO3 cc.Machine "inputs" "nexts" "outs" pN (pTL (pT2 pN pN)) (pTL (pT2 pN pN))).r F v1 machine1 ∧ pA.r F v2 turns1 ∧ W_check_masks machine1 turns1 E_BadRow R ∧ (E_BadRow → ∀ F' H', Wf F H F' H' → E (.ref cc.BadRow) none H') ∧ ∀ z, R z → ∀ p F' H', Wf F H F' H' → XL pN H F' H' p z → Q (.ref p) H'
abbrev N_check_masks : List Str := ["machine", "turns", "found", "store", "mask", "later", "turn", "signs"]
theorem sc_check_masks : FnScope N_check_masks ["machine", "turns"] (defScope s_check_masks) := ⟨rfl, rfl, rfl, by decide +kernel, rfl, by decide +kernel, by decide +kernel⟩
theorem ok_check_masks {P : Program} {w0 : World} {K : PySem.W.Frag} {mg : Str → Option Value} {base : Heap} {f : Addr} {fd : FuncData} {cc : Cz} (T : Tz K mg cc) (FU : Fun K "check_masks" "check_masks" s_check_masks f fd) (hm : mg "check_masks" = some (.ref f)) (hb : Binds K fd ["machine", "turns"] []) (c_need_turns : Fn P w0 K mg base (L2.CX P w0) 2 "need_turns" ["turns"] (sp_need_turns K cc)) (c_Machine_stores : Md P w0 K mg base CX0 1 cc.Machine "stores" ["self"] (sp_Machine_stores K cc)) (c_Machine_back : Md P w0 K mg base (L2.CX P w0) 4 cc.Machine "back" ["self", "mask"] (sp_Machine_back K cc)) (n_range : mg "range" = none) : Fn P w0 K mg base (L2.CX P w0) 5 "check_masks" ["machine", "turns"] (sp_check_masks K cc) := by
  refine ⟨f, fd, FU.okX sc_check_masks (fun vs H Q E h => ?_) (fun cdv A outer s H0 vs Q E hr h => ?_), hm, FU.kp, hb⟩
  · obtain ⟨_, _, _, _, _, _, _, rfl, _⟩ := h; rfl
  · obtain ⟨F0, v1, machine1, v2, turns1, E_BadRow, R, rfl, wf, r1, r2, hW, hE_BadRow, hQ⟩ := h
    have nd := sc_check_masks.nd
    refine ⟨(tSeq (tDrop (tCallS (sp_need_turns K cc) (WE (fun cls d _ H => E cls d H)) (tCons (tVar 1) tNil))) (tSeq (tAsg (tLst tNil) (gName 2)) (tSeq (tFor (iRng1 (tCons (tMeth cc.Machine "stores" (sp_Machine_stores K cc) [] E0 (tVar 0) tNil) tNil)) (gName 3) (tSeq (tAsg (tC (.int 0)) (gName 4)) (tSeq (tAsg (tOp kShl (tC (.int 1)) (tVar 3)) (gName 5)) (tSeq (tFor (iRng3 (tCons (tOp kSub (tVar 1) (tC (.int 1))) (tCons (tUn kNeg (tC (.int 1))) (tCons (tUn kNeg (tC (.int 1))) tNil)))) (gName 6) (tSeq (tAsg (tMdS cc.Machine "back" (sp_Machine_back K cc) (WE (fun cls d _ H => E cls d H)) (tVar 0) (tCons (tVar 5) tNil)) (gTup K 2 (gCons (gName 5) (gCons (gName 7) gNil)))) (tAug 4 (tOp kShl (tVar 7) (tOp kMul (tVar 6) (tFld K (tVar 0) "inputs"))) kOr))) (tDrop (tBM K "list" rAppend (tVar 2) (tCons (tVar 4) tNil))))))) (tRet (tVar 2))))), (pss_cons (ps_expr (pe_fnS (W := (fun cls d _ H => E cls d H)) c_need_turns (takes_of rfl rfl rfl rfl) (hr.mono (by decide)) rfl (pa_cons (pv 1) pa_nil))) (pss_cons (ps_set (i := 2) nd rfl (Or.inl rfl) (pe_lst pa_nil)) (pss_cons (ps_for (passes_of rfl) rfl (pi_range1 rfl n_range (pa_cons (pe_md0 c_Machine_stores T.cl_Machine (hr.mono (by decide)) (pv 0)) pa_nil)) (pg_name (i := 3) nd rfl (Or.inl rfl)) (pss_cons (ps_set (i := 4) nd rfl (Or.inl rfl) pe_int) (pss_cons (ps_set (i := 5) nd rfl (Or.inl rfl) (pe_op op_shlW pe_int (pv 3))) (pss_cons (ps_for (passes_of rfl) rfl (pi_range3 (by rfl) n_range (pa_cons (pe_op op_sub (pv 1) pe_int) (pa_cons (pe_un un_neg pe_int) (pa_cons (pe_un un_neg pe_int) pa_nil)))) (pg_name (i := 6) nd rfl (Or.inl rfl)) (pss_cons (ps_asg (pe_mdS (W := (fun cls d _ H => E cls d H)) c_Machine_back (takes_of rfl rfl rfl rfl) T.cl_Machine (hr.mono (by decide)) (pv 0) (pa_cons (pv 5) pa_nil)) (pg_tup rfl (pgs_cons (pg_name (i := 5) nd rfl (Or.inl rfl)) (pgs_cons (pg_name (i := 7) nd rfl (Or.inl rfl)) pgs_nil)) (by rfl))) (pss_one (ps_aug (i := 4) nd rfl (Or.inl rfl) (pe_op op_shlW (pv 7) (pe_op op_mul (pv 6) (pe_fld (pv 0) rfl))) iop_or)))) (pss_one (ps_expr (pe_bm PySem.F.plainAttrs_list PySem.F.slot_list_append PySem.F.type_list_append mt_append (pv 2) (pa_cons (pv 4) pa_nil)))))))) (pss_one (ps_ret (pv 2)))))), ?_⟩
    have w := Wf.id wf
    refine q_sq fun N1 hN1 => ?_
    refine a_dropE ?_
    refine e_callS ?_
    refine a_val (v := v2) (val_var rfl) ?_
    refine a_nil ?_
    refine ⟨F0, (v2), (turns1), _, _, rfl, w.f, r2, hW, ?_, ?_⟩
    · intro hW F1 H1 s1
      replace r1 := Rep.mono _ s1.g r1
      replace r2 := Rep.mono _ s1.g r2
      replace w := w.tr s1
      exact hE_BadRow hW _ _ w
    intro z1 hW F2 H2 s2
    replace r1 := Rep.mono _ s2.g r1
    replace r2 := Rep.mono _ s2.g r2
    replace w := w.tr s2
    obtain ⟨y1, hy1, hW⟩ := hW
    obtain rfl : v2 = .int ((y1 : Nat) : Int) := an_i r2 hy1
    refine hN1 _ _ ?_
    refine q_sq fun N2 hN2 => ?_
    refine a_asgE ?_
    refine e_lst ?_
    refine a_nil ?_
    refine n_lstX (e := pN) (xs := []) (vs := []) (show All pN _ [] [] from trivial) (show 0 < 1000000 from by decide) w ?_
    intro p1 H3 hp1 s3 x1
    replace r1 := Rep.mono _ s3.g r1
    replace w := w.tr s3
    refine hN2 _ _ ?_
    refine q_sq fun N3 hN3 => ?_
    refine f_RE ?_
    refine e_md ?_
    refine e_val (v := v1) (val_var rfl) ?_
    obtain ⟨p2, dx1, fs1, ev1, ho1, lm1⟩ := me_3 (m := "stores") r1 w.f
    refine ⟨_, _, _, ev1, ho1, lm1, ?_⟩
    refine a_nil ?_
    refine ⟨F2, (v1), (machine1), _, rfl, w.f, r1, hW, ?_⟩
    intro z2 hW F3 H4 s4
    replace r1 := Rep.mono _ s4.g r1
    replace x1 := x1.step s4
    replace w := w.tr s4
    obtain ⟨c1, hW⟩ := hW
    refine w_forR (S := List Nat) (fun found1 σ' F' H' => ∃ (o1 : Option V) (o2 : Option V) (o3 : Option V) (o4 : Option V) (o5 : Option V), Wf F0 H0 F' H' ∧ Ex F3 F' ∧ σ' = [some v1, some (.int ((y1 : Nat) : Int)), some ((.ref p1)), o1, o2, o3, o4, o5] ∧ XL pN H0 F' H' p1 found1) c1 hW ⟨_, _, _, _, _, w, Ex.rfl', rfl, x1⟩ ?_ ?_
    · intro N4 Bk1 store1 found1 σ' F4 H5 nx1 bk1 hI1 hx1 hW hN4 hB1
      obtain ⟨o1, o2, o3, o4, o5, w, gx1, rfl, x2⟩ := hI1
      have r1 := Rep.mono _ gx1 r1
      refine g_name ?_
      refine q_sq fun N5 hN5 => ?_
      refine a_asg (v := (.int ((0 : Nat) : Int))) val_c ?_
      refine hN5 _ _ ?_
      refine q_sq fun N6 hN6 => ?_
      obtain ⟨c2, hW⟩ := hW
      obtain ⟨later1, elater1⟩ : ∃ later1 : Nat, later1 = 2 ^ store1 := ⟨_, rfl⟩
      replace hW := hW later1 elater1
      refine a_asg (v := (.int ((later1 : Nat) : Int))) (v_eq (vn_one val_c (val_var rfl) c2) (by rw [elater1])) ?_
      refine hN6 _ _ ?_
      refine q_sq fun N7 hN7 => ?_
      refine f_J ?_
      refine a_val (v := (.int (((y1 : Nat) : Int) - ((1 : Nat) : Int)))) (vi0 (val_var rfl) val_c) ?_
      refine a_val (v := (.int (-1))) (v_neg val_c) ?_
      refine a_val (v := (.int (-1))) (v_neg val_c) ?_
      refine a_nil ?_
      obtain ⟨c3, hW⟩ := hW
      refine src_down (F := F4) (n := y1) (by omega) c3 (fun J1 T1 => ?_)
      refine w_forG (S := Nat × Nat) T1 (fun s σ' F' H' => match s with | (later2, mask1) => ∃ (o6 : Option V) (o7 : Option V), Wf F0 H0 F' H' ∧ Ex F4 F' ∧ σ' = [some v1, some (.int ((y1 : Nat) : Int)), some (.ref p1), some (.int ((store1 : Nat) : Int)), some (.int ((mask1 : Nat) : Int)), some (.int ((later2 : Nat) : Int)), o6, o7] ∧ XL pN H0 F' H' p1 found1) hW ⟨_, _, w, Ex.rfl', rfl, x2⟩ (fun s σ' F' H' hI => by obtain ⟨later2, mask1⟩ := s; obtain ⟨_, _, w', gx', _⟩ := hI; exact ⟨gx', w'.f⟩) w.f ?_ ?_
      · intro N8 Bk2 turn1 u2 s6 σ' F5 H6 F6 H7 nx2 bk2 hI2 hx2 s7 ru2 hW hN8 hB2
        obtain ⟨later2, mask1⟩ := s6
        obtain ⟨o6, o7, w, gx2, rfl, x3⟩ := hI2
        have r1 := Rep.mono _ gx2 r1
        have gx1 := Ex.tr gx1 gx2
        replace r1 := Rep.mono _ s7.g r1
        replace x3 := x3.step s7
        replace w := w.tr s7
        replace gx2 := Ex.tr gx2 s7.g
        replace gx1 := Ex.tr gx1 s7.g
        obtain rfl : u2 = (.int ((turn1 : Nat) : Int)) := ru2
        refine g_name ?_
        refine q_sq fun N9 hN9 => ?_
        refine a_asgG ?_
        refine e_mdS ?_
        refine e_val (v := v1) (val_var rfl) ?_
        obtain ⟨p3, dx2, fs2, ev2, ho2, lm2⟩ := me_3 (m := "back") r1 w.f
        refine ⟨_, _, _, ev2, ho2, lm2, ?_⟩
        refine a_val (v := (.int ((later2 : Nat) : Int))) (val_var rfl) ?_
        refine a_nil ?_
        refine ⟨F6, (v1), (machine1), ((.int ((later2 : Nat) : Int))), ((An.i ((later2 : Nat) : Int))), _, _, rfl, w.f, r1, (show pA.r _ (.int ((later2 : Nat) : Int)) (An.i ((later2 : Nat) : Int)) from rfl), hW, ?_, ?_⟩
        · intro hW; exact hW.elim
        intro z3 hW v3 F7 H8 s8 r3
        replace r1 := Rep.mono _ s8.g r1
        replace x3 := x3.step s8
        replace w := w.tr s8
        replace gx2 := Ex.tr gx2 s8.g
        replace gx1 := Ex.tr gx1 s8.g
        obtain ⟨p4, u3, u4, rfl, h1, rfl, rfl⟩ := r3
        refine ⟨p4, _, rfl, SqT.of (w.f _ _ h1), rfl, _, _, rfl, _, _, rfl, rfl, ?_⟩
        refine hN9 _ _ ?_
        obtain ⟨_, rfl, fl1⟩ := fl_31 (K := K) T.cl_Machine T.na_Machine_inputs r1 w.f
        obtain ⟨c4, hW⟩ := hW
        obtain ⟨c5, hW⟩ := hW
        obtain ⟨mask2, emask1⟩ : ∃ mask2 : Nat, mask2 = mask1 ||| (z3.2 <<< (turn1 * machine1.1)) := ⟨_, rfl⟩
        replace hW := hW mask2 emask1
        refine a_augV (x := (.int ((mask1 : Nat) : Int))) (y := (.int ((z3.2 <<< (turn1 * machine1.1) : Nat) : Int))) (z := (.int ((mask2 : Nat) : Int))) rfl (vn_shl (val_var rfl) (vn_mul (val_var rfl) (fl1 (val_var rfl)) c4) c5) (v_eq (vn_or val_c val_c) (by rw [emask1])) ?_
        exact hN8 (z3.1, mask2) _ _ _ ⟨_, _, w, gx2, rfl, x3⟩ hW
      · intro s9 σ' F8 H9 hI3 hW
        obtain ⟨later2, mask1⟩ := s9
        obtain ⟨o6, o7, w, gx3, rfl, x3⟩ := hI3
        have r1 := Rep.mono _ gx3 r1
        have gx1 := Ex.tr gx1 gx3
        refine hN7 _ _ ?_
        refine a_dropE ?_
        refine m_list x3 (val_var rfl) ?_
        refine a_val (v := (.int ((mask1 : Nat) : Int))) (val_var rfl) ?_
        refine a_nil ?_
        obtain ⟨c6, hW⟩ := hW
        refine a_app x3 w c6 rfl (fun H10 w1 x4 kp1 => ?_)
        replace w := w1
        exact hN4 (found1 ++ [mask1]) _ _ _ ⟨_, _, _, _, _, w, gx1, rfl, x4⟩ hW
    · intro found1 σ' F9 H11 hI4 hW
      obtain ⟨o1, o2, o3, o4, o5, w, gx4, rfl, x2⟩ := hI4
      have r1 := Rep.mono _ gx4 r1
      refine hN3 _ _ ?_
      refine a_ret (v := (.ref p1)) (val_var rfl) ?_
      exact hQ _ hW _ _ _ w x2
abbrev s_missed : Stmt := topS 20
/-! missed -/
def W_missed (machine1 : Nat × List (Nat × Nat) × List (Nat × Nat)) (rows1 : An) (E_BadRow : Prop) (R : Bool → Prop) : Prop := W_need_handed machine1 rows1 (E_BadRow) fun z1 => ∃ ys1 : List Nat, rows1 = An.l (ys1.map anN) ∧ jn (fun kk => W_Machine_after machine1 (ys1.map anN) (An.i ((0 : Nat) : Int)) False fun z2 => if z2 = 0 then (([0].length + ys1.length < 1000000) ∧ (0 < ([0] ++ ys1).length) ∧ kk (decide (0 < (maxT ([0] ++ ys1))))) else (kk false)) fun b1 => R b1
def sp_missed (K : PySem.W.Frag) (cc : Cz) : Sp := fun vs H Q E => ∃ (F : Hp) (v1 : V) (machine1 : Nat × List (Nat × Nat) × List (Nat × Nat)) (v2 : V) (rows1 : An) (E_BadRow : Prop) (R : Bool → Prop), vs = [v1, v2] ∧ Ex F H ∧ (pO3 cc.Machine "inputs" "nexts" "outs" pN (pTL (pT2 pN pN)) (pTL (pT2 pN pN))).r F v1 machine1 ∧ pA.r F v2 rows1 ∧ W_missed machine1 rows1 E_BadRow R ∧ (E_BadRow → ∀ F' H', Wf F H F' H' → E (.ref cc.BadRow) none H') ∧ ∀ z, R z → ∀ F' H', Wf F H F' H' → Q (.bl (z)) H'
abbrev N_missed : List Str := ["machine", "rows"]
theorem sc_missed : FnScope N_missed ["machine", "rows"] (defScope s_missed) := ⟨rfl, rfl, rfl, by decide +kernel, rfl, by decide +kernel, by decide +kernel⟩
theorem ok_missed {P : Program} {w0 : World} {K : PySem.W.Frag} {mg : Str → Option Value} {base : Heap} {f : Addr} {fd : FuncData} {cc : Cz} (T : Tz K mg cc) (FU : Fun K "missed" "missed" s_missed f fd) (hm : mg "missed" = some (.ref f)) (hb : Binds K fd ["machine", "rows"] []) (c_need_handed : Fn P w0 K mg base (L2.CX P w0) 3 "need_handed" ["machine", "rows"] (sp_need_handed K cc)) (c_Machine_after : MdD P w0 K mg base (L2.CX P w0) 6 cc.Machine "after" ["self", "rows", "state"] (sp_Machine_after K cc) [.int 0]) (n_max : mg "max" = none) : Fn P w0 K mg base (L2.CX P w0) 7 "missed" ["machine", "rows"] (sp_missed K cc) := by
  refine ⟨f, fd, FU.okX sc_missed (fun vs H Q E h => ?_) (fun cdv A outer s H0 vs Q E hr h => ?_), hm, FU.kp, hb⟩
  · obtain ⟨_, _, _, _, _, _, _, rfl, _⟩ := h; rfl
  · obtain ⟨F0, v1, machine1, v2, rows1, E_BadRow, R, rfl, wf, r1, r2, hW, hE_BadRow, hQ⟩ := h
    have nd := sc_missed.nd
    refine ⟨(tSeq (tDrop (tCallS (sp_need_handed K cc) (WE (fun cls d _ H => E cls d H)) (tCons (tVar 0) (tCons (tVar 1) tNil)))) (tRet (tAndV (tOp L2.rEq (tMdD cc.Machine "after" (sp_Machine_after K cc) [.int 0] (WE (fun cls d _ H => E cls d H)) (tVar 0) (tCons (tVar 1) tNil)) (tC (.int 0))) (tOp kGt (tCB (L2.rMax K) (tCons (tOp L2.rCat (tLst (tCons (tC (.int 0)) tNil)) (tVar 1)) tNil)) (tC (.int 0)))))), (pss_cons (ps_expr (pe_fnS (W := (fun cls d _ H => E cls d H)) c_need_handed (takes_of rfl rfl rfl rfl) (hr.mono (by decide)) rfl (pa_cons (pv 0) (pa_cons (pv 1) pa_nil)))) (pss_one (ps_ret (pe_and (pe_cmpR op_eq (pe_mdD (E := (WE (fun cls d _ H => E cls d H))) c_Machine_after (fun σ => passAt (takes_of rfl rfl rfl rfl) σ) T.cl_Machine (hr.mono (by decide)) (pv 0) (pa_cons (pv 1) pa_nil)) pe_int (nomark _)) (pe_one (pe_cmpR op_gt (pe_callB (cr_max rfl) (by rfl) n_max PyProof.Rows.boot_max (pa_cons (pe_op op_cat (pe_lst (pa_cons pe_int pa_nil)) (pv 1)) pa_nil)) pe_int (nomark _))))))), ?_⟩
    have w := Wf.id wf
    refine q_sq fun N1 hN1 => ?_
    refine a_dropE ?_
    refine e_callS ?_
    refine a_val (v := v1) (val_var rfl) ?_
    refine a_val (v := v2) (val_var rfl) ?_
    refine a_nil ?_
    refine ⟨F0, (v1), (machine1), (v2), (rows1), _, _, rfl, w.f, r1, r2, hW, ?_, ?_⟩
    · intro hW F1 H1 s1
      replace r1 := Rep.mono _ s1.g r1
      replace r2 := Rep.mono _ s1.g r2
      replace w := w.tr s1
      exact hE_BadRow hW _ _ w
    intro z1 hW F2 H2 s2
    replace r1 := Rep.mono _ s2.g r1
    replace r2 := Rep.mono _ s2.g r2
    replace w := w.tr s2
    obtain ⟨ys1, hy1, hW⟩ := hW
    have r3 := an_toLN r2 hy1
    refine hN1 _ _ ?_
    refine a_retE ?_
    refine e_jnV hW (fun b F' H' => b = b ∧ Wf F0 H0 F' H' ∧ Ex F2 F') ?_ ?_
    · intro N2 hN2 hW
      have gx1 : Ex F2 F2 := Ex.rfl'
      refine e_AndV ?_
      refine e_op ?_
      refine e_mdD ?_
      refine e_val (v := v1) (val_var rfl) ?_
      obtain ⟨p1, dx1, fs1, ev1, ho1, lm1⟩ := me_3 (m := "after") r1 w.f
      refine ⟨_, _, _, ev1, ho1, lm1, ?_⟩
      refine a_val (v := v2) (val_var rfl) ?_
      refine a_nil ?_
      have r4 := L_any r3
      refine ⟨F2, (v1), (machine1), (v2), ((ys1.map anN)), ((.int ((0 : Nat) : Int))), ((An.i ((0 : Nat) : Int))), _, _, rfl, w.f, r1, r4, (show pA.r _ (.int ((0 : Nat) : Int)) (An.i ((0 : Nat) : Int)) from rfl), hW, ?_, ?_⟩
      · intro hW; exact hW.elim
      intro z2 hW F3 H3 s3
      replace r1 := Rep.mono _ s3.g r1
      replace r3 := Rep.mono _ s3.g r3
      replace w := w.tr s3
      replace gx1 := Ex.tr gx1 s3.g
      refine e_val (v := (.int ((0 : Nat) : Int))) val_c ?_
      refine rv2 (z := .bl (decide (z2 = 0))) (vb_dec (c_eqI val_c val_c) n_eq) ?_
      refine bl_if ?_
      refine b_if (fun hc1 => ?_) (fun hc1 => ?_)
      · have hW := ifP hW hc1
        refine e_op ?_
        refine e_cb ?_
        refine a_cons ?_
        refine e_op ?_
        refine e_lst ?_
        refine a_val (v := (.int ((0 : Nat) : Int))) val_c ?_
        refine a_nil ?_
        refine n_lstX (e := pN) (xs := [0]) (vs := [(.int ((0 : Nat) : Int))]) (show All pN _ [(.int ((0 : Nat) : Int))] [0] from ⟨rfl, trivial⟩) (show 1 < 1000000 from by decide) w ?_
        intro p2 H4 hp1 s4 x1
        replace r1 := Rep.mono _ s4.g r1
        replace r3 := Rep.mono _ s4.g r3
        replace w := w.tr s4
        replace gx1 := Ex.tr gx1 s4.g
        refine e_val (v := v2) (val_var rfl) ?_
        obtain ⟨F4, w1, g1, r5, fz1⟩ := x1.frzE w
        replace r1 := Rep.mono _ g1 r1
        replace r3 := Rep.mono _ g1 r3
        replace w := w1
        replace gx1 := Ex.tr gx1 g1
        obtain ⟨c1, hW⟩ := hW
        refine n_cat r5 r3 w c1 ?_
        intro p3 H5 hp2 s5 x2
        replace r1 := Rep.mono _ s5.g r1
        replace r3 := Rep.mono _ s5.g r3
        replace r5 := Rep.mono _ s5.g r5
        replace w := w.tr s5
        replace gx1 := Ex.tr gx1 s5.g
        refine a_nil ?_
        obtain ⟨c2, hW⟩ := hW
        refine rcb1 (z := (.int ((maxT ([0] ++ ys1) : Nat) : Int))) (vn_maxX x2 c2 val_c) ?_
        refine e_val (v := (.int ((0 : Nat) : Int))) val_c ?_
        refine rv2 (z := .bl (decide (0 < (maxT ([0] ++ ys1))))) (vb_dec (c_gt val_c val_c) n_lt) ?_
        exact hN2 (decide (0 < (maxT ([0] ++ ys1)))) _ _ ⟨rfl, w, gx1⟩ hW
      · have hW := ifN hW hc1
        exact hN2 false _ _ ⟨rfl, w, gx1⟩ hW
    intro b1 F5 H6 hI1 hW
    obtain ⟨_, w, gx2⟩ := hI1
    have r1 := Rep.mono _ gx2 r1
    have r3 := Rep.mono _ gx2 r3
    exact hQ _ hW _ _ w
abbrev s_turns_width : Stmt := topS 22
/-! turns_width -/
def W_turns_width (machine1 : Nat × List (Nat × Nat) × List (Nat × Nat)) (turns1 : An) (E_BadRow : Prop) (R : Nat → Prop) : Prop := W_need_turns turns1 (E_BadRow) fun z1 => ∃ y1 : Nat, turns1 = An.i ((y1 : Nat) : Int) ∧ (NMul y1 machine1.1) ∧ R (y1 * machine1.1)
def sp_turns_width (K : PySem.W.Frag) (cc : Cz) : Sp := fun vs H Q E => ∃ (F : Hp) (v1 : V) (machine1 : Nat × List (Nat × Nat) × List (Nat × Nat)) (v2 : V) (turns1 : An) (E_BadRow : Prop) (R : Nat → Prop), vs = [v1, v2] ∧ Ex F H ∧ (pO3 cc.Machine "inputs" "nexts" "outs" pN (pTL (pT2 pN pN)) (pTL (pT2 pN pN))).r F v1 machine1 ∧ pA.r F v2 turns1 ∧ W_turns_width machine1 turns1 E_BadRow R ∧ (E_BadRow → ∀ F' H', Wf F H F' H' → E (.ref cc.BadRow) none H') ∧ ∀ z, R z → ∀ F' H', Wf F H F' H' → Q (.int ((z : Nat) : Int)) H'
abbrev N_turns_width : List Str := ["machine", "turns"]
theorem sc_turns_width : FnScope N_turns_width ["machine", "turns"] (defScope s_turns_width) := ⟨rfl, rfl, rfl, by decide +kernel, rfl, by decide +kernel, by decide +kernel⟩
theorem ok_turns_width {P : Program} {w0 : World} {K : PySem.W.Frag} {mg : Str → Option Value} {base : Heap} {f : Addr} {fd : FuncData} {cc : Cz} (T : Tz K mg cc) (FU : Fun K "turns_width" "turns_width" s_turns_width f fd) (hm : mg "turns_width" = some (.ref f)) (hb : Binds K fd ["machine", "turns"] []) (c_need_turns : Fn P w0 K mg base (L2.CX P w0) 2 "need_turns" ["turns"] (sp_need_turns K cc)) : Fn P w0 K mg base (L2.CX P w0) 3 "turns_width" ["machine", "turns"] (sp_turns_width K cc) := by
  refine ⟨f, fd, FU.okX sc_turns_width (fun vs H Q E h => ?_) (fun cdv A outer s H0 vs Q E hr h => ?_), hm, FU.kp, hb⟩
  · obtain ⟨_, _, _, _, _, _, _, rfl, _⟩ := h; rfl
  · obtain ⟨F0, v1, machine1, v2, turns1, E_BadRow, R, rfl, wf, r1, r2, hW, hE_BadRow, hQ⟩ := h
    have nd := sc_turns_width.nd
    refine ⟨(tSeq (tDrop (tCallS (sp_need_turns K cc) (WE (fun cls d _ H => E cls d H)) (tCons (tVar 1) tNil))) (tRet (tOp kMul (tVar 1) (tFld K (tVar 0) "inputs")))), (pss_cons (ps_expr (pe_fnS (W := (fun cls d _ H => E cls d H)) c_need_turns (takes_of rfl rfl rfl rfl) (hr.mono (by decide)) rfl (pa_cons (pv 1) pa_nil))) (pss_one (ps_ret (pe_op op_mul (pv 1) (pe_fld (pv 0) rfl))))), ?_⟩
    have w := Wf.id wf
    refine q_sq fun N1 hN1 => ?_
    refine a_dropE ?_
    refine e_callS ?_
    refine a_val (v := v2) (val_var rfl) ?_
    refine a_nil ?_
    refine ⟨F0, (v2), (turns1), _, _, rfl, w.f, r2, hW, ?_, ?_⟩
    · intro hW F1 H1 s1
      replace r1 := Rep.mono _ s1.g r1
      replace r2 := Rep.mono _ s1.g r2
      replace w := w.tr s1
      exact hE_BadRow hW _ _ w
    intro z1 hW F2 H2 s2
    replace r1 := Rep.mono _ s2.g r1
    replace r2 := Rep.mono _ s2.g r2
    replace w := w.tr s2
    obtain ⟨y1, hy1, hW⟩ := hW
    obtain rfl : v2 = .int ((y1 : Nat) : Int) := an_i r2 hy1
    refine hN1 _ _ ?_
    obtain ⟨_, rfl, fl1⟩ := fl_31 (K := K) T.cl_Machine T.na_Machine_inputs r1 w.f
    obtain ⟨c1, hW⟩ := hW
    refine a_ret (v := (.int ((y1 * machine1.1 : Nat) : Int))) (vn_mul (val_var rfl) (fl1 (val_var rfl)) c1) ?_
    exact hQ _ hW _ _ w
abbrev s_missed_share : Stmt := topS 21
/-! missed_share -/
def W_missed_share (machine1 : Nat × List (Nat × Nat) × List (Nat × Nat)) (turns1 : An) (E_BadRow : Prop) (R : (Nat × Nat) → Prop) : Prop := W_turns_width machine1 turns1 (E_BadRow) fun z1 => W_check_masks machine1 turns1 (E_BadRow) fun z2 => W_rank z2 fun z3 => (z3 ≤ z1) ∧ ∀ free1 : Nat, free1 = z1 - z3 → (free1 < 100000000) ∧ (1 ≤ 2 ^ free1) ∧ (z1 < 100000000) ∧ (1 ≤ 2 ^ z1) ∧ R ((2 ^ free1) - 1, (2 ^ z1) - 1)
def sp_missed_share (K : PySem.W.Frag) (cc : Cz) : Sp := fun vs H Q E => ∃ (F : Hp) (v1 : V) (machine1 : Nat × List (Nat × Nat) × List (Nat × Nat)) (v2 : V) (turns1 : An) (E_BadRow : Prop) (R : (Nat × Nat) → Prop), vs = [v1, v2] ∧ Ex F H ∧ (pO3 cc.Machine "inputs" "nexts" "outs" pN (pTL (pT2 pN pN)) (pTL (pT2 pN pN))).r F v1 machine1 ∧ pA.r F v2 turns1 ∧ W_missed_share machine1 turns1 E_BadRow R ∧ (E_BadRow → ∀ F' H', Wf F H F' H' → E (.ref cc.BadRow) none H') ∧ ∀ z, R z → ∀ v F' H', Wf F H F' H' → (pT2 pN pN).r F' v z → Q v H'
abbrev N_missed_share : List Str := ["machine", "turns", "width", "free"]
theorem sc_missed_share : FnScope N_missed_share ["machine", "turns"] (defScope s_missed_share) := ⟨rfl, rfl, rfl, by decide +kernel, rfl, by decide +kernel, by decide +kernel⟩
theorem ok_missed_share {P : Program} {w0 : World} {K : PySem.W.Frag} {mg : Str → Option Value} {base : Heap} {f : Addr} {fd : FuncData} {cc : Cz} (T : Tz K mg cc) (FU : Fun K "missed_share" "missed_share" s_missed_share f fd) (hm : mg "missed_share" = some (.ref f)) (hb : Binds K fd ["machine", "turns"] []) (c_turns_width : Fn P w0 K mg base (L2.CX P w0) 3 "turns_width" ["machine", "turns"] (sp_turns_width K cc)) (c_check_masks : Fn P w0 K mg base (L2.CX P w0) 5 "check_masks" ["machine", "turns"] (sp_check_masks K cc)) (c_rank : Fn P w0 K mg base CX0 4 "rank" ["rows"] (sp_rank K cc)) : Fn P w0 K mg base (L2.CX P w0) 6 "missed_share" ["machine", "turns"] (sp_missed_share K cc) := by
  refine ⟨f, fd, FU.okX sc_missed_share (fun vs H Q E h => ?_) (fun cdv A outer s H0 vs Q E hr h => ?_), hm, FU.kp, hb⟩
  · obtain ⟨_, _, _, _, _, _, _, rfl, _⟩ := h; rfl
  · obtain ⟨F0, v1, machine1, v2, turns1, E_BadRow, R, rfl, wf, r1, r2, hW, hE_BadRow, hQ⟩ := h
    have nd := sc_missed_share.nd
    refine ⟨(tSeq (tAsg (tCallS (sp_turns_width K cc) (WE (fun cls d _ H => E cls d H)) (tCons (tVar 0) (tCons (tVar 1) tNil))) (gName 2)) (tSeq (tAsg (tOp kSub (tVar 2) (tCall (sp_rank K cc) [] E0 (tCons (tCallS (sp_check_masks K cc) (WE (fun cls d _ H => E cls d H)) (tCons (tVar 0) (tCons (tVar 1) tNil))) tNil))) (gName 3)) (tRet (tTup (tCons (tOp kSub (tOp kShl (tC (.int 1)) (tVar 3)) (tC (.int 1))) (tCons (tOp kSub (tOp kShl (tC (.int 1)) (tVar 2)) (tC (.int 1))) tNil)))))), (pss_cons (ps_set (i := 2) nd rfl (Or.inl rfl) (pe_fnS (W := (fun cls d _ H => E cls d H)) c_turns_width (takes_of rfl rfl rfl rfl) (hr.mono (by decide)) rfl (pa_cons (pv 0) (pa_cons (pv 1) pa_nil)))) (pss_cons (ps_set (i := 3) nd rfl (Or.inl rfl) (pe_op op_sub (pv 2) (pe_fn c_rank (hr.mono (by decide)) rfl (pa_cons (pe_fnS (W := (fun cls d _ H => E cls d H)) c_check_masks (takes_of rfl rfl rfl rfl) (hr.mono (by decide)) rfl (pa_cons (pv 0) (pa_cons (pv 1) pa_nil))) pa_nil)))) (pss_one (ps_ret (pe_tup (pa_cons (pe_op op_sub (pe_op op_shlW pe_int (pv 3)) pe_int) (pa_cons (pe_op op_sub (pe_op op_shlW pe_int (pv 2)) pe_int) pa_nil))))))), ?_⟩
    have w := Wf.id wf
    refine q_sq fun N1 hN1 => ?_
    refine a_asgE ?_
    refine e_callS ?_
    refine a_val (v := v1) (val_var rfl) ?_
    refine a_val (v := v2) (val_var rfl) ?_
    refine a_nil ?_
    refine ⟨F0, (v1), (machine1), (v2), (turns1), _, _, rfl, w.f, r1, r2, hW, ?_, ?_⟩
    · intro hW F1 H1 s1
      replace r1 := Rep.mono _ s1.g r1
      replace r2 := Rep.mono _ s1.g r2
      replace w := w.tr s1
      exact hE_BadRow hW _ _ w
    intro z1 hW F2 H2 s2
    replace r1 := Rep.mono _ s2.g r1
    replace r2 := Rep.mono _ s2.g r2
    replace w := w.tr s2
    refine hN1 _ _ ?_
    refine q_sq fun N2 hN2 => ?_
    refine a_asgE ?_
    refine e_op ?_
    refine e_val (v := (.int ((z1 : Nat) : Int))) (val_var rfl) ?_
    refine e_call ?_
    refine a_cons ?_
    refine e_callS ?_
    refine a_val (v := v1) (val_var rfl) ?_
    refine a_val (v := v2) (val_var rfl) ?_
    refine a_nil ?_
    refine ⟨F2, (v1), (machine1), (v2), (turns1), _, _, rfl, w.f, r1, r2, hW, ?_, ?_⟩
    · intro hW F3 H3 s3
      replace r1 := Rep.mono _ s3.g r1
      replace r2 := Rep.mono _ s3.g r2
      replace w := w.tr s3
      exact hE_BadRow hW _ _ w
    intro z2 hW p1 F4 H4 s4 x1
    replace x1 := x1.base w
    replace r1 := Rep.mono _ s4.g r1
    replace r2 := Rep.mono _ s4.g r2
    replace w := w.tr s4
    refine a_nil ?_
    obtain ⟨Fl1, lf1, lg1, lr1⟩ := x1.lend w
    refine ⟨Fl1, ((.ref p1)), (z2), _, rfl, lf1, lr1, hW, ?_⟩
    intro z3 hW F5 H5 s5
    replace s5 := Wf.grow w.f s5.h
    replace r1 := Rep.mono _ s5.g r1
    replace r2 := Rep.mono _ s5.g r2
    replace x1 := x1.step s5
    replace w := w.tr s5
    obtain ⟨c1, hW⟩ := hW
    refine rv2 (z := (.int ((z1 - z3 : Nat) : Int))) (vn_sub val_c val_c c1) ?_
    obtain ⟨free1, efree1⟩ : ∃ free1 : Nat, free1 = z1 - z3 := ⟨_, rfl⟩
    replace hW := hW free1 efree1
    refine nx_set (v := (.int ((free1 : Nat) : Int))) (by rw [efree1]) ?_
    refine hN2 _ _ ?_
    refine a_retE ?_
    refine e_tup ?_
    obtain ⟨c2, hW⟩ := hW
    obtain ⟨c3, hW⟩ := hW
    refine a_val (v := (.int (((2 ^ free1) - 1 : Nat) : Int))) (vn_sub (vn_one val_c (val_var rfl) c2) val_c c3) ?_
    obtain ⟨c4, hW⟩ := hW
    obtain ⟨c5, hW⟩ := hW
    refine a_val (v := (.int (((2 ^ z1) - 1 : Nat) : Int))) (vn_sub (vn_one val_c (val_var rfl) c4) val_c c5) ?_
    refine a_nil ?_
    refine n_tup2 (e := pN) (f := pN) (x := (2 ^ free1) - 1) (y := (2 ^ z1) - 1) rfl rfl w ?_
    intro p2 F6 H6 s6 r3
    replace r1 := Rep.mono _ s6.g r1
    replace r2 := Rep.mono _ s6.g r2
    replace w := w.tr s6
    exact hQ _ hW _ _ _ w r3
abbrev s_rows_in : Stmt := topS 23
/-! rows_in -/
def W_rows_in (mask1 : Nat) (turns1 : Nat) (inputs1 : Nat) (R : (List Nat) → Prop) : Prop := (turns1 < 1000000) ∧ forW (List.range turns1) (mask1, ([] : List Nat)) (fun turn1 (mask2, rows1) nx1 bk1 => (inputs1 < 100000000) ∧ (NDiv (2 ^ inputs1)) ∧ (rows1.length < 1000000) ∧ nx1 (mask2 / (2 ^ inputs1), rows1 ++ [mask2 % (2 ^ inputs1)])) fun (mask2, rows1) => R rows1
def sp_rows_in (K : PySem.W.Frag) (cc : Cz) : Sp := fun vs H Q _ => ∃ (F : Hp) (mask1 : Nat) (turns1 : Nat) (inputs1 : Nat) (R : (List Nat) → Prop), vs = [(.int ((mask1 : Nat) : Int)), (.int ((turns1 : Nat) : Int)), (.int ((inputs1 : Nat) : Int))] ∧ Ex F H ∧ W_rows_in mask1 turns1 inputs1 R ∧ ∀ z, R z → ∀ p F' H', Wf F H F' H' → XL pN H F' H' p z → Q (.ref p) H'
abbrev N_rows_in : List Str := ["mask", "turns", "inputs", "rows", "turn", "row"]
theorem sc_rows_in : FnScope N_rows_in ["mask", "turns", "inputs"] (defScope s_rows_in) := ⟨rfl, rfl, rfl, by decide +kernel, rfl, by decide +kernel, by decide +kernel⟩
theorem ok_rows_in {P : Program} {w0 : World} {K : PySem.W.Frag} {mg : Str → Option Value} {base : Heap} {f : Addr} {fd : FuncData} {cc : Cz} (T : Tz K mg cc) (FU : Fun K "rows_in" "rows_in" s_rows_in f fd) (hm : mg "rows_in" = some (.ref f)) (hb : Binds K fd ["mask", "turns", "inputs"] []) (n_divmod : mg "divmod" = none) (n_range : mg "range" = none) : Fn P w0 K mg base CX0 1 "rows_in" ["mask", "turns", "inputs"] (sp_rows_in K cc) := by
  refine ⟨f, fd, FU.ok sc_rows_in (fun vs H Q E h => ?_) (fun cdv A outer s H0 vs Q E hr h => ?_), hm, FU.kp, hb⟩
  · obtain ⟨_, _, _, _, _, rfl, _⟩ := h; rfl
  · obtain ⟨F0, mask1, turns1, inputs1, R, rfl, wf, hW, hQ⟩ := h
    have nd := sc_rows_in.nd
    refine ⟨(tSeq (tAsg (tLst tNil) (gName 3)) (tSeq (tFor (iRng1 (tCons (tVar 1) tNil)) (gName 4) (tSeq (tAsg (tCB rDivmod (tCons (tVar 0) (tCons (tOp kShl (tC (.int 1)) (tVar 2)) tNil))) (gTup K 2 (gCons (gName 0) (gCons (gName 5) gNil)))) (tDrop (tBM K "list" rAppend (tVar 3) (tCons (tVar 5) tNil))))) (tRet (tVar 3)))), (pss_cons (ps_set (i := 3) nd rfl (Or.inl rfl) (pe_lst pa_nil)) (pss_cons (ps_for PassesOwn.never rfl (pi_range1 rfl n_range (pa_cons (pv 1) pa_nil)) (pg_name (i := 4) nd rfl (Or.inl rfl)) (pss_cons (ps_asg (pe_callB call_divmodW (by rfl) n_divmod PyProof.Rows.boot_divmod (pa_cons (pv 0) (pa_cons (pe_op op_shlW pe_int (pv 2)) pa_nil))) (pg_tup rfl (pgs_cons (pg_name (i := 0) nd rfl (Or.inl rfl)) (pgs_cons (pg_name (i := 5) nd rfl (Or.inl rfl)) pgs_nil)) (by rfl))) (pss_one (ps_expr (pe_bm PySem.F.plainAttrs_list PySem.F.slot_list_append PySem.F.type_list_append mt_append (pv 3) (pa_cons (pv 5) pa_nil)))))) (pss_one (ps_ret (pv 3))))), ?_⟩
    have w := Wf.id wf
    refine q_sq fun N1 hN1 => ?_
    refine a_asgE ?_
    refine e_lst ?_
    refine a_nil ?_
    refine n_lstX (e := pN) (xs := []) (vs := []) (show All pN _ [] [] from trivial) (show 0 < 1000000 from by decide) w ?_
    intro p1 H1 hp1 s1 x1
    replace w := w.tr s1
    refine hN1 _ _ ?_
    refine q_sq fun N2 hN2 => ?_
    refine f_RE ?_
    refine e_val (v := (.int ((turns1 : Nat) : Int))) (val_var rfl) ?_
    obtain ⟨c1, hW⟩ := hW
    refine w_forR (S := Nat × List Nat) (fun s σ' F' H' => match s with | (mask2, rows1) => ∃ (o1 : Option V) (o2 : Option V), Wf F0 H0 F' H' ∧ Ex F0 F' ∧ σ' = [some (.int ((mask2 : Nat) : Int)), some (.int ((turns1 : Nat) : Int)), some (.int ((inputs1 : Nat) : Int)), some ((.ref p1)), o1, o2] ∧ XL pN H0 F' H' p1 rows1) c1 hW ⟨_, _, w, Ex.rfl', rfl, x1⟩ ?_ ?_
    · intro N3 Bk1 turn1 s2 σ' F1 H2 nx1 bk1 hI1 hx1 hW hN3 hB1
      obtain ⟨mask2, rows1⟩ := s2
      obtain ⟨o1, o2, w, gx1, rfl, x2⟩ := hI1
      refine g_name ?_
      refine q_sq fun N4 hN4 => ?_
      refine a_asgG ?_
      refine e_cb ?_
      refine a_val (v := (.int ((mask2 : Nat) : Int))) (val_var rfl) ?_
      obtain ⟨c2, hW⟩ := hW
      refine a_val (v := (.int ((2 ^ inputs1 : Nat) : Int))) (vn_one val_c (val_var rfl) c2) ?_
      refine a_nil ?_
      obtain ⟨c3, hW⟩ := hW
      refine nDivmod (a := mask2) (b := 2 ^ inputs1) c3 w ?_
      intro v1 F2 H3 s3 r1
      replace x2 := x2.step s3
      replace w := w.tr s3
      replace gx1 := Ex.tr gx1 s3.g
      obtain ⟨p2, u2, u3, rfl, h1, rfl, rfl⟩ := r1
      refine ⟨p2, _, rfl, SqT.of (w.f _ _ h1), rfl, _, _, rfl, _, _, rfl, rfl, ?_⟩
      refine hN4 _ _ ?_
      refine a_dropE ?_
      refine m_list x2 (val_var rfl) ?_
      refine a_val (v := (.int ((mask2 % (2 ^ inputs1) : Nat) : Int))) (val_var rfl) ?_
      refine a_nil ?_
      obtain ⟨c4, hW⟩ := hW
      refine a_app x2 w c4 rfl (fun H4 w1 x3 kp1 => ?_)
      replace w := w1
      exact hN3 (mask2 / (2 ^ inputs1), rows1 ++ [mask2 % (2 ^ inputs1)]) _ _ _ ⟨_, _, w, gx1, rfl, x3⟩ hW
    · intro s4 σ' F3 H5 hI2 hW
      obtain ⟨mask2, rows1⟩ := s4
      obtain ⟨o1, o2, w, gx2, rfl, x2⟩ := hI2
      refine hN2 _ _ ?_
      refine a_ret (v := (.ref p1)) (val_var rfl) ?_
      exact hQ _ hW _ _ _ w x2
abbrev s_missed_base : Stmt := topS 24
/-! missed_base -/
def W_missed_base (machine1 : Nat × List (Nat × Nat) × List (Nat × Nat)) (turns1 : An) (E_BadRow : Prop) (R : (List (List Nat)) → Prop) : Prop := W_turns_width machine1 turns1 (E_BadRow) fun z1 => W_check_masks machine1 turns1 (E_BadRow) fun z2 => W_across z2 z1 fun z3 => (z3.length < 1000000) ∧ compW z3 (fun mask1 kk => ∃ y1 : Nat, turns1 = An.i ((y1 : Nat) : Int) ∧ W_rows_in mask1 y1 machine1.1 fun z4 => kk (some z4)) fun ys1 => R ys1
def sp_missed_base (K : PySem.W.Frag) (cc : Cz) : Sp := fun vs H Q E => ∃ (F : Hp) (v1 : V) (machine1 : Nat × List (Nat × Nat) × List (Nat × Nat)) (v2 : V) (turns1 : An) (E_BadRow : Prop) (R : (List (List Nat)) → Prop), vs = [v1, v2] ∧ Ex F H ∧ (pO3 cc.Machine "inputs" "nexts" "outs" pN (pTL (pT2 pN pN)) (pTL (pT2 pN pN))).r F v1 machine1 ∧ pA.r F v2 turns1 ∧ W_missed_base machine1 turns1 E_BadRow R ∧ (E_BadRow → ∀ F' H', Wf F H F' H' → E (.ref cc.BadRow) none H') ∧ ∀ z, R z → ∀ v F' H', Wf F H F' H' → Fre H (pL (pL pN)) F' v z → Q v H'
abbrev N_missed_base : List Str := ["machine", "turns", "width", "masks", "mask"]
theorem sc_missed_base : FnScope N_missed_base ["machine", "turns"] (defScope s_missed_base) := ⟨rfl, rfl, rfl, by decide +kernel, rfl, by decide +kernel, by decide +kernel⟩
theorem ok_missed_base {P : Program} {w0 : World} {K : PySem.W.Frag} {mg : Str → Option Value} {base : Heap} {f : Addr} {fd : FuncData} {cc : Cz} (T : Tz K mg cc) (FU : Fun K "missed_base" "missed_base" s_missed_base f fd) (hm : mg "missed_base" = some (.ref f)) (hb : Binds K fd ["machine", "turns"] []) (c_turns_width : Fn P w0 K mg base (L2.CX P w0) 3 "turns_width" ["machine", "turns"] (sp_turns_width K cc)) (c_check_masks : Fn P w0 K mg base (L2.CX P w0) 5 "check_masks" ["machine", "turns"] (sp_check_masks K cc)) (c_across : Fn P w0 K mg base CX0 4 "across" ["rows", "width"] (sp_across K cc)) (c_rows_in : Fn P w0 K mg base CX0 1 "rows_in" ["mask", "turns", "inputs"] (sp_rows_in K cc)) : Fn P w0 K mg base (L2.CX P w0) 6 "missed_base" ["machine", "turns"] (sp_missed_base K cc) := by
  refine ⟨f, fd, FU.okX sc_missed_base (fun vs H Q E h => ?_) (fun cdv A outer s H0 vs Q E hr h => ?_), hm, FU.kp, hb⟩
  · obtain ⟨_, _, _, _, _, _, _, rfl, _⟩ := h; rfl
  · obtain ⟨F0, v1, machine1, v2, turns1, E_BadRow, R, rfl, wf, r1, r2, hW, hE_BadRow, hQ⟩ := h
    have nd := sc_missed_base.nd
    refine ⟨(tSeq (tAsg (tCallS (sp_turns_width K cc) (WE (fun cls d _ H => E cls d H)) (tCons (tVar 0) (tCons (tVar 1) tNil))) (gName 2)) (tSeq (tAsg (tCall (sp_across K cc) [] E0 (tCons (tCallS (sp_check_masks K cc) (WE (fun cls d _ H => E cls d H)) (tCons (tVar 0) (tCons (tVar 1) tNil))) (tCons (tVar 2) tNil))) (gName 3)) (tRet (tLc (iList K (tVar 3)) (gName 4) tYes (tCall (sp_rows_in K cc) [] E0 (tCons (tVar 4) (tCons (tVar 1) (tCons (tFld K (tVar 0) "inputs") tNil)))) [4])))), (pss_cons (ps_set (i := 2) nd rfl (Or.inl rfl) (pe_fnS (W := (fun cls d _ H => E cls d H)) c_turns_width (takes_of rfl rfl rfl rfl) (hr.mono (by decide)) rfl (pa_cons (pv 0) (pa_cons (pv 1) pa_nil)))) (pss_cons (ps_set (i := 3) nd rfl (Or.inl rfl) (pe_fn c_across (hr.mono (by decide)) rfl (pa_cons (pe_fnS (W := (fun cls d _ H => E cls d H)) c_check_masks (takes_of rfl rfl rfl rfl) (hr.mono (by decide)) rfl (pa_cons (pv 0) (pa_cons (pv 1) pa_nil))) (pa_cons (pv 2) pa_nil)))) (pss_one (ps_ret (pe_lc (own := [("mask", 4)]) (wi := (iList K (tVar 3))) (g := (gName 4)) (tt := tYes) (te := (tCall (sp_rows_in K cc) [] E0 (tCons (tVar 4) (tCons (tVar 1) (tCons (tFld K (tVar 0) "inputs") tNil))))) rfl nd (pi_list (pv 3)) (blkOk_by (N := N_missed_base) (sc := defScope s_missed_base) (by decide +kernel)) (fun _ _ _ _ _ => (pg_name (i := 4) nd rfl (Or.inl rfl))) (fun _ _ _ _ _ => pts_nil) (fun _ _ _ _ _ => (pe_fn c_rows_in (hr.mono (by decide)) rfl (pa_cons (pv 4) (pa_cons (pv 1) (pa_cons (pe_fld (pv 0) rfl) pa_nil)))))))))), ?_⟩
    have w := Wf.id wf
    refine q_sq fun N1 hN1 => ?_
    refine a_asgE ?_
    refine e_callS ?_
    refine a_val (v := v1) (val_var rfl) ?_
    refine a_val (v := v2) (val_var rfl) ?_
    refine a_nil ?_
    refine ⟨F0, (v1), (machine1), (v2), (turns1), _, _, rfl, w.f, r1, r2, hW, ?_, ?_⟩
    · intro hW F1 H1 s1
      replace r1 := Rep.mono _ s1.g r1
      replace r2 := Rep.mono _ s1.g r2
      replace w := w.tr s1
      exact hE_BadRow hW _ _ w
    intro z1 hW F2 H2 s2
    replace r1 := Rep.mono _ s2.g r1
    replace r2 := Rep.mono _ s2.g r2
    replace w := w.tr s2
    refine hN1 _ _ ?_
    refine q_sq fun N2 hN2 => ?_
    refine a_asgE ?_
    refine e_call ?_
    refine a_cons ?_
    refine e_callS ?_
    refine a_val (v := v1) (val_var rfl) ?_
    refine a_val (v := v2) (val_var rfl) ?_
    refine a_nil ?_
    refine ⟨F2, (v1), (machine1), (v2), (turns1), _, _, rfl, w.f, r1, r2, hW, ?_, ?_⟩
    · intro hW F3 H3 s3
      replace r1 := Rep.mono _ s3.g r1
      replace r2 := Rep.mono _ s3.g r2
      replace w := w.tr s3
      exact hE_BadRow hW _ _ w
    intro z2 hW p1 F4 H4 s4 x1
    replace x1 := x1.base w
    replace r1 := Rep.mono _ s4.g r1
    replace r2 := Rep.mono _ s4.g r2
    replace w := w.tr s4
    refine a_val (v := (.int ((z1 : Nat) : Int))) (val_var rfl) ?_
    refine a_nil ?_
    obtain ⟨F5, w1, g1, r3, fz1⟩ := x1.frzE w
    replace r1 := Rep.mono _ g1 r1
    replace r2 := Rep.mono _ g1 r2
    replace w := w1
    refine ⟨F5, ((.ref p1)), (z2), (z1), _, rfl, w.f, r3, hW, ?_⟩
    intro z3 hW p2 F6 H5 s5 x2
    replace x2 := x2.base w
    replace r1 := Rep.mono _ s5.g r1
    replace r2 := Rep.mono _ s5.g r2
    replace r3 := Rep.mono _ s5.g r3
    replace w := w.tr s5
    obtain ⟨F7, w2, g2, r4, fz2⟩ := x2.frzE w
    replace r1 := Rep.mono _ g2 r1
    replace r2 := Rep.mono _ g2 r2
    replace r3 := Rep.mono _ g2 r3
    replace w := w2
    refine hN2 _ _ ?_
    refine a_retE ?_
    have wb := w
    refine c_LE ?_
    refine e_val (v := (.ref p2)) (val_var rfl) ?_
    obtain ⟨c1, hW⟩ := hW
    refine w_compL (e := (pNew H0 (pL pN))) r4 w c1 hW ?_ ?_
    · intro Qy Qn mask1 u1 F8 H6 R1 q1 hx1 ru1 hW hy1 hn1
      have r1 := Rep.mono _ q1.g r1
      have r2 := Rep.mono _ q1.g r2
      have r4 := Rep.mono _ q1.g r4
      have w := Wf.id q1.f
      obtain rfl : u1 = (.int ((mask1 : Nat) : Int)) := ru1
      refine ⟨rfl, ?_⟩
      refine c_yes ?_
      refine e_call ?_
      refine a_val (v := (.int ((mask1 : Nat) : Int))) (val_var rfl) ?_
      obtain ⟨y1, hy2, hW⟩ := hW
      have hv1 := an_i r2 hy2
      refine a_val (v := (.int ((y1 : Nat) : Int))) (v_eq (val_var rfl) hv1) ?_
      obtain ⟨_, rfl, fl1⟩ := fl_31 (K := K) T.cl_Machine T.na_Machine_inputs r1 w.f
      refine a_val (v := (.int ((machine1.1 : Nat) : Int))) (fl1 (val_var rfl)) ?_
      refine a_nil ?_
      refine ⟨F8, (mask1), (y1), (machine1.1), _, rfl, w.f, hW, ?_⟩
      intro z4 hW p3 F9 H7 s6 x3
      replace x3 := x3.base w
      replace r1 := Rep.mono _ s6.g r1
      replace r2 := Rep.mono _ s6.g r2
      replace r4 := Rep.mono _ s6.g r4
      replace w := w.tr s6
      obtain ⟨F10, w3, g3, r6, fz3⟩ := XL.frzN x3 w
      replace w := w3
      have r7 := new_base (e := pL pN) (wb.tr q1) (show (pNew _ (pL pN)).r _ _ _ from r6)
      exact hy1 _ _ _ _ w r7 hW
    intro p4 ys1 F11 H8 hp1 s7 x4 hW
    replace r1 := Rep.mono _ s7.g r1
    replace r2 := Rep.mono _ s7.g r2
    replace r4 := Rep.mono _ s7.g r4
    replace w := w.tr s7
    obtain ⟨F12, w4, g4, r8, fz4⟩ := XL.frzNN x4 w
    exact hQ _ hW _ _ _ w4 r8
abbrev s_cell : Stmt := topS 34
/-! _law_cell -/
def W_cell (script1 : List Int) (k1 : Nat) (R : Int → Prop) : Prop := if k1 < script1.length then (∃ x1, script1[k1]? = some x1 ∧ R x1) else (R (((41 * k1) + 3 : Nat) : Int))
def sp_cell (K : PySem.W.Frag) (cc : Cz) : Sp := fun vs H Q _ => ∃ (F : Hp) (v1 : V) (script1 : List Int) (k1 : Nat) (R : Int → Prop), vs = [v1, (.int ((k1 : Nat) : Int))] ∧ Ex F H ∧ (pScr K).r F v1 script1 ∧ W_cell script1 k1 R ∧ ∀ z, R z → ∀ F' H', Wf F H F' H' → Q (.int (z)) H'
abbrev N_cell : List Str := ["_law_script", "_law_k"]
theorem sc_cell : FnScope N_cell ["_law_script", "_law_k"] (defScope s_cell) := ⟨rfl, rfl, rfl, by decide +kernel, rfl, by decide +kernel, by decide +kernel⟩
theorem ok_cell {P : Program} {w0 : World} {K : PySem.W.Frag} {mg : Str → Option Value} {base : Heap} {f : Addr} {fd : FuncData} {cc : Cz} (T : Tz K mg cc) (FU : Fun K "_law_cell" "_law_cell" s_cell f fd) (hm : mg "_law_cell" = some (.ref f)) (hb : Binds K fd ["_law_script", "_law_k"] []) (n_len : mg "len" = none) : Fn P w0 K mg base CX0 1 "_law_cell" ["_law_script", "_law_k"] (sp_cell K cc) := by
  refine ⟨f, fd, FU.ok sc_cell (fun vs H Q E h => ?_) (fun cdv A outer s H0 vs Q E hr h => ?_), hm, FU.kp, hb⟩
  · obtain ⟨_, _, _, _, _, rfl, _⟩ := h; rfl
  · obtain ⟨F0, v1, script1, k1, R, rfl, wf, r1, hW, hQ⟩ := h
    have nd := sc_cell.nd
    refine ⟨(tSeq (tIfS (tTest (tOp kLt (tVar 1) (tCB (Wk.rLen K) (tCons (tVar 0) tNil)))) (tRet (tOp (L2.rIxL K) (tVar 0) (tVar 1))) tNext) (tRet (tOp kAdd (tOp kMul (tC (.int 41)) (tVar 1)) (tC (.int 3))))), (pss_cons (ps_if (pt_cmpR op_lt (pv 1) (pe_callB call_len_seq (by rfl) n_len PySem.boot_len (pa_cons (pv 0) pa_nil)) (nomark _)) (pss_one (ps_ret (pe_ix ix_list (pv 0) (pv 1) (fun _ _ => rfl)))) pss_nil) (pss_one (ps_ret (pe_op op_add (pe_op op_mul pe_int (pv 1)) pe_int)))), ?_⟩
    have w := Wf.id wf
    refine q_sq fun N1 hN1 => ?_
    refine a_ifE ?_
    refine e_ans (b := decide (k1 < script1.length)) (t_of (vb_dec (c_lt (val_var rfl) (len_S r1 w.f (val_var rfl))) n_lt)) ?_
    refine b_if (fun hc1 => ?_) (fun hc1 => ?_)
    · have hW := ifP hW hc1
      obtain ⟨x1, hx1_1, hW⟩ := hW
      have ix1 := ix_S (K := K) w.f r1 hx1_1
      refine a_ret (v := (.int (x1))) (ix1 (val_var rfl) (val_var rfl)) ?_
      exact hQ _ hW _ _ w
    · have hW := ifN hW hc1
      refine hN1 _ _ ?_
      refine a_ret (v := (.int ((((41 * k1) + 3 : Nat) : Int)))) (vn_add (vn_mul val_c (val_var rfl) (.inl (by decide))) val_c) ?_
      exact hQ _ hW _ _ w
abbrev s_mix : Stmt := topS 35
/-! _law_mix -/
def W_mix (cell_here1 : Int) (k1 : Nat) (R : Nat → Prop) : Prop := ∀ number1 : Nat, number1 = ((((modN cell_here1 2147483647) * 48271) + (7919 * k1)) + 11) % 2147483647 → (NMul number1 number1) ∧ ∀ number2 : Nat, number2 = (number1 * number1) % 2147483629 → (NMul number2 ((number2 + (48271 * k1)) + 7)) ∧ R ((number2 * ((number2 + (48271 * k1)) + 7)) % 2147483587)
def sp_mix (K : PySem.W.Frag) (cc : Cz) : Sp := fun vs H Q _ => ∃ (F : Hp) (cell_here1 : Int) (k1 : Nat) (R : Nat → Prop), vs = [(.int (cell_here1)), (.int ((k1 : Nat) : Int))] ∧ Ex F H ∧ W_mix cell_here1 k1 R ∧ ∀ z, R z → ∀ F' H', Wf F H F' H' → Q (.int ((z : Nat) : Int)) H'
abbrev N_mix : List Str := ["_law_cell_here", "_law_k", "_law_number"]
theorem sc_mix : FnScope N_mix ["_law_cell_here", "_law_k"] (defScope s_mix) := ⟨rfl, rfl, rfl, by decide +kernel, rfl, by decide +kernel, by decide +kernel⟩
theorem ok_mix {P : Program} {w0 : World} {K : PySem.W.Frag} {mg : Str → Option Value} {base : Heap} {f : Addr} {fd : FuncData} {cc : Cz} (T : Tz K mg cc) (FU : Fun K "_law_mix" "_law_mix" s_mix f fd) (hm : mg "_law_mix" = some (.ref f)) (hb : Binds K fd ["_law_cell_here", "_law_k"] []) : Fn P w0 K mg base CX0 1 "_law_mix" ["_law_cell_here", "_law_k"] (sp_mix K cc) := by
  refine ⟨f, fd, FU.ok sc_mix (fun vs H Q E h => ?_) (fun cdv A outer s H0 vs Q E hr h => ?_), hm, FU.kp, hb⟩
  · obtain ⟨_, _, _, _, rfl, _⟩ := h; rfl
  · obtain ⟨F0, cell_here1, k1, R, rfl, wf, hW, hQ⟩ := h
    have nd := sc_mix.nd
    refine ⟨(tSeq (tAsg (tOp kMod (tOp kAdd (tOp kAdd (tOp kMul (tOp kMod (tVar 0) (tC (.int 2147483647))) (tC (.int 48271))) (tOp kMul (tC (.int 7919)) (tVar 1))) (tC (.int 11))) (tC (.int 2147483647))) (gName 2)) (tSeq (tAsg (tOp kMod (tOp kMul (tVar 2) (tVar 2)) (tC (.int 2147483629))) (gName 2)) (tRet (tOp kMod (tOp kMul (tVar 2) (tOp kAdd (tOp kAdd (tVar 2) (tOp kMul (tC (.int 48271)) (tVar 1))) (tC (.int 7)))) (tC (.int 2147483587)))))), (pss_cons (ps_set (i := 2) nd rfl (Or.inl rfl) (pe_op op_mod (pe_op op_add (pe_op op_add (pe_op op_mul (pe_op op_mod (pv 0) pe_int) pe_int) (pe_op op_mul pe_int (pv 1))) pe_int) pe_int)) (pss_cons (ps_set (i := 2) nd rfl (Or.inl rfl) (pe_op op_mod (pe_op op_mul (pv 2) (pv 2)) pe_int)) (pss_one (ps_ret (pe_op op_mod (pe_op op_mul (pv 2) (pe_op op_add (pe_op op_add (pv 2) (pe_op op_mul pe_int (pv 1))) pe_int)) pe_int))))), ?_⟩
    have w := Wf.id wf
    refine q_sq fun N1 hN1 => ?_
    obtain ⟨number1, enumber1⟩ : ∃ number1 : Nat, number1 = ((((modN cell_here1 2147483647) * 48271) + (7919 * k1)) + 11) % 2147483647 := ⟨_, rfl⟩
    replace hW := hW number1 enumber1
    refine a_asg (v := (.int ((number1 : Nat) : Int))) (v_eq (vn_mod (vn_add (vn_add (vn_mul (vm_mod (val_var rfl) val_c (by decide)) val_c (.inr (by decide))) (vn_mul val_c (val_var rfl) (.inl (by decide)))) val_c) val_c (by decide)) (by rw [enumber1])) ?_
    refine hN1 _ _ ?_
    refine q_sq fun N2 hN2 => ?_
    obtain ⟨c1, hW⟩ := hW
    obtain ⟨number2, enumber2⟩ : ∃ number2 : Nat, number2 = (number1 * number1) % 2147483629 := ⟨_, rfl⟩
    replace hW := hW number2 enumber2
    refine a_asg (v := (.int ((number2 : Nat) : Int))) (v_eq (vn_mod (vn_mul (val_var rfl) (val_var rfl) c1) val_c (by decide)) (by rw [enumber2])) ?_
    refine hN2 _ _ ?_
    obtain ⟨c2, hW⟩ := hW
    refine a_ret (v := (.int (((number2 * ((number2 + (48271 * k1)) + 7)) % 2147483587 : Nat) : Int))) (vn_mod (vn_mul (val_var rfl) (vn_add (vn_add (val_var rfl) (vn_mul val_c (val_var rfl) (.inl (by decide)))) val_c) c2) val_c (by decide)) ?_
    exact hQ _ hW _ _ w
abbrev s_masks : Stmt := topS 36
/-! _law_masks -/
def W_masks (cell_here1 : Int) (start1 : Nat) (many1 : Nat) (width1 : Nat) (digits1 : Bool) (R : (List Nat) → Prop) : Prop := (NMul many1 width1) ∧ ((many1 * width1) + 1 < 100000000) ∧ ∀ left1 : Nat, left1 = (modN cell_here1 (2 ^ ((many1 * width1) + 1))) / 2 → (many1 < 1000000) ∧ forW (List.range many1) (([] : List Nat), left1) (fun k1 (found1, left2) nx1 bk1 => if digits1 = true then ((width1 < 100000000) ∧ (found1.length < 1000000) ∧ (width1 < 100000000) ∧ (NDiv (2 ^ width1)) ∧ ∀ left3 : Nat, left3 = left2 / (2 ^ width1) → nx1 (found1 ++ [left2 % (2 ^ width1)], left3)) else (W_mix cell_here1 (start1 + k1) fun z1 => (width1 < 100000000) ∧ (found1.length < 1000000) ∧ nx1 (found1 ++ [z1 % (2 ^ width1)], left2))) fun (found1, left2) => R found1
def sp_masks (K : PySem.W.Frag) (cc : Cz) : Sp := fun vs H Q _ => ∃ (F : Hp) (cell_here1 : Int) (start1 : Nat) (many1 : Nat) (width1 : Nat) (digits1 : Bool) (R : (List Nat) → Prop), vs = [(.int (cell_here1)), (.int ((start1 : Nat) : Int)), (.int ((many1 : Nat) : Int)), (.int ((width1 : Nat) : Int)), (.bl (digits1))] ∧ Ex F H ∧ W_masks cell_here1 start1 many1 width1 digits1 R ∧ ∀ z, R z → ∀ p F' H', Wf F H F' H' → XL pN H F' H' p z → Q (.ref p) H'
abbrev N_masks : List Str := ["_law_cell_here", "_law_start", "_law_many", "_law_width", "_law_digits", "_law_found", "_law_left", "_law_k"]
theorem sc_masks : FnScope N_masks ["_law_cell_here", "_law_start", "_law_many", "_law_width", "_law_digits"] (defScope s_masks) := ⟨rfl, rfl, rfl, by decide +kernel, rfl, by decide +kernel, by decide +kernel⟩
theorem ok_masks {P : Program} {w0 : World} {K : PySem.W.Frag} {mg : Str → Option Value} {base : Heap} {f : Addr} {fd : FuncData} {cc : Cz} (T : Tz K mg cc) (FU : Fun K "_law_masks" "_law_masks" s_masks f fd) (hm : mg "_law_masks" = some (.ref f)) (hb : Binds K fd ["_law_cell_here", "_law_start", "_law_many", "_law_width", "_law_digits"] []) (c_mix : Fn P w0 K mg base CX0 1 "_law_mix" ["_law_cell_here", "_law_k"] (sp_mix K cc)) (n_range : mg "range" = none) : Fn P w0 K mg base CX0 2 "_law_masks" ["_law_cell_here", "_law_start", "_law_many", "_law_width", "_law_digits"] (sp_masks K cc) := by
  refine ⟨f, fd, FU.ok sc_masks (fun vs H Q E h => ?_) (fun cdv A outer s H0 vs Q E hr h => ?_), hm, FU.kp, hb⟩
  · obtain ⟨_, _, _, _, _, _, _, rfl, _⟩ := h; rfl
  · obtain ⟨F0, cell_here1, start1, many1, width1, digits1, R, rfl, wf, hW, hQ⟩ := h
    have nd := sc_masks.nd
    refine ⟨(tSeq (tAsg (tLst tNil) (gName 5)) (tSeq (tAsg (tOp kDiv (tOp kMod (tVar 0) (tOp kShl (tC (.int 1)) (tOp kAdd (tOp kMul (tVar 2) (tVar 3)) (tC (.int 1))))) (tC (.int 2))) (gName 6)) (tSeq (tFor (iRng1 (tCons (tVar 2) tNil)) (gName 7) (tIfS (tB (tVar 4)) (tSeq (tDrop (tBM K "list" rAppend (tVar 5) (tCons (tOp kMod (tVar 6) (tOp kShl (tC (.int 1)) (tVar 3))) tNil))) (tAsg (tOp kDiv (tVar 6) (tOp kShl (tC (.int 1)) (tVar 3))) (gName 6))) (tDrop (tBM K "list" rAppend (tVar 5) (tCons (tOp kMod (tCall (sp_mix K cc) [] E0 (tCons (tVar 0) (tCons (tOp kAdd (tVar 1) (tVar 7)) tNil))) (tOp kShl (tC (.int 1)) (tVar 3))) tNil))))) (tRet (tVar 5))))), (pss_cons (ps_set (i := 5) nd rfl (Or.inl rfl) (pe_lst pa_nil)) (pss_cons (ps_set (i := 6) nd rfl (Or.inl rfl) (pe_op op_fdivW (pe_op op_mod (pv 0) (pe_op op_shlW pe_int (pe_op op_add (pe_op op_mul (pv 2) (pv 3)) pe_int))) pe_int)) (pss_cons (ps_for PassesOwn.never rfl (pi_range1 rfl n_range (pa_cons (pv 2) pa_nil)) (pg_name (i := 7) nd rfl (Or.inl rfl)) (pss_one (ps_if (pt_val (pv 4)) (pss_cons (ps_expr (pe_bm PySem.F.plainAttrs_list PySem.F.slot_list_append PySem.F.type_list_append mt_append (pv 5) (pa_cons (pe_op op_mod (pv 6) (pe_op op_shlW pe_int (pv 3))) pa_nil))) (pss_one (ps_set (i := 6) nd rfl (Or.inl rfl) (pe_op op_fdivW (pv 6) (pe_op op_shlW pe_int (pv 3)))))) (pss_one (ps_expr (pe_bm PySem.F.plainAttrs_list PySem.F.slot_list_append PySem.F.type_list_append mt_append (pv 5) (pa_cons (pe_op op_mod (pe_fn c_mix (hr.mono (by decide)) rfl (pa_cons (pv 0) (pa_cons (pe_op op_add (pv 1) (pv 7)) pa_nil))) (pe_op op_shlW pe_int (pv 3))) pa_nil))))))) (pss_one (ps_ret (pv 5)))))), ?_⟩
    have w := Wf.id wf
    refine q_sq fun N1 hN1 => ?_
    refine a_asgE ?_
    refine e_lst ?_
    refine a_nil ?_
    refine n_lstX (e := pN) (xs := []) (vs := []) (show All pN _ [] [] from trivial) (show 0 < 1000000 from by decide) w ?_
    intro p1 H1 hp1 s1 x1
    replace w := w.tr s1
    refine hN1 _ _ ?_
    refine q_sq fun N2 hN2 => ?_
    obtain ⟨c1, hW⟩ := hW
    obtain ⟨c2, hW⟩ := hW
    obtain ⟨left1, eleft1⟩ : ∃ left1 : Nat, left1 = (modN cell_here1 (2 ^ ((many1 * width1) + 1))) / 2 := ⟨_, rfl⟩
    replace hW := hW left1 eleft1
    refine a_asg (v := (.int ((left1 : Nat) : Int))) (v_eq (vn_div (vm_mod (val_var rfl) (vn_one val_c (vn_add (vn_mul (val_var rfl) (val_var rfl) c1) val_c) c2) (Nat.two_pow_pos _)) val_c ⟨by decide, by decide +kernel⟩) (by rw [eleft1])) ?_
    refine hN2 _ _ ?_
    refine q_sq fun N3 hN3 => ?_
    refine f_RE ?_
    refine e_val (v := (.int ((many1 : Nat) : Int))) (val_var rfl) ?_
    obtain ⟨c3, hW⟩ := hW
    refine w_forR (S := List Nat × Nat) (fun s σ' F' H' => match s with | (found1, left2) => ∃ (o1 : Option V), Wf F0 H0 F' H' ∧ Ex F0 F' ∧ σ' = [some (.int (cell_here1)), some (.int ((start1 : Nat) : Int)), some (.int ((many1 : Nat) : Int)), some (.int ((width1 : Nat) : Int)), some (.bl (digits1)), some ((.ref p1)), some (.int ((left2 : Nat) : Int)), o1] ∧ XL pN H0 F' H' p1 found1) c3 hW ⟨_, w, Ex.rfl', rfl, x1⟩ ?_ ?_
    · intro N4 Bk1 k1 s2 σ' F1 H2 nx1 bk1 hI1 hx1 hW hN4 hB1
      obtain ⟨found1, left2⟩ := s2
      obtain ⟨o1, w, gx1, rfl, x2⟩ := hI1
      refine g_name ?_
      refine a_ifE ?_
      refine e_ans (b := decide (digits1 = true)) (t_ofB (vb_of (val_var rfl) dec_tt)) ?_
      refine b_if (fun hc1 => ?_) (fun hc1 => ?_)
      · have hW := ifP hW hc1
        refine q_sq fun N5 hN5 => ?_
        refine a_dropE ?_
        refine m_list x2 (val_var rfl) ?_
        obtain ⟨c4, hW⟩ := hW
        refine a_val (v := (.int ((left2 % (2 ^ width1) : Nat) : Int))) (vn_mod (val_var rfl) (vn_one val_c (val_var rfl) c4) (Nat.two_pow_pos _)) ?_
        refine a_nil ?_
        obtain ⟨c5, hW⟩ := hW
        refine a_app x2 w c5 rfl (fun H3 w1 x3 kp1 => ?_)
        replace w := w1
        refine hN5 _ _ ?_
        obtain ⟨c6, hW⟩ := hW
        obtain ⟨c7, hW⟩ := hW
        obtain ⟨left3, eleft2⟩ : ∃ left3 : Nat, left3 = left2 / (2 ^ width1) := ⟨_, rfl⟩
        replace hW := hW left3 eleft2
        refine a_asg (v := (.int ((left3 : Nat) : Int))) (v_eq (vn_div (val_var rfl) (vn_one val_c (val_var rfl) c6) c7) (by rw [eleft2])) ?_
        exact hN4 (found1 ++ [left2 % (2 ^ width1)], left3) _ _ _ ⟨_, w, gx1, rfl, x3⟩ hW
      · have hW := ifN hW hc1
        refine a_dropE ?_
        refine m_list x2 (val_var rfl) ?_
        refine a_cons ?_
        refine e_op ?_
        refine e_call ?_
        refine a_val (v := (.int (cell_here1))) (val_var rfl) ?_
        refine a_val (v := (.int ((start1 + k1 : Nat) : Int))) (vn_add (val_var rfl) (val_var rfl)) ?_
        refine a_nil ?_
        refine ⟨F1, (cell_here1), (start1 + k1), _, rfl, w.f, hW, ?_⟩
        intro z1 hW F2 H4 s3
        replace x2 := x2.step s3
        replace w := w.tr s3
        replace gx1 := Ex.tr gx1 s3.g
        obtain ⟨c8, hW⟩ := hW
        refine e_val (v := (.int ((2 ^ width1 : Nat) : Int))) (vn_one val_c (val_var rfl) c8) ?_
        refine rv2 (z := (.int ((z1 % (2 ^ width1) : Nat) : Int))) (vn_mod val_c val_c (Nat.two_pow_pos _)) ?_
        refine a_nil ?_
        obtain ⟨c9, hW⟩ := hW
        refine a_app x2 w c9 rfl (fun H5 w2 x4 kp2 => ?_)
        replace w := w2
        exact hN4 (found1 ++ [z1 % (2 ^ width1)], left2) _ _ _ ⟨_, w, gx1, rfl, x4⟩ hW
    · intro s4 σ' F3 H6 hI2 hW
      obtain ⟨found1, left2⟩ := s4
      obtain ⟨o1, w, gx2, rfl, x2⟩ := hI2
      refine hN3 _ _ ?_
      refine a_ret (v := (.ref p1)) (val_var rfl) ?_
      exact hQ _ hW _ _ _ w x2
abbrev s_thinned : Stmt := topS 37
/-! _law_thinned -/
def W_thinned (masks_here1 : List Nat) (cell_here1 : Int) (start1 : Nat) (way1 : Nat) (R : (List Nat) → Prop) : Prop := forW (enumT masks_here1) ([] : List Nat) (fun it1 found1 nx1 bk1 => jn (fun kk => if way1 = 1 then (W_mix cell_here1 (start1 + it1.1) fun z1 => ∀ mask3 : Nat, mask3 = it1.2 &&& z1 → kk mask3) else (kk it1.2)) fun mask2 => jn (fun kk => if (way1 = 2) ∧ (0 < it1.1) then ((1 ≤ it1.1) ∧ (it1.1 - 1 < 100000000) ∧ ∀ mask5 : Nat, mask5 = 2 ^ (it1.1 - 1) → kk mask5) else (kk mask2)) fun mask4 => jn (fun kk => if way1 = 3 then (∃ x7, [43690, 21845][it1.1 % 2]? = some x7 ∧ ∀ mask7 : Nat, mask7 = mask4 &&& x7 → kk mask7) else (kk mask4)) fun mask6 => (found1.length < 1000000) ∧ nx1 (found1 ++ [mask6])) fun found1 => R found1
def sp_thinned (K : PySem.W.Frag) (cc : Cz) : Sp := fun vs H Q _ => ∃ (F : Hp) (v1 : V) (masks_here1 : List Nat) (cell_here1 : Int) (start1 : Nat) (way1 : Nat) (R : (List Nat) → Prop), vs = [v1, (.int (cell_here1)), (.int ((start1 : Nat) : Int)), (.int ((way1 : Nat) : Int))] ∧ Ex F H ∧ (pL pN).r F v1 masks_here1 ∧ W_thinned masks_here1 cell_here1 start1 way1 R ∧ ∀ z, R z → ∀ p F' H', Wf F H F' H' → XL pN H F' H' p z → Q (.ref p) H'
abbrev N_thinned : List Str := ["_law_masks_here", "_law_cell_here", "_law_start", "_law_way", "_law_found", "_law_k", "_law_mask"]
theorem sc_thinned : FnScope N_thinned ["_law_masks_here", "_law_cell_here", "_law_start", "_law_way"] (defScope s_thinned) := ⟨rfl, rfl, rfl, by decide +kernel, rfl, by decide +kernel, by decide +kernel⟩
theorem ok_thinned {P : Program} {w0 : World} {K : PySem.W.Frag} {mg : Str → Option Value} {base : Heap} {f : Addr} {fd : FuncData} {cc : Cz} (T : Tz K mg cc) (FU : Fun K "_law_thinned" "_law_thinned" s_thinned f fd) (hm : mg "_law_thinned" = some (.ref f)) (hb : Binds K fd ["_law_masks_here", "_law_cell_here", "_law_start", "_law_way"] []) (c_mix : Fn P w0 K mg base CX0 1 "_law_mix" ["_law_cell_here", "_law_k"] (sp_mix K cc)) (n_enumerate : mg "enumerate" = none) : Fn P w0 K mg base CX0 2 "_law_thinned" ["_law_masks_here", "_law_cell_here", "_law_start", "_law_way"] (sp_thinned K cc) := by
  refine ⟨f, fd, FU.ok sc_thinned (fun vs H Q E h => ?_) (fun cdv A outer s H0 vs Q E hr h => ?_), hm, FU.kp, hb⟩
  · obtain ⟨_, _, _, _, _, _, _, rfl, _⟩ := h; rfl
  · obtain ⟨F0, v1, masks_here1, cell_here1, start1, way1, R, rfl, wf, r1, hW, hQ⟩ := h
    have nd := sc_thinned.nd
    refine ⟨(tSeq (tAsg (tLst tNil) (gName 4)) (tSeq (tFor (iEnum K (tCons (tVar 0) tNil)) (gTup K 2 (gCons (gName 5) (gCons (gName 6) gNil))) (tSeq (tIfS (tTest (tOp L2.rEq (tVar 3) (tC (.int 1)))) (tAsg (tOp kAnd (tVar 6) (tCall (sp_mix K cc) [] E0 (tCons (tVar 1) (tCons (tOp kAdd (tVar 2) (tVar 5)) tNil)))) (gName 6)) tNext) (tSeq (tIfS (tAnd (tTest (tOp L2.rEq (tVar 3) (tC (.int 2)))) (tTest (tOp kGt (tVar 5) (tC (.int 0))))) (tAsg (tOp kShl (tC (.int 1)) (tOp kSub (tVar 5) (tC (.int 1)))) (gName 6)) tNext) (tSeq (tIfS (tTest (tOp L2.rEq (tVar 3) (tC (.int 3)))) (tAsg (tOp kAnd (tVar 6) (tOp (L2.rIxL K) (tLst (tCons (tC (.int 43690)) (tCons (tC (.int 21845)) tNil))) (tOp kMod (tVar 5) (tC (.int 2))))) (gName 6)) tNext) (tDrop (tBM K "list" rAppend (tVar 4) (tCons (tVar 6) tNil))))))) (tRet (tVar 4)))), (pss_cons (ps_set (i := 4) nd rfl (Or.inl rfl) (pe_lst pa_nil)) (pss_cons (ps_for PassesOwn.never rfl (pi_enum (by rfl) n_enumerate (pa_cons (pv 0) pa_nil)) (pg_tup rfl (pgs_cons (pg_name (i := 5) nd rfl (Or.inl rfl)) (pgs_cons (pg_name (i := 6) nd rfl (Or.inl rfl)) pgs_nil)) (by rfl)) (pss_cons (ps_if (pt_cmpR op_eq (pv 3) pe_int (nomark _)) (pss_one (ps_set (i := 6) nd rfl (Or.inl rfl) (pe_op op_and (pv 6) (pe_fn c_mix (hr.mono (by decide)) rfl (pa_cons (pv 1) (pa_cons (pe_op op_add (pv 2) (pv 5)) pa_nil)))))) pss_nil) (pss_cons (ps_if (PW.pt (pw_and (pt_cmpR op_eq (pv 3) pe_int (nomark _)) (pw_and1 (pt_cmpR op_gt (pv 5) pe_int (nomark _))))) (pss_one (ps_set (i := 6) nd rfl (Or.inl rfl) (pe_op op_shlW pe_int (pe_op op_sub (pv 5) pe_int)))) pss_nil) (pss_cons (ps_if (pt_cmpR op_eq (pv 3) pe_int (nomark _)) (pss_one (ps_set (i := 6) nd rfl (Or.inl rfl) (pe_op op_and (pv 6) (pe_ix ix_list (pe_lst (pa_cons pe_int (pa_cons pe_int pa_nil))) (pe_op op_mod (pv 5) pe_int) (fun _ _ => rfl))))) pss_nil) (pss_one (ps_expr (pe_bm PySem.F.plainAttrs_list PySem.F.slot_list_append PySem.F.type_list_append mt_append (pv 4) (pa_cons (pv 6) pa_nil)))))))) (pss_one (ps_ret (pv 4))))), ?_⟩
    have w := Wf.id wf
    refine q_sq fun N1 hN1 => ?_
    refine a_asgE ?_
    refine e_lst ?_
    refine a_nil ?_
    refine n_lstX (e := pN) (xs := []) (vs := []) (show All pN _ [] [] from trivial) (show 0 < 1000000 from by decide) w ?_
    intro p1 H1 hp1 s1 x1
    replace r1 := Rep.mono _ s1.g r1
    replace w := w.tr s1
    refine hN1 _ _ ?_
    refine q_sq fun N2 hN2 => ?_
    refine f_J ?_
    refine a_val (v := v1) (val_var rfl) ?_
    refine a_nil ?_
    refine src_enum r1 w.f (fun a1 T1 => ?_)
    refine w_forG (S := List Nat) T1 (fun found1 σ' F' H' => ∃ (o1 : Option V) (o2 : Option V), Wf F0 H0 F' H' ∧ Ex F0 F' ∧ σ' = [some v1, some (.int (cell_here1)), some (.int ((start1 : Nat) : Int)), some (.int ((way1 : Nat) : Int)), some ((.ref p1)), o1, o2] ∧ XL pN H0 F' H' p1 found1) hW ⟨_, _, w, Ex.rfl', rfl, x1⟩ (fun s σ' F' H' hI => by obtain ⟨_, _, w', gx', _⟩ := hI; exact ⟨gx', w'.f⟩) w.f ?_ ?_
    · intro N3 Bk1 it1 u1 found1 σ' F1 H2 F2 H3 nx1 bk1 hI1 hx1 s3 ru1 hW hN3 hB1
      obtain ⟨o1, o2, w, gx1, rfl, x2⟩ := hI1
      have r1 := Rep.mono _ gx1 r1
      replace r1 := Rep.mono _ s3.g r1
      replace x2 := x2.step s3
      replace w := w.tr s3
      replace gx1 := Ex.tr gx1 s3.g
      obtain ⟨p2, u2, u3, rfl, h1, rfl, rfl⟩ := ru1
      refine ⟨p2, _, rfl, SqT.of (w.f _ _ h1), rfl, _, _, rfl, _, _, rfl, rfl, ?_⟩
      refine q_jn (S := Nat) hW (fun mask2 σ' F' H' => Wf F0 H0 F' H' ∧ Ex F2 F' ∧ σ' = [some v1, some (.int (cell_here1)), some (.int ((start1 : Nat) : Int)), some (.int ((way1 : Nat) : Int)), some (.ref p1), some (.int ((it1.1 : Nat) : Int)), some (.int ((mask2 : Nat) : Int))] ∧ XL pN H0 F' H' p1 found1) ?_ ?_
      · intro N4 hN4 hW
        have gx2 : Ex F2 F2 := Ex.rfl'
        refine a_ifE ?_
        refine e_ans (b := decide (way1 = 1)) (t_of (vb_dec (c_eqI (val_var rfl) val_c) n_eq)) ?_
        refine b_if (fun hc1 => ?_) (fun hc1 => ?_)
        · have hW := ifP hW hc1
          refine a_asgE ?_
          refine e_op ?_
          refine e_val (v := (.int ((it1.2 : Nat) : Int))) (val_var rfl) ?_
          refine e_call ?_
          refine a_val (v := (.int (cell_here1))) (val_var rfl) ?_
          refine a_val (v := (.int ((start1 + it1.1 : Nat) : Int))) (vn_add (val_var rfl) (val_var rfl)) ?_
          refine a_nil ?_
          refine ⟨F2, (cell_here1), (start1 + it1.1), _, rfl, w.f, hW, ?_⟩
          intro z1 hW F3 H4 s4
          replace r1 := Rep.mono _ s4.g r1
          replace x2 := x2.step s4
          replace w := w.tr s4
          replace gx2 := Ex.tr gx2 s4.g
          replace gx1 := Ex.tr gx1 s4.g
          refine rv2 (z := (.int ((it1.2 &&& z1 : Nat) : Int))) (vn_and val_c val_c) ?_
          obtain ⟨mask3, emask1⟩ : ∃ mask3 : Nat, mask3 = it1.2 &&& z1 := ⟨_, rfl⟩
          replace hW := hW mask3 emask1
          refine nx_set (v := (.int ((mask3 : Nat) : Int))) (by rw [emask1]) ?_
          exact hN4 mask3 _ _ _ ⟨w, gx2, rfl, x2⟩ hW
        · have hW := ifN hW hc1
          exact hN4 it1.2 _ _ _ ⟨w, gx2, rfl, x2⟩ hW
      · intro mask2 σ' F4 H5 hI2 hW
        obtain ⟨w, gx3, rfl, x3⟩ := hI2
        have r1 := Rep.mono _ gx3 r1
        have gx1 := Ex.tr gx1 gx3
        refine q_jn (S := Nat) hW (fun mask4 σ' F' H' => Wf F0 H0 F' H' ∧ Ex F4 F' ∧ σ' = [some v1, some (.int (cell_here1)), some (.int ((start1 : Nat) : Int)), some (.int ((way1 : Nat) : Int)), some (.ref p1), some (.int ((it1.1 : Nat) : Int)), some (.int ((mask4 : Nat) : Int))] ∧ XL pN H0 F' H' p1 found1) ?_ ?_
        · intro N5 hN5 hW
          have gx4 : Ex F4 F4 := Ex.rfl'
          refine a_ifE ?_
          refine e_ans (b := decide ((way1 = 2) ∧ (0 < it1.1))) (t_and (t_of (vb_dec (c_eqI (val_var rfl) val_c) n_eq)) (fun _ => (t_of (vb_dec (c_gt (val_var rfl) val_c) n_lt)))) ?_
          refine b_if (fun hc2 => ?_) (fun hc2 => ?_)
          · have hW := ifP hW hc2
            obtain ⟨c1, hW⟩ := hW
            obtain ⟨c2, hW⟩ := hW
            obtain ⟨mask5, emask2⟩ : ∃ mask5 : Nat, mask5 = 2 ^ (it1.1 - 1) := ⟨_, rfl⟩
            replace hW := hW mask5 emask2
            refine a_asg (v := (.int ((mask5 : Nat) : Int))) (v_eq (vn_one val_c (vn_sub (val_var rfl) val_c c1) c2) (by rw [emask2])) ?_
            exact hN5 mask5 _ _ _ ⟨w, gx4, rfl, x3⟩ hW
          · have hW := ifN hW hc2
            exact hN5 mask2 _ _ _ ⟨w, gx4, rfl, x3⟩ hW
        · intro mask4 σ' F5 H6 hI3 hW
          obtain ⟨w, gx5, rfl, x4⟩ := hI3
          have r1 := Rep.mono _ gx5 r1
          have gx3 := Ex.tr gx3 gx5
          have gx1 := Ex.tr gx1 gx5
          refine q_jn (S := Nat) hW (fun mask6 σ' F' H' => Wf F0 H0 F' H' ∧ Ex F5 F' ∧ σ' = [some v1, some (.int (cell_here1)), some (.int ((start1 : Nat) : Int)), some (.int ((way1 : Nat) : Int)), some (.ref p1), some (.int ((it1.1 : Nat) : Int)), some (.int ((mask6 : Nat) : Int))] ∧ XL pN H0 F' H' p1 found1) ?_ ?_
          · intro N6 hN6 hW
            have gx6 : Ex F5 F5 := Ex.rfl'
            refine a_ifE ?_
            refine e_ans (b := decide (way1 = 3)) (t_of (vb_dec (c_eqI (val_var rfl) val_c) n_eq)) ?_
            refine b_if (fun hc3 => ?_) (fun hc3 => ?_)
            · have hW := ifP hW hc3
              refine a_asgE ?_
              refine e_op ?_
              refine e_val (v := (.int ((mask4 : Nat) : Int))) (val_var rfl) ?_
              refine e_op ?_
              refine e_lst ?_
              refine a_val (v := (.int ((43690 : Nat) : Int))) val_c ?_
              refine a_val (v := (.int ((21845 : Nat) : Int))) val_c ?_
              refine a_nil ?_
              refine n_lstX (e := pN) (xs := [43690, 21845]) (vs := [(.int ((43690 : Nat) : Int)), (.int ((21845 : Nat) : Int))]) (show All pN _ [(.int ((43690 : Nat) : Int)), (.int ((21845 : Nat) : Int))] [43690, 21845] from ⟨rfl, ⟨rfl, trivial⟩⟩) (show 2 < 1000000 from by decide) w ?_
              intro p3 H7 hp2 s7 x6
              have ne1 := x4.ne hp2
              replace r1 := Rep.mono _ s7.g r1
              replace x4 := x4.step s7
              replace w := w.tr s7
              replace gx6 := Ex.tr gx6 s7.g
              replace gx5 := Ex.tr gx5 s7.g
              replace gx3 := Ex.tr gx3 s7.g
              replace gx1 := Ex.tr gx1 s7.g
              refine e_val (v := (.int ((it1.1 % 2 : Nat) : Int))) (vn_mod (val_var rfl) val_c (by decide)) ?_
              obtain ⟨x7, hx7_1, hW⟩ := hW
              obtain ⟨_, rfl, ix1⟩ := ix_X (K := K) x6 hx7_1
              refine rv2 (z := (.int ((x7 : Nat) : Int))) (ix1 val_c val_c) ?_
              refine rv2 (z := (.int ((mask4 &&& x7 : Nat) : Int))) (vn_and val_c val_c) ?_
              obtain ⟨mask7, emask3⟩ : ∃ mask7 : Nat, mask7 = mask4 &&& x7 := ⟨_, rfl⟩
              replace hW := hW mask7 emask3
              refine nx_set (v := (.int ((mask7 : Nat) : Int))) (by rw [emask3]) ?_
              exact hN6 mask7 _ _ _ ⟨w, gx6, rfl, x4⟩ hW
            · have hW := ifN hW hc3
              exact hN6 mask4 _ _ _ ⟨w, gx6, rfl, x4⟩ hW
          · intro mask6 σ' F6 H8 hI4 hW
            obtain ⟨w, gx7, rfl, x5⟩ := hI4
            have r1 := Rep.mono _ gx7 r1
            have gx5 := Ex.tr gx5 gx7
            have gx3 := Ex.tr gx3 gx7
            have gx1 := Ex.tr gx1 gx7
            refine a_dropE ?_
            refine m_list x5 (val_var rfl) ?_
            refine a_val (v := (.int ((mask6 : Nat) : Int))) (val_var rfl) ?_
            refine a_nil ?_
            obtain ⟨c3, hW⟩ := hW
            refine a_app x5 w c3 rfl (fun H9 w1 x8 kp1 => ?_)
            replace w := w1
            exact hN3 (found1 ++ [mask6]) _ _ _ ⟨_, _, w, gx1, rfl, x8⟩ hW
    · intro found1 σ' F7 H10 hI5 hW
      obtain ⟨o1, o2, w, gx8, rfl, x2⟩ := hI5
      have r1 := Rep.mono _ gx8 r1
      refine hN2 _ _ ?_
      refine a_ret (v := (.ref p1)) (val_var rfl) ?_
      exact hQ _ hW _ _ _ w x2
abbrev s_machine : Stmt := topS 38
/-! _law_machine -/
def W_machine (script1 : List Int) (start1 : Nat) (most1 : Nat) (R : (Nat × List (Nat × Nat) × List (Nat × Nat)) → Prop) : Prop := W_cell script1 start1 fun z1 => (0 < most1 + 1) ∧ ∀ stores1 : Nat, stores1 = modN (z1 / ((2 : Nat) : Int)) (most1 + 1) → ∀ stores2 : Nat, stores2 = (if (modN (z1 / ((64 : Nat) : Int)) 8) = 5 then modN (z1 / ((512 : Nat) : Int)) 17 else stores1) → W_mix z1 1 fun z2 => ∀ inputs1 : Nat, inputs1 = z2 % 4 → W_mix z1 2 fun z3 => ∀ outputs1 : Nat, outputs1 = z3 % 4 → jn (fun kk => if (modN (z1 / ((64 : Nat) : Int)) 8) = 6 then (W_mix z1 1 fun z4 => ∀ inputs3 : Nat, inputs3 = z4 % 7 → W_mix z1 2 fun z5 => ∀ outputs3 : Nat, outputs3 = z5 % 7 → kk (inputs3, outputs3)) else (kk (inputs1, outputs1))) fun (inputs2, outputs2) => ∀ digits1 : Bool, digits1 = decide ((modN z1 2) = 0) → W_mix z1 3 fun z6 => ∀ way1 : Nat, way1 = z6 % 5 → W_cell script1 (start1 + 1) fun z7 => W_masks z7 100 stores2 stores2 digits1 fun z8 => W_cell script1 (start1 + 2) fun z9 => W_masks z9 140 stores2 inputs2 digits1 fun z10 => jn (fun kk => if ¬ (digits1 = true) then (W_cell script1 (start1 + 1) fun z11 => W_thinned z8 z11 180 way1 fun z12 => if 0 < way1 then (((enumT z10).length < 1000000) ∧ compW (enumT z10) (fun it1 kk => W_cell script1 (start1 + 2) fun z13 => W_mix z13 (220 + it1.1) fun z14 => kk (some (it1.2 &&& z14))) fun ys1 => kk (z12, ys1)) else (kk (z12, z10))) else (kk (z8, z10))) fun (one1, other1) => W_cell script1 (start1 + 3) fun z15 => W_masks z15 260 outputs2 stores2 digits1 fun z16 => W_cell script1 (start1 + 4) fun z17 => W_masks z17 280 outputs2 inputs2 digits1 fun z18 => jn (fun kk => if (¬ (digits1 = true)) ∧ (1 < way1) then (((enumT z16).length < 1000000) ∧ compW (enumT z16) (fun it2 kk => W_cell script1 (start1 + 3) fun z19 => W_mix z19 (300 + it2.1) fun z20 => kk (some (it2.2 &&& z20))) fun ys2 => kk ys2) else (kk z16)) fun shown1 => jn (fun kk => if (¬ (digits1 = true)) ∧ (2 < way1) then ((z18.length < 1000000) ∧ compW z18 (fun mask3 kk => kk (some 0)) fun ys3 => kk ys3) else (kk z18)) fun straight1 => R (inputs2, one1.zip other1, shown1.zip straight1)
def sp_machine (K : PySem.W.Frag) (cc : Cz) : Sp := fun vs H Q _ => ∃ (F : Hp) (v1 : V) (script1 : List Int) (start1 : Nat) (most1 : Nat) (R : (Nat × List (Nat × Nat) × List (Nat × Nat)) → Prop), vs = [v1, (.int ((start1 : Nat) : Int)), (.int ((most1 : Nat) : Int))] ∧ Ex F H ∧ (pScr K).r F v1 script1 ∧ W_machine script1 start1 most1 R ∧ ∀ z, R z → ∀ v F' H', Wf F H F' H' → (pT3 pN (pL (pT2 pN pN)) (pL (pT2 pN pN))).r F' v z → Q v H'
abbrev N_machine : List Str := ["_law_script", "_law_start", "_law_most", "_law_cell_here", "_law_stores", "_law_inputs", "_law_outputs", "_law_digits", "_law_way", "_law_one", "_law_other", "_law_k", "_law_mask", "_law_shown", "_law_straight"]
theorem sc_machine : FnScope N_machine ["_law_script", "_law_start", "_law_most"] (defScope s_machine) := ⟨rfl, rfl, rfl, by decide +kernel, rfl, by decide +kernel, by decide +kernel⟩
theorem ok_machine {P : Program} {w0 : World} {K : PySem.W.Frag} {mg : Str → Option Value} {base : Heap} {f : Addr} {fd : FuncData} {cc : Cz} (T : Tz K mg cc) (FU : Fun K "_law_machine" "_law_machine" s_machine f fd) (hm : mg "_law_machine" = some (.ref f)) (hb : Binds K fd ["_law_script", "_law_start", "_law_most"] []) (c_cell : Fn P w0 K mg base CX0 1 "_law_cell" ["_law_script", "_law_k"] (sp_cell K cc)) (c_mix : Fn P w0 K mg base CX0 1 "_law_mix" ["_law_cell_here", "_law_k"] (sp_mix K cc)) (c_masks : Fn P w0 K mg base CX0 2 "_law_masks" ["_law_cell_here", "_law_start", "_law_many", "_law_width", "_law_digits"] (sp_masks K cc)) (c_thinned : Fn P w0 K mg base CX0 2 "_law_thinned" ["_law_masks_here", "_law_cell_here", "_law_start", "_law_way"] (sp_thinned K cc)) (n_enumerate : mg "enumerate" = none) (n_list : mg "list" = none) (n_zip : mg "zip" = none) : Fn P w0 K mg base CX0 3 "_law_machine" ["_law_script", "_law_start", "_law_most"] (sp_machine K cc) := by
  refine ⟨f, fd, FU.ok sc_machine (fun vs H Q E h => ?_) (fun cdv A outer s H0 vs Q E hr h => ?_), hm, FU.kp, hb⟩
  · obtain ⟨_, _, _, _, _, _, rfl, _⟩ := h; rfl
  · obtain ⟨F0, v1, script1, start1, most1, R, rfl, wf, r1, hW, hQ⟩ := h
    have nd := sc_machine.nd
    refine ⟨(tSeq (tAsg (tCall (sp_cell K cc) [] E0 (tCons (tVar 0) (tCons (tVar 1) tNil))) (gName 3)) (tSeq (tAsg (tOp kMod (tOp kDiv (tVar 3) (tC (.int 2))) (tOp kAdd (tVar 2) (tC (.int 1)))) (gName 4)) (tSeq (tIfS (tTest (tOp L2.rEq (tOp kMod (tOp kDiv (tVar 3) (tC (.int 64))) (tC (.int 8))) (tC (.int 5)))) (tAsg (tOp kMod (tOp kDiv (tVar 3) (tC (.int 512))) (tC (.int 17))) (gName 4)) tNext) (tSeq (tAsg (tOp kMod (tCall (sp_mix K cc) [] E0 (tCons (tVar 3) (tCons (tC (.int 1)) tNil))) (tC (.int 4))) (gName 5)) (tSeq (tAsg (tOp kMod (tCall (sp_mix K cc) [] E0 (tCons (tVar 3) (tCons (tC (.int 2)) tNil))) (tC (.int 4))) (gName 6)) (tSeq (tIfS (tTest (tOp L2.rEq (tOp kMod (tOp kDiv (tVar 3) (tC (.int 64))) (tC (.int 8))) (tC (.int 6)))) (tSeq (tAsg (tOp kMod (tCall (sp_mix K cc) [] E0 (tCons (tVar 3) (tCons (tC (.int 1)) tNil))) (tC (.int 7))) (gName 5)) (tAsg (tOp kMod (tCall (sp_mix K cc) [] E0 (tCons (tVar 3) (tCons (tC (.int 2)) tNil))) (tC (.int 7))) (gName 6))) tNext) (tSeq (tAsg (tOp L2.rEq (tOp kMod (tVar 3) (tC (.int 2))) (tC (.int 0))) (gName 7)) (tSeq (tAsg (tOp kMod (tCall (sp_mix K cc) [] E0 (tCons (tVar 3) (tCons (tC (.int 3)) tNil))) (tC (.int 5))) (gName 8)) (tSeq (tAsg (tCall (sp_masks K cc) [] E0 (tCons (tCall (sp_cell K cc) [] E0 (tCons (tVar 0) (tCons (tOp kAdd (tVar 1) (tC (.int 1))) tNil))) (tCons (tC (.int 100)) (tCons (tVar 4) (tCons (tVar 4) (tCons (tVar 7) tNil)))))) (gName 9)) (tSeq (tAsg (tCall (sp_masks K cc) [] E0 (tCons (tCall (sp_cell K cc) [] E0 (tCons (tVar 0) (tCons (tOp kAdd (tVar 1) (tC (.int 2))) tNil))) (tCons (tC (.int 140)) (tCons (tVar 4) (tCons (tVar 5) (tCons (tVar 7) tNil)))))) (gName 10)) (tSeq (tIfS (tNot (tB (tVar 7))) (tSeq (tAsg (tCall (sp_thinned K cc) [] E0 (tCons (tVar 9) (tCons (tCall (sp_cell K cc) [] E0 (tCons (tVar 0) (tCons (tOp kAdd (tVar 1) (tC (.int 1))) tNil))) (tCons (tC (.int 180)) (tCons (tVar 8) tNil))))) (gName 9)) (tIfS (tTest (tOp kGt (tVar 8) (tC (.int 0)))) (tAsg (tLc (iEnum K (tCons (tVar 10) tNil)) (gTup K 2 (gCons (gName 11) (gCons (gName 12) gNil))) tYes (tOp kAnd (tVar 12) (tCall (sp_mix K cc) [] E0 (tCons (tCall (sp_cell K cc) [] E0 (tCons (tVar 0) (tCons (tOp kAdd (tVar 1) (tC (.int 2))) tNil))) (tCons (tOp kAdd (tC (.int 220)) (tVar 11)) tNil)))) [11, 12]) (gName 10)) tNext)) tNext) (tSeq (tAsg (tCall (sp_masks K cc) [] E0 (tCons (tCall (sp_cell K cc) [] E0 (tCons (tVar 0) (tCons (tOp kAdd (tVar 1) (tC (.int 3))) tNil))) (tCons (tC (.int 260)) (tCons (tVar 6) (tCons (tVar 4) (tCons (tVar 7) tNil)))))) (gName 13)) (tSeq (tAsg (tCall (sp_masks K cc) [] E0 (tCons (tCall (sp_cell K cc) [] E0 (tCons (tVar 0) (tCons (tOp kAdd (tVar 1) (tC (.int 4))) tNil))) (tCons (tC (.int 280)) (tCons (tVar 6) (tCons (tVar 5) (tCons (tVar 7) tNil)))))) (gName 14)) (tSeq (tIfS (tAnd (tNot (tB (tVar 7))) (tTest (tOp kGt (tVar 8) (tC (.int 1))))) (tAsg (tLc (iEnum K (tCons (tVar 13) tNil)) (gTup K 2 (gCons (gName 11) (gCons (gName 12) gNil))) tYes (tOp kAnd (tVar 12) (tCall (sp_mix K cc) [] E0 (tCons (tCall (sp_cell K cc) [] E0 (tCons (tVar 0) (tCons (tOp kAdd (tVar 1) (tC (.int 3))) tNil))) (tCons (tOp kAdd (tC (.int 300)) (tVar 11)) tNil)))) [11, 12]) (gName 13)) tNext) (tSeq (tIfS (tAnd (tNot (tB (tVar 7))) (tTest (tOp kGt (tVar 8) (tC (.int 2))))) (tAsg (tLc (iList K (tVar 14)) (gName 12) tYes (tC (.int 0)) [12]) (gName 14)) tNext) (tRet (tTup (tCons (tVar 5) (tCons (tLstZip K (tCons (tVar 9) (tCons (tVar 10) tNil))) (tCons (tLstZip K (tCons (tVar 13) (tCons (tVar 14) tNil))) tNil)))))))))))))))))))), (pss_cons (ps_set (i := 3) nd rfl (Or.inl rfl) (pe_fn c_cell (hr.mono (by decide)) rfl (pa_cons (pv 0) (pa_cons (pv 1) pa_nil)))) (pss_cons (ps_set (i := 4) nd rfl (Or.inl rfl) (pe_op op_mod (pe_op op_fdivW (pv 3) pe_int) (pe_op op_add (pv 2) pe_int))) (pss_cons (ps_if (pt_cmpR op_eq (pe_op op_mod (pe_op op_fdivW (pv 3) pe_int) pe_int) pe_int (nomark _)) (pss_one (ps_set (i := 4) nd rfl (Or.inl rfl) (pe_op op_mod (pe_op op_fdivW (pv 3) pe_int) pe_int))) pss_nil) (pss_cons (ps_set (i := 5) nd rfl (Or.inl rfl) (pe_op op_mod (pe_fn c_mix (hr.mono (by decide)) rfl (pa_cons (pv 3) (pa_cons pe_int pa_nil))) pe_int)) (pss_cons (ps_set (i := 6) nd rfl (Or.inl rfl) (pe_op op_mod (pe_fn c_mix (hr.mono (by decide)) rfl (pa_cons (pv 3) (pa_cons pe_int pa_nil))) pe_int)) (pss_cons (ps_if (pt_cmpR op_eq (pe_op op_mod (pe_op op_fdivW (pv 3) pe_int) pe_int) pe_int (nomark _)) (pss_cons (ps_set (i := 5) nd rfl (Or.inl rfl) (pe_op op_mod (pe_fn c_mix (hr.mono (by decide)) rfl (pa_cons (pv 3) (pa_cons pe_int pa_nil))) pe_int)) (pss_one (ps_set (i := 6) nd rfl (Or.inl rfl) (pe_op op_mod (pe_fn c_mix (hr.mono (by decide)) rfl (pa_cons (pv 3) (pa_cons pe_int pa_nil))) pe_int)))) pss_nil) (pss_cons (ps_set (i := 7) nd rfl (Or.inl rfl) (pe_cmpR op_eq (pe_op op_mod (pv 3) pe_int) pe_int (nomark _))) (pss_cons (ps_set (i := 8) nd rfl (Or.inl rfl) (pe_op op_mod (pe_fn c_mix (hr.mono (by decide)) rfl (pa_cons (pv 3) (pa_cons pe_int pa_nil))) pe_int)) (pss_cons (ps_set (i := 9) nd rfl (Or.inl rfl) (pe_fn c_masks (hr.mono (by decide)) rfl (pa_cons (pe_fn c_cell (hr.mono (by decide)) rfl (pa_cons (pv 0) (pa_cons (pe_op op_add (pv 1) pe_int) pa_nil))) (pa_cons pe_int (pa_cons (pv 4) (pa_cons (pv 4) (pa_cons (pv 7) pa_nil))))))) (pss_cons (ps_set (i := 10) nd rfl (Or.inl rfl) (pe_fn c_masks (hr.mono (by decide)) rfl (pa_cons (pe_fn c_cell (hr.mono (by decide)) rfl (pa_cons (pv 0) (pa_cons (pe_op op_add (pv 1) pe_int) pa_nil))) (pa_cons pe_int (pa_cons (pv 4) (pa_cons (pv 5) (pa_cons (pv 7) pa_nil))))))) (pss_cons (ps_if (pt_not (pt_val (pv 7))) (pss_cons (ps_set (i := 9) nd rfl (Or.inl rfl) (pe_fn c_thinned (hr.mono (by decide)) rfl (pa_cons (pv 9) (pa_cons (pe_fn c_cell (hr.mono (by decide)) rfl (pa_cons (pv 0) (pa_cons (pe_op op_add (pv 1) pe_int) pa_nil))) (pa_cons pe_int (pa_cons (pv 8) pa_nil)))))) (pss_one (ps_if (pt_cmpR op_gt (pv 8) pe_int (nomark _)) (pss_one (ps_setLc (i := 10) (own := [("_law_k", 11), ("_law_mask", 12)]) (wi := (iEnum K (tCons (tVar 10) tNil))) (g := (gTup K 2 (gCons (gName 11) (gCons (gName 12) gNil)))) (tt := tYes) (te := (tOp kAnd (tVar 12) (tCall (sp_mix K cc) [] E0 (tCons (tCall (sp_cell K cc) [] E0 (tCons (tVar 0) (tCons (tOp kAdd (tVar 1) (tC (.int 2))) tNil))) (tCons (tOp kAdd (tC (.int 220)) (tVar 11)) tNil))))) rfl nd rfl rfl (sw_true rfl rfl rfl (by decide +kernel)) (pi_enum (by rfl) n_enumerate (pa_cons (pv 10) pa_nil)) (blkOk_by (N := N_machine) (sc := defScope s_machine) (by decide +kernel)) (fun _ _ _ _ _ => (pg_tup rfl (pgs_cons (pg_name (i := 11) nd rfl (Or.inl rfl)) (pgs_cons (pg_name (i := 12) nd rfl (Or.inl rfl)) pgs_nil)) (by rfl))) (fun _ _ _ _ _ => pts_nil) (fun _ _ _ _ _ => (pe_op op_and (pv 12) (pe_fn c_mix (hr.mono (by decide)) rfl (pa_cons (pe_fn c_cell (hr.mono (by decide)) rfl (pa_cons (pv 0) (pa_cons (pe_op op_add (pv 1) pe_int) pa_nil))) (pa_cons (pe_op op_add pe_int (pv 11)) pa_nil))))))) pss_nil))) pss_nil) (pss_cons (ps_set (i := 13) nd rfl (Or.inl rfl) (pe_fn c_masks (hr.mono (by decide)) rfl (pa_cons (pe_fn c_cell (hr.mono (by decide)) rfl (pa_cons (pv 0) (pa_cons (pe_op op_add (pv 1) pe_int) pa_nil))) (pa_cons pe_int (pa_cons (pv 6) (pa_cons (pv 4) (pa_cons (pv 7) pa_nil))))))) (pss_cons (ps_set (i := 14) nd rfl (Or.inl rfl) (pe_fn c_masks (hr.mono (by decide)) rfl (pa_cons (pe_fn c_cell (hr.mono (by decide)) rfl (pa_cons (pv 0) (pa_cons (pe_op op_add (pv 1) pe_int) pa_nil))) (pa_cons pe_int (pa_cons (pv 6) (pa_cons (pv 5) (pa_cons (pv 7) pa_nil))))))) (pss_cons (ps_if (PW.pt (pw_and (pt_not (pt_val (pv 7))) (pw_and1 (pt_cmpR op_gt (pv 8) pe_int (nomark _))))) (pss_one (ps_setLc (i := 13) (own := [("_law_k", 11), ("_law_mask", 12)]) (wi := (iEnum K (tCons (tVar 13) tNil))) (g := (gTup K 2 (gCons (gName 11) (gCons (gName 12) gNil)))) (tt := tYes) (te := (tOp kAnd (tVar 12) (tCall (sp_mix K cc) [] E0 (tCons (tCall (sp_cell K cc) [] E0 (tCons (tVar 0) (tCons (tOp kAdd (tVar 1) (tC (.int 3))) tNil))) (tCons (tOp kAdd (tC (.int 300)) (tVar 11)) tNil))))) rfl nd rfl rfl (sw_true rfl rfl rfl (by decide +kernel)) (pi_enum (by rfl) n_enumerate (pa_cons (pv 13) pa_nil)) (blkOk_by (N := N_machine) (sc := defScope s_machine) (by decide +kernel)) (fun _ _ _ _ _ => (pg_tup rfl (pgs_cons (pg_name (i := 11) nd rfl (Or.inl rfl)) (pgs_cons (pg_name (i := 12) nd rfl (Or.inl rfl)) pgs_nil)) (by rfl))) (fun _ _ _ _ _ => pts_nil) (fun _ _ _ _ _ => (pe_op op_and (pv 12) (pe_fn c_mix (hr.mono (by decide)) rfl (pa_cons (pe_fn c_cell (hr.mono (by decide)) rfl (pa_cons (pv 0) (pa_cons (pe_op op_add (pv 1) pe_int) pa_nil))) (pa_cons (pe_op op_add pe_int (pv 11)) pa_nil))))))) pss_nil) (pss_cons (ps_if (PW.pt (pw_and (pt_not (pt_val (pv 7))) (pw_and1 (pt_cmpR op_gt (pv 8) pe_int (nomark _))))) (pss_one (ps_setLc (i := 14) (own := [("_law_mask", 12)]) (wi := (iList K (tVar 14))) (g := (gName 12)) (tt := tYes) (te := (tC (.int 0))) rfl nd rfl rfl (sw_true rfl rfl rfl (by decide +kernel)) (pi_list (pv 14)) (blkOk_by (N := N_machine) (sc := defScope s_machine) (by decide +kernel)) (fun _ _ _ _ _ => (pg_name (i := 12) nd rfl (Or.inl rfl))) (fun _ _ _ _ _ => pts_nil) (fun _ _ _ _ _ => pe_int))) pss_nil) (pss_one (ps_ret (pe_tup (pa_cons (pv 5) (pa_cons (pe_lstZip rfl (by rfl) n_list (by rfl) n_zip (pa_cons (pv 9) (pa_cons (pv 10) pa_nil))) (pa_cons (pe_lstZip rfl (by rfl) n_list (by rfl) n_zip (pa_cons (pv 13) (pa_cons (pv 14) pa_nil))) pa_nil))))))))))))))))))))), ?_⟩
    have w := Wf.id wf
    refine q_sq fun N1 hN1 => ?_
    refine a_asgE ?_
    refine e_call ?_
    refine a_val (v := v1) (val_var rfl) ?_
    refine a_val (v := (.int ((start1 : Nat) : Int))) (val_var rfl) ?_
    refine a_nil ?_
    refine ⟨F0, (v1), (script1), (start1), _, rfl, w.f, r1, hW, ?_⟩
    intro z1 hW F1 H1 s1
    replace r1 := Rep.mono _ s1.g r1
    replace w := w.tr s1
    refine hN1 _ _ ?_
    refine q_sq fun N2 hN2 => ?_
    obtain ⟨c1, hW⟩ := hW
    obtain ⟨stores1, estores1⟩ : ∃ stores1 : Nat, stores1 = modN (z1 / ((2 : Nat) : Int)) (most1 + 1) := ⟨_, rfl⟩
    replace hW := hW stores1 estores1
    refine a_asg (v := (.int ((stores1 : Nat) : Int))) (v_eq (vm_mod (vi_div (val_var rfl) val_c ⟨by decide, by decide +kernel⟩) (vn_add (val_var rfl) val_c) c1) (by rw [estores1])) ?_
    refine hN2 _ _ ?_
    refine q_sq fun N3 hN3 => ?_
    obtain ⟨stores2, estores2⟩ : ∃ stores2 : Nat, stores2 = (if (modN (z1 / ((64 : Nat) : Int)) 8) = 5 then modN (z1 / ((512 : Nat) : Int)) 17 else stores1) := ⟨_, rfl⟩
    replace hW := hW stores2 estores2
    refine a_ifAsg (pr := (modN (z1 / ((64 : Nat) : Int)) 8) = 5) (v := (.int ((stores2 : Nat) : Int))) (t_of (vb_dec (c_eqI (vm_mod (vi_div (val_var rfl) val_c ⟨by decide, by decide +kernel⟩) val_c (by decide)) val_c) n_eq)) (fun hq => v_eq (vm_mod (vi_div (val_var rfl) val_c ⟨by decide, by decide +kernel⟩) val_c (by decide)) (by rw [estores2, if_pos hq])) (fun hq => by rw [estores2, if_neg hq]; rfl) ?_
    refine hN3 _ _ ?_
    refine q_sq fun N4 hN4 => ?_
    refine a_asgE ?_
    refine e_op ?_
    refine e_call ?_
    refine a_val (v := (.int (z1))) (val_var rfl) ?_
    refine a_val (v := (.int ((1 : Nat) : Int))) val_c ?_
    refine a_nil ?_
    refine ⟨F1, (z1), (1), _, rfl, w.f, hW, ?_⟩
    intro z2 hW F2 H2 s2
    replace r1 := Rep.mono _ s2.g r1
    replace w := w.tr s2
    refine e_val (v := (.int ((4 : Nat) : Int))) val_c ?_
    refine rv2 (z := (.int ((z2 % 4 : Nat) : Int))) (vn_mod val_c val_c (by decide)) ?_
    obtain ⟨inputs1, einputs1⟩ : ∃ inputs1 : Nat, inputs1 = z2 % 4 := ⟨_, rfl⟩
    replace hW := hW inputs1 einputs1
    refine nx_set (v := (.int ((inputs1 : Nat) : Int))) (by rw [einputs1]) ?_
    refine hN4 _ _ ?_
    refine q_sq fun N5 hN5 => ?_
    refine a_asgE ?_
    refine e_op ?_
    refine e_call ?_
    refine a_val (v := (.int (z1))) (val_var rfl) ?_
    refine a_val (v := (.int ((2 : Nat) : Int))) val_c ?_
    refine a_nil ?_
    refine ⟨F2, (z1), (2), _, rfl, w.f, hW, ?_⟩
    intro z3 hW F3 H3 s3
    replace r1 := Rep.mono _ s3.g r1
    replace w := w.tr s3
    refine e_val (v := (.int ((4 : Nat) : Int))) val_c ?_
    refine rv2 (z := (.int ((z3 % 4 : Nat) : Int))) (vn_mod val_c val_c (by decide)) ?_
    obtain ⟨outputs1, eoutputs1⟩ : ∃ outputs1 : Nat, outputs1 = z3 % 4 := ⟨_, rfl⟩
    replace hW := hW outputs1 eoutputs1
    refine nx_set (v := (.int ((outputs1 : Nat) : Int))) (by rw [eoutputs1]) ?_
    refine hN5 _ _ ?_
    refine q_jn (S := Nat × Nat) hW (fun s σ' F' H' => match s with | (inputs2, outputs2) => Wf F0 H0 F' H' ∧ Ex F3 F' ∧ σ' = [some v1, some (.int ((start1 : Nat) : Int)), some (.int ((most1 : Nat) : Int)), some (.int (z1)), some (.int ((stores2 : Nat) : Int)), some (.int ((inputs2 : Nat) : Int)), some (.int ((outputs2 : Nat) : Int)), none, none, none, none, none, none, none, none]) ?_ ?_
    · intro N6 hN6 hW
      have gx1 : Ex F3 F3 := Ex.rfl'
      refine a_ifE ?_
      refine e_ans (b := decide ((modN (z1 / ((64 : Nat) : Int)) 8) = 6)) (t_of (vb_dec (c_eqI (vm_mod (vi_div (val_var rfl) val_c ⟨by decide, by decide +kernel⟩) val_c (by decide)) val_c) n_eq)) ?_
      refine b_if (fun hc1 => ?_) (fun hc1 => ?_)
      · have hW := ifP hW hc1
        refine q_sq fun N7 hN7 => ?_
        refine a_asgE ?_
        refine e_op ?_
        refine e_call ?_
        refine a_val (v := (.int (z1))) (val_var rfl) ?_
        refine a_val (v := (.int ((1 : Nat) : Int))) val_c ?_
        refine a_nil ?_
        refine ⟨F3, (z1), (1), _, rfl, w.f, hW, ?_⟩
        intro z4 hW F4 H4 s4
        replace r1 := Rep.mono _ s4.g r1
        replace w := w.tr s4
        replace gx1 := Ex.tr gx1 s4.g
        refine e_val (v := (.int ((7 : Nat) : Int))) val_c ?_
        refine rv2 (z := (.int ((z4 % 7 : Nat) : Int))) (vn_mod val_c val_c (by decide)) ?_
        obtain ⟨inputs3, einputs2⟩ : ∃ inputs3 : Nat, inputs3 = z4 % 7 := ⟨_, rfl⟩
        replace hW := hW inputs3 einputs2
        refine nx_set (v := (.int ((inputs3 : Nat) : Int))) (by rw [einputs2]) ?_
        refine hN7 _ _ ?_
        refine a_asgE ?_
        refine e_op ?_
        refine e_call ?_
        refine a_val (v := (.int (z1))) (val_var rfl) ?_
        refine a_val (v := (.int ((2 : Nat) : Int))) val_c ?_
        refine a_nil ?_
        refine ⟨F4, (z1), (2), _, rfl, w.f, hW, ?_⟩
        intro z5 hW F5 H5 s5
        replace r1 := Rep.mono _ s5.g r1
        replace w := w.tr s5
        replace gx1 := Ex.tr gx1 s5.g
        refine e_val (v := (.int ((7 : Nat) : Int))) val_c ?_
        refine rv2 (z := (.int ((z5 % 7 : Nat) : Int))) (vn_mod val_c val_c (by decide)) ?_
        obtain ⟨outputs3, eoutputs2⟩ : ∃ outputs3 : Nat, outputs3 = z5 % 7 := ⟨_, rfl⟩
        replace hW := hW outputs3 eoutputs2
        refine nx_set (v := (.int ((outputs3 : Nat) : Int))) (by rw [eoutputs2]) ?_
        exact hN6 (inputs3, outputs3) _ _ _ ⟨w, gx1, rfl⟩ hW
      · have hW := ifN hW hc1
        exact hN6 (inputs1, outputs1) _ _ _ ⟨w, gx1, rfl⟩ hW
    · intro s6 σ' F6 H6 hI1 hW
      obtain ⟨inputs2, outputs2⟩ := s6
      obtain ⟨w, gx2, rfl⟩ := hI1
      have r1 := Rep.mono _ gx2 r1
      refine q_sq fun N8 hN8 => ?_
      obtain ⟨digits1, edigits1⟩ : ∃ digits1 : Bool, digits1 = decide ((modN z1 2) = 0) := ⟨_, rfl⟩
      replace hW := hW digits1 edigits1
      refine a_asg (v := (.bl (digits1))) (v_eq (vb_dec (c_eqI (vm_mod (val_var rfl) val_c (by decide)) val_c) n_eq) (by rw [edigits1])) ?_
      refine hN8 _ _ ?_
      refine q_sq fun N9 hN9 => ?_
      refine a_asgE ?_
      refine e_op ?_
      refine e_call ?_
      refine a_val (v := (.int (z1))) (val_var rfl) ?_
      refine a_val (v := (.int ((3 : Nat) : Int))) val_c ?_
      refine a_nil ?_
      refine ⟨F6, (z1), (3), _, rfl, w.f, hW, ?_⟩
      intro z6 hW F7 H7 s7
      replace r1 := Rep.mono _ s7.g r1
      replace w := w.tr s7
      replace gx2 := Ex.tr gx2 s7.g
      refine e_val (v := (.int ((5 : Nat) : Int))) val_c ?_
      refine rv2 (z := (.int ((z6 % 5 : Nat) : Int))) (vn_mod val_c val_c (by decide)) ?_
      obtain ⟨way1, eway1⟩ : ∃ way1 : Nat, way1 = z6 % 5 := ⟨_, rfl⟩
      replace hW := hW way1 eway1
      refine nx_set (v := (.int ((way1 : Nat) : Int))) (by rw [eway1]) ?_
      refine hN9 _ _ ?_
      refine q_sq fun N10 hN10 => ?_
      refine a_asgE ?_
      refine e_call ?_
      refine a_cons ?_
      refine e_call ?_
      refine a_val (v := v1) (val_var rfl) ?_
      refine a_val (v := (.int ((start1 + 1 : Nat) : Int))) (vn_add (val_var rfl) val_c) ?_
      refine a_nil ?_
      refine ⟨F7, (v1), (script1), (start1 + 1), _, rfl, w.f, r1, hW, ?_⟩
      intro z7 hW F8 H8 s8
      replace r1 := Rep.mono _ s8.g r1
      replace w := w.tr s8
      replace gx2 := Ex.tr gx2 s8.g
      refine a_val (v := (.int ((100 : Nat) : Int))) val_c ?_
      refine a_val (v := (.int ((stores2 : Nat) : Int))) (val_var rfl) ?_
      refine a_val (v := (.int ((stores2 : Nat) : Int))) (val_var rfl) ?_
      refine a_val (v := (.bl (digits1))) (val_var rfl) ?_
      refine a_nil ?_
      refine ⟨F8, (z7), (100), (stores2), (stores2), (digits1), _, rfl, w.f, hW, ?_⟩
      intro z8 hW p1 F9 H9 s9 x1
      replace x1 := x1.base w
      replace r1 := Rep.mono _ s9.g r1
      replace w := w.tr s9
      replace gx2 := Ex.tr gx2 s9.g
      obtain ⟨F10, w1, g1, r2, fz1⟩ := x1.frzE w
      replace r1 := Rep.mono _ g1 r1
      replace w := w1
      replace gx2 := Ex.tr gx2 g1
      refine hN10 _ _ ?_
      refine q_sq fun N11 hN11 => ?_
      refine a_asgE ?_
      refine e_call ?_
      refine a_cons ?_
      refine e_call ?_
      refine a_val (v := v1) (val_var rfl) ?_
      refine a_val (v := (.int ((start1 + 2 : Nat) : Int))) (vn_add (val_var rfl) val_c) ?_
      refine a_nil ?_
      refine ⟨F10, (v1), (script1), (start1 + 2), _, rfl, w.f, r1, hW, ?_⟩
      intro z9 hW F11 H10 s10
      replace r1 := Rep.mono _ s10.g r1
      replace r2 := Rep.mono _ s10.g r2
      replace w := w.tr s10
      replace gx2 := Ex.tr gx2 s10.g
      refine a_val (v := (.int ((140 : Nat) : Int))) val_c ?_
      refine a_val (v := (.int ((stores2 : Nat) : Int))) (val_var rfl) ?_
      refine a_val (v := (.int ((inputs2 : Nat) : Int))) (val_var rfl) ?_
      refine a_val (v := (.bl (digits1))) (val_var rfl) ?_
      refine a_nil ?_
      refine ⟨F11, (z9), (140), (stores2), (inputs2), (digits1), _, rfl, w.f, hW, ?_⟩
      intro z10 hW p2 F12 H11 s11 x2
      replace x2 := x2.base w
      replace r1 := Rep.mono _ s11.g r1
      replace r2 := Rep.mono _ s11.g r2
      replace w := w.tr s11
      replace gx2 := Ex.tr gx2 s11.g
      obtain ⟨F13, w2, g2, r3, fz2⟩ := x2.frzE w
      replace r1 := Rep.mono _ g2 r1
      replace r2 := Rep.mono _ g2 r2
      replace w := w2
      replace gx2 := Ex.tr gx2 g2
      refine hN11 _ _ ?_
      refine q_jn (S := List Nat × List Nat) hW (fun s σ' F' H' => match s with | (one1, other1) => ∃ (v2 : V) (v3 : V), Wf F0 H0 F' H' ∧ Ex F13 F' ∧ σ' = [some v1, some (.int ((start1 : Nat) : Int)), some (.int ((most1 : Nat) : Int)), some (.int (z1)), some (.int ((stores2 : Nat) : Int)), some (.int ((inputs2 : Nat) : Int)), some (.int ((outputs2 : Nat) : Int)), some (.bl (digits1)), some (.int ((way1 : Nat) : Int)), some v2, some v3, none, none, none, none] ∧ (pL pN).r F' v2 one1 ∧ (pL pN).r F' v3 other1) ?_ ?_
      · intro N12 hN12 hW
        have gx3 : Ex F13 F13 := Ex.rfl'
        refine a_ifE ?_
        refine e_ans (b := decide (¬ (digits1 = true))) (t_not (t_ofB (vb_of (val_var rfl) dec_tt))) ?_
        refine b_if (fun hc2 => ?_) (fun hc2 => ?_)
        · have hW := ifP hW hc2
          refine q_sq fun N13 hN13 => ?_
          refine a_asgE ?_
          refine e_call ?_
          refine a_val (v := (.ref p1)) (val_var rfl) ?_
          refine a_cons ?_
          refine e_call ?_
          refine a_val (v := v1) (val_var rfl) ?_
          refine a_val (v := (.int ((start1 + 1 : Nat) : Int))) (vn_add (val_var rfl) val_c) ?_
          refine a_nil ?_
          refine ⟨F13, (v1), (script1), (start1 + 1), _, rfl, w.f, r1, hW, ?_⟩
          intro z11 hW F14 H12 s12
          replace r1 := Rep.mono _ s12.g r1
          replace r2 := Rep.mono _ s12.g r2
          replace r3 := Rep.mono _ s12.g r3
          replace w := w.tr s12
          replace gx3 := Ex.tr gx3 s12.g
          replace gx2 := Ex.tr gx2 s12.g
          refine a_val (v := (.int ((180 : Nat) : Int))) val_c ?_
          refine a_val (v := (.int ((way1 : Nat) : Int))) (val_var rfl) ?_
          refine a_nil ?_
          refine ⟨F14, ((.ref p1)), (z8), (z11), (180), (way1), _, rfl, w.f, r2, hW, ?_⟩
          intro z12 hW p3 F15 H13 s13 x3
          replace x3 := x3.base w
          replace r1 := Rep.mono _ s13.g r1
          replace r2 := Rep.mono _ s13.g r2
          replace r3 := Rep.mono _ s13.g r3
          replace w := w.tr s13
          replace gx3 := Ex.tr gx3 s13.g
          replace gx2 := Ex.tr gx2 s13.g
          obtain ⟨F16, w3, g3, r6, fz3⟩ := x3.frzE w
          replace r1 := Rep.mono _ g3 r1
          replace r2 := Rep.mono _ g3 r2
          replace r3 := Rep.mono _ g3 r3
          replace w := w3
          replace gx3 := Ex.tr gx3 g3
          replace gx2 := Ex.tr gx2 g3
          refine hN13 _ _ ?_
          refine a_ifE ?_
          refine e_ans (b := decide (0 < way1)) (t_of (vb_dec (c_gt (val_var rfl) val_c) n_lt)) ?_
          refine b_if (fun hc3 => ?_) (fun hc3 => ?_)
          · have hW := ifP hW hc3
            refine a_asgE ?_
            refine c_J ?_
            refine a_val (v := (.ref p2)) (val_var rfl) ?_
            refine a_nil ?_
            refine src_enum r3 w.f (fun a1 T1 => ?_)
            obtain ⟨c2, hW⟩ := hW
            refine w_compG (e := pN) T1 w c2 hW ?_ ?_
            · intro Qy Qn it1 u1 F17 H14 R1 q1 hx1 ru1 hW hy1 hn1
              have r1 := Rep.mono _ q1.g r1
              have r6 := Rep.mono _ q1.g r6
              have r3 := Rep.mono _ q1.g r3
              have w := Wf.id q1.f
              obtain ⟨p4, u2, u3, rfl, h1, rfl, rfl⟩ := ru1
              refine ⟨p4, _, rfl, SqT.of (w.f _ _ h1), rfl, _, _, rfl, _, _, rfl, rfl, ?_⟩
              refine ⟨rfl, ?_⟩
              refine c_yes ?_
              refine e_op ?_
              refine e_val (v := (.int ((it1.2 : Nat) : Int))) (val_var rfl) ?_
              refine e_call ?_
              refine a_cons ?_
              refine e_call ?_
              refine a_val (v := v1) (val_var rfl) ?_
              refine a_val (v := (.int ((start1 + 2 : Nat) : Int))) (vn_add (val_var rfl) val_c) ?_
              refine a_nil ?_
              refine ⟨F17, (v1), (script1), (start1 + 2), _, rfl, w.f, r1, hW, ?_⟩
              intro z13 hW F18 H15 s14
              replace r1 := Rep.mono _ s14.g r1
              replace r6 := Rep.mono _ s14.g r6
              replace r3 := Rep.mono _ s14.g r3
              replace w := w.tr s14
              refine a_val (v := (.int ((220 + it1.1 : Nat) : Int))) (vn_add val_c (val_var rfl)) ?_
              refine a_nil ?_
              refine ⟨F18, (z13), (220 + it1.1), _, rfl, w.f, hW, ?_⟩
              intro z14 hW F19 H16 s15
              replace r1 := Rep.mono _ s15.g r1
              replace r6 := Rep.mono _ s15.g r6
              replace r3 := Rep.mono _ s15.g r3
              replace w := w.tr s15
              refine rv2 (z := (.int ((it1.2 &&& z14 : Nat) : Int))) (vn_and val_c val_c) ?_
              exact hy1 _ _ _ _ w rfl hW
            intro p5 ys1 F20 H17 hp1 s16 x4 hW
            replace r1 := Rep.mono _ s16.g r1
            replace r6 := Rep.mono _ s16.g r6
            replace r3 := Rep.mono _ s16.g r3
            replace w := w.tr s16
            replace gx3 := Ex.tr gx3 s16.g
            replace gx2 := Ex.tr gx2 s16.g
            obtain ⟨F21, w4, g4, r7, fz4⟩ := x4.frzE w
            replace r1 := Rep.mono _ g4 r1
            replace r6 := Rep.mono _ g4 r6
            replace r3 := Rep.mono _ g4 r3
            replace w := w4
            replace gx3 := Ex.tr gx3 g4
            replace gx2 := Ex.tr gx2 g4
            exact hN12 (z12, ys1) _ _ _ ⟨_, _, w, gx3, rfl, r6, r7⟩ hW
          · have hW := ifN hW hc3
            exact hN12 (z12, z10) _ _ _ ⟨_, _, w, gx3, rfl, r6, r3⟩ hW
        · have hW := ifN hW hc2
          exact hN12 (z8, z10) _ _ _ ⟨_, _, w, gx3, rfl, r2, r3⟩ hW
      · intro s17 σ' F22 H18 hI2 hW
        obtain ⟨one1, other1⟩ := s17
        obtain ⟨v2, v3, w, gx4, rfl, r4, r5⟩ := hI2
        have r1 := Rep.mono _ gx4 r1
        have gx2 := Ex.tr gx2 gx4
        refine q_sq fun N14 hN14 => ?_
        refine a_asgE ?_
        refine e_call ?_
        refine a_cons ?_
        refine e_call ?_
        refine a_val (v := v1) (val_var rfl) ?_
        refine a_val (v := (.int ((start1 + 3 : Nat) : Int))) (vn_add (val_var rfl) val_c) ?_
        refine a_nil ?_
        refine ⟨F22, (v1), (script1), (start1 + 3), _, rfl, w.f, r1, hW, ?_⟩
        intro z15 hW F23 H19 s18
        replace r1 := Rep.mono _ s18.g r1
        replace r4 := Rep.mono _ s18.g r4
        replace r5 := Rep.mono _ s18.g r5
        replace w := w.tr s18
        replace gx4 := Ex.tr gx4 s18.g
        replace gx2 := Ex.tr gx2 s18.g
        refine a_val (v := (.int ((260 : Nat) : Int))) val_c ?_
        refine a_val (v := (.int ((outputs2 : Nat) : Int))) (val_var rfl) ?_
        refine a_val (v := (.int ((stores2 : Nat) : Int))) (val_var rfl) ?_
        refine a_val (v := (.bl (digits1))) (val_var rfl) ?_
        refine a_nil ?_
        refine ⟨F23, (z15), (260), (outputs2), (stores2), (digits1), _, rfl, w.f, hW, ?_⟩
        intro z16 hW p6 F24 H20 s19 x5
        replace x5 := x5.base w
        replace r1 := Rep.mono _ s19.g r1
        replace r4 := Rep.mono _ s19.g r4
        replace r5 := Rep.mono _ s19.g r5
        replace w := w.tr s19
        replace gx4 := Ex.tr gx4 s19.g
        replace gx2 := Ex.tr gx2 s19.g
        obtain ⟨F25, w5, g5, r8, fz5⟩ := x5.frzE w
        replace r1 := Rep.mono _ g5 r1
        replace r4 := Rep.mono _ g5 r4
        replace r5 := Rep.mono _ g5 r5
        replace w := w5
        replace gx4 := Ex.tr gx4 g5
        replace gx2 := Ex.tr gx2 g5
        refine hN14 _ _ ?_
        refine q_sq fun N15 hN15 => ?_
        refine a_asgE ?_
        refine e_call ?_
        refine a_cons ?_
        refine e_call ?_
        refine a_val (v := v1) (val_var rfl) ?_
        refine a_val (v := (.int ((start1 + 4 : Nat) : Int))) (vn_add (val_var rfl) val_c) ?_
        refine a_nil ?_
        refine ⟨F25, (v1), (script1), (start1 + 4), _, rfl, w.f, r1, hW, ?_⟩
        intro z17 hW F26 H21 s20
        replace r1 := Rep.mono _ s20.g r1
        replace r4 := Rep.mono _ s20.g r4
        replace r5 := Rep.mono _ s20.g r5
        replace r8 := Rep.mono _ s20.g r8
        replace w := w.tr s20
        replace gx4 := Ex.tr gx4 s20.g
        replace gx2 := Ex.tr gx2 s20.g
        refine a_val (v := (.int ((280 : Nat) : Int))) val_c ?_
        refine a_val (v := (.int ((outputs2 : Nat) : Int))) (val_var rfl) ?_
        refine a_val (v := (.int ((inputs2 : Nat) : Int))) (val_var rfl) ?_
        refine a_val (v := (.bl (digits1))) (val_var rfl) ?_
        refine a_nil ?_
        refine ⟨F26, (z17), (280), (outputs2), (inputs2), (digits1), _, rfl, w.f, hW, ?_⟩
        intro z18 hW p7 F27 H22 s21 x6
        replace x6 := x6.base w
        replace r1 := Rep.mono _ s21.g r1
        replace r4 := Rep.mono _ s21.g r4
        replace r5 := Rep.mono _ s21.g r5
        replace r8 := Rep.mono _ s21.g r8
        replace w := w.tr s21
        replace gx4 := Ex.tr gx4 s21.g
        replace gx2 := Ex.tr gx2 s21.g
        obtain ⟨F28, w6, g6, r9, fz6⟩ := x6.frzE w
        replace r1 := Rep.mono _ g6 r1
        replace r4 := Rep.mono _ g6 r4
        replace r5 := Rep.mono _ g6 r5
        replace r8 := Rep.mono _ g6 r8
        replace w := w6
        replace gx4 := Ex.tr gx4 g6
        replace gx2 := Ex.tr gx2 g6
        refine hN15 _ _ ?_
        refine q_jn (S := List Nat) hW (fun shown1 σ' F' H' => ∃ (v4 : V), Wf F0 H0 F' H' ∧ Ex F28 F' ∧ σ' = [some v1, some (.int ((start1 : Nat) : Int)), some (.int ((most1 : Nat) : Int)), some (.int (z1)), some (.int ((stores2 : Nat) : Int)), some (.int ((inputs2 : Nat) : Int)), some (.int ((outputs2 : Nat) : Int)), some (.bl (digits1)), some (.int ((way1 : Nat) : Int)), some v2, some v3, none, none, some v4, some (.ref p7)] ∧ (pL pN).r F' v4 shown1) ?_ ?_
        · intro N16 hN16 hW
          have gx5 : Ex F28 F28 := Ex.rfl'
          refine a_ifE ?_
          refine e_ans (b := decide ((¬ (digits1 = true)) ∧ (1 < way1))) (t_and (t_not (t_ofB (vb_of (val_var rfl) dec_tt))) (fun _ => (t_of (vb_dec (c_gt (val_var rfl) val_c) n_lt)))) ?_
          refine b_if (fun hc4 => ?_) (fun hc4 => ?_)
          · have hW := ifP hW hc4
            refine a_asgE ?_
            refine c_J ?_
            refine a_val (v := (.ref p6)) (val_var rfl) ?_
            refine a_nil ?_
            refine src_enum r8 w.f (fun a2 T2 => ?_)
            obtain ⟨c3, hW⟩ := hW
            refine w_compG (e := pN) T2 w c3 hW ?_ ?_
            · intro Qy Qn it2 u4 F29 H23 R2 q2 hx2 ru2 hW hy2 hn2
              have r1 := Rep.mono _ q2.g r1
              have r4 := Rep.mono _ q2.g r4
              have r5 := Rep.mono _ q2.g r5
              have r8 := Rep.mono _ q2.g r8
              have r9 := Rep.mono _ q2.g r9
              have w := Wf.id q2.f
              obtain ⟨p8, u5, u6, rfl, h2, rfl, rfl⟩ := ru2
              refine ⟨p8, _, rfl, SqT.of (w.f _ _ h2), rfl, _, _, rfl, _, _, rfl, rfl, ?_⟩
              refine ⟨rfl, ?_⟩
              refine c_yes ?_
              refine e_op ?_
              refine e_val (v := (.int ((it2.2 : Nat) : Int))) (val_var rfl) ?_
              refine e_call ?_
              refine a_cons ?_
              refine e_call ?_
              refine a_val (v := v1) (val_var rfl) ?_
              refine a_val (v := (.int ((start1 + 3 : Nat) : Int))) (vn_add (val_var rfl) val_c) ?_
              refine a_nil ?_
              refine ⟨F29, (v1), (script1), (start1 + 3), _, rfl, w.f, r1, hW, ?_⟩
              intro z19 hW F30 H24 s22
              replace r1 := Rep.mono _ s22.g r1
              replace r4 := Rep.mono _ s22.g r4
              replace r5 := Rep.mono _ s22.g r5
              replace r8 := Rep.mono _ s22.g r8
              replace r9 := Rep.mono _ s22.g r9
              replace w := w.tr s22
              refine a_val (v := (.int ((300 + it2.1 : Nat) : Int))) (vn_add val_c (val_var rfl)) ?_
              refine a_nil ?_
              refine ⟨F30, (z19), (300 + it2.1), _, rfl, w.f, hW, ?_⟩
              intro z20 hW F31 H25 s23
              replace r1 := Rep.mono _ s23.g r1
              replace r4 := Rep.mono _ s23.g r4
              replace r5 := Rep.mono _ s23.g r5
              replace r8 := Rep.mono _ s23.g r8
              replace r9 := Rep.mono _ s23.g r9
              replace w := w.tr s23
              refine rv2 (z := (.int ((it2.2 &&& z20 : Nat) : Int))) (vn_and val_c val_c) ?_
              exact hy2 _ _ _ _ w rfl hW
            intro p9 ys2 F32 H26 hp2 s24 x7 hW
            replace r1 := Rep.mono _ s24.g r1
            replace r4 := Rep.mono _ s24.g r4
            replace r5 := Rep.mono _ s24.g r5
            replace r8 := Rep.mono _ s24.g r8
            replace r9 := Rep.mono _ s24.g r9
            replace w := w.tr s24
            replace gx5 := Ex.tr gx5 s24.g
            replace gx4 := Ex.tr gx4 s24.g
            replace gx2 := Ex.tr gx2 s24.g
            obtain ⟨F33, w7, g7, r11, fz7⟩ := x7.frzE w
            replace r1 := Rep.mono _ g7 r1
            replace r4 := Rep.mono _ g7 r4
            replace r5 := Rep.mono _ g7 r5
            replace r8 := Rep.mono _ g7 r8
            replace r9 := Rep.mono _ g7 r9
            replace w := w7
            replace gx5 := Ex.tr gx5 g7
            replace gx4 := Ex.tr gx4 g7
            replace gx2 := Ex.tr gx2 g7
            exact hN16 ys2 _ _ _ ⟨_, w, gx5, rfl, r11⟩ hW
          · have hW := ifN hW hc4
            exact hN16 z16 _ _ _ ⟨_, w, gx5, rfl, r8⟩ hW
        · intro shown1 σ' F34 H27 hI3 hW
          obtain ⟨v4, w, gx6, rfl, r10⟩ := hI3
          have r1 := Rep.mono _ gx6 r1
          have r4 := Rep.mono _ gx6 r4
          have r5 := Rep.mono _ gx6 r5
          have r9 := Rep.mono _ gx6 r9
          have gx4 := Ex.tr gx4 gx6
          have gx2 := Ex.tr gx2 gx6
          refine q_jn (S := List Nat) hW (fun straight1 σ' F' H' => ∃ (v5 : V), Wf F0 H0 F' H' ∧ Ex F34 F' ∧ σ' = [some v1, some (.int ((start1 : Nat) : Int)), some (.int ((most1 : Nat) : Int)), some (.int (z1)), some (.int ((stores2 : Nat) : Int)), some (.int ((inputs2 : Nat) : Int)), some (.int ((outputs2 : Nat) : Int)), some (.bl (digits1)), some (.int ((way1 : Nat) : Int)), some v2, some v3, none, none, some v4, some v5] ∧ (pL pN).r F' v5 straight1) ?_ ?_
          · intro N17 hN17 hW
            have gx7 : Ex F34 F34 := Ex.rfl'
            refine a_ifE ?_
            refine e_ans (b := decide ((¬ (digits1 = true)) ∧ (2 < way1))) (t_and (t_not (t_ofB (vb_of (val_var rfl) dec_tt))) (fun _ => (t_of (vb_dec (c_gt (val_var rfl) val_c) n_lt)))) ?_
            refine b_if (fun hc5 => ?_) (fun hc5 => ?_)
            · have hW := ifP hW hc5
              refine a_asgE ?_
              refine c_LE ?_
              refine e_val (v := (.ref p7)) (val_var rfl) ?_
              obtain ⟨c4, hW⟩ := hW
              refine w_compL (e := pN) r9 w c4 hW ?_ ?_
              · intro Qy Qn mask3 u7 F35 H28 R3 q3 hx3 ru3 hW hy3 hn3
                have r1 := Rep.mono _ q3.g r1
                have r4 := Rep.mono _ q3.g r4
                have r5 := Rep.mono _ q3.g r5
                have r10 := Rep.mono _ q3.g r10
                have r9 := Rep.mono _ q3.g r9
                have w := Wf.id q3.f
                obtain rfl : u7 = (.int ((mask3 : Nat) : Int)) := ru3
                refine ⟨rfl, ?_⟩
                refine c_yes ?_
                refine e_val (v := (.int ((0 : Nat) : Int))) val_c ?_
                exact hy3 _ _ _ _ w rfl hW
              intro p10 ys3 F36 H29 hp3 s26 x8 hW
              replace r1 := Rep.mono _ s26.g r1
              replace r4 := Rep.mono _ s26.g r4
              replace r5 := Rep.mono _ s26.g r5
              replace r10 := Rep.mono _ s26.g r10
              replace r9 := Rep.mono _ s26.g r9
              replace w := w.tr s26
              replace gx7 := Ex.tr gx7 s26.g
              replace gx6 := Ex.tr gx6 s26.g
              replace gx4 := Ex.tr gx4 s26.g
              replace gx2 := Ex.tr gx2 s26.g
              obtain ⟨F37, w8, g8, r13, fz8⟩ := x8.frzE w
              replace r1 := Rep.mono _ g8 r1
              replace r4 := Rep.mono _ g8 r4
              replace r5 := Rep.mono _ g8 r5
              replace r10 := Rep.mono _ g8 r10
              replace r9 := Rep.mono _ g8 r9
              replace w := w8
              replace gx7 := Ex.tr gx7 g8
              replace gx6 := Ex.tr gx6 g8
              replace gx4 := Ex.tr gx4 g8
              replace gx2 := Ex.tr gx2 g8
              exact hN17 ys3 _ _ _ ⟨_, w, gx7, rfl, r13⟩ hW
            · have hW := ifN hW hc5
              exact hN17 z18 _ _ _ ⟨_, w, gx7, rfl, r9⟩ hW
          · intro straight1 σ' F38 H30 hI4 hW
            obtain ⟨v5, w, gx8, rfl, r12⟩ := hI4
            have r1 := Rep.mono _ gx8 r1
            have r4 := Rep.mono _ gx8 r4
            have r5 := Rep.mono _ gx8 r5
            have r10 := Rep.mono _ gx8 r10
            have gx6 := Ex.tr gx6 gx8
            have gx4 := Ex.tr gx4 gx8
            have gx2 := Ex.tr gx2 gx8
            refine a_retE ?_
            refine e_tup ?_
            refine a_val (v := (.int ((inputs2 : Nat) : Int))) (val_var rfl) ?_
            refine a_cons ?_
            refine e_lzip ?_
            refine a_val (v := v2) (val_var rfl) ?_
            refine a_val (v := v3) (val_var rfl) ?_
            refine a_nil ?_
            refine n_lzip r4 r5 w ?_
            intro p11 F39 H31 hp4 s28 x9
            replace r1 := Rep.mono _ s28.g r1
            replace r4 := Rep.mono _ s28.g r4
            replace r5 := Rep.mono _ s28.g r5
            replace r10 := Rep.mono _ s28.g r10
            replace r12 := Rep.mono _ s28.g r12
            replace w := w.tr s28
            replace gx8 := Ex.tr gx8 s28.g
            replace gx6 := Ex.tr gx6 s28.g
            replace gx4 := Ex.tr gx4 s28.g
            replace gx2 := Ex.tr gx2 s28.g
            refine a_cons ?_
            refine e_lzip ?_
            refine a_val (v := v4) (val_var rfl) ?_
            refine a_val (v := v5) (val_var rfl) ?_
            refine a_nil ?_
            refine n_lzip r10 r12 w ?_
            intro p12 F40 H32 hp5 s29 x10
            have ne1 := x9.ne hp5
            replace r1 := Rep.mono _ s29.g r1
            replace r4 := Rep.mono _ s29.g r4
            replace r5 := Rep.mono _ s29.g r5
            replace r10 := Rep.mono _ s29.g r10
            replace r12 := Rep.mono _ s29.g r12
            replace x9 := x9.step s29
            replace w := w.tr s29
            replace gx8 := Ex.tr gx8 s29.g
            replace gx6 := Ex.tr gx6 s29.g
            replace gx4 := Ex.tr gx4 s29.g
            replace gx2 := Ex.tr gx2 s29.g
            refine a_nil ?_
            obtain ⟨F41, w9, g9, r14, fz9⟩ := x9.frzE w
            replace r1 := Rep.mono _ g9 r1
            replace r4 := Rep.mono _ g9 r4
            replace r5 := Rep.mono _ g9 r5
            replace r10 := Rep.mono _ g9 r10
            replace r12 := Rep.mono _ g9 r12
            replace x10 := x10.frzO fz9 (Ne.symm ne1) g9
            replace w := w9
            replace gx8 := Ex.tr gx8 g9
            replace gx6 := Ex.tr gx6 g9
            replace gx4 := Ex.tr gx4 g9
            replace gx2 := Ex.tr gx2 g9
            obtain ⟨F42, w10, g10, r15, fz10⟩ := x10.frzE w
            replace r1 := Rep.mono _ g10 r1
            replace r4 := Rep.mono _ g10 r4
            replace r5 := Rep.mono _ g10 r5
            replace r10 := Rep.mono _ g10 r10
            replace r12 := Rep.mono _ g10 r12
            replace r14 := Rep.mono _ g10 r14
            replace w := w10
            replace gx8 := Ex.tr gx8 g10
            replace gx6 := Ex.tr gx6 g10
            replace gx4 := Ex.tr gx4 g10
            replace gx2 := Ex.tr gx2 g10
            refine n_tup3 (e := pN) (f := (pL (pT2 pN pN))) (g := (pL (pT2 pN pN))) (x := inputs2) (y := one1.zip other1) (z := shown1.zip straight1) rfl r14 r15 w ?_
            intro p13 F43 H33 s30 r16
            replace r1 := Rep.mono _ s30.g r1
            replace r4 := Rep.mono _ s30.g r4
            replace r5 := Rep.mono _ s30.g r5
            replace r10 := Rep.mono _ s30.g r10
            replace r12 := Rep.mono _ s30.g r12
            replace r14 := Rep.mono _ s30.g r14
            replace r15 := Rep.mono _ s30.g r15
            replace w := w.tr s30
            replace gx8 := Ex.tr gx8 s30.g
            replace gx6 := Ex.tr gx6 s30.g
            replace gx4 := Ex.tr gx4 s30.g
            replace gx2 := Ex.tr gx2 s30.g
            exact hQ _ hW _ _ _ w r16
abbrev s_odd : Stmt := topS 40
/-! _law_odd -/
def W_odd (number1 : Nat) (R : Nat → Prop) : Prop := whileW (fun (many1, number2) T => T (decide (0 < number2))) (fun (many1, number2) nx1 bk1 => ∀ many2 : Nat, many2 = many1 + (number2 % 2) → ∀ number3 : Nat, number3 = number2 / 2 → nx1 (many2, number3)) (0, number1) fun (many1, number2) => R (many1 % 2)
def sp_odd (K : PySem.W.Frag) (cc : Cz) : Sp := fun vs H Q _ => ∃ (F : Hp) (number1 : Nat) (R : Nat → Prop), vs = [(.int ((number1 : Nat) : Int))] ∧ Ex F H ∧ W_odd number1 R ∧ ∀ z, R z → ∀ F' H', Wf F H F' H' → Q (.int ((z : Nat) : Int)) H'
abbrev N_odd : List Str := ["_law_number", "_law_many"]
theorem sc_odd : FnScope N_odd ["_law_number"] (defScope s_odd) := ⟨rfl, rfl, rfl, by decide +kernel, rfl, by decide +kernel, by decide +kernel⟩
theorem ok_odd {P : Program} {w0 : World} {K : PySem.W.Frag} {mg : Str → Option Value} {base : Heap} {f : Addr} {fd : FuncData} {cc : Cz} (T : Tz K mg cc) (FU : Fun K "_law_odd" "_law_odd" s_odd f fd) (hm : mg "_law_odd" = some (.ref f)) (hb : Binds K fd ["_law_number"] []) : Fn P w0 K mg base CX0 1 "_law_odd" ["_law_number"] (sp_odd K cc) := by
  refine ⟨f, fd, FU.ok sc_odd (fun vs H Q E h => ?_) (fun cdv A outer s H0 vs Q E hr h => ?_), hm, FU.kp, hb⟩
  · obtain ⟨_, _, _, rfl, _⟩ := h; rfl
  · obtain ⟨F0, number1, R, rfl, wf, hW, hQ⟩ := h
    have nd := sc_odd.nd
    refine ⟨(tSeq (tAsg (tC (.int 0)) (gName 1)) (tSeq (tWhile (tTest (tOp kGt (tVar 0) (tC (.int 0)))) (tSeq (tAsg (tOp kAdd (tVar 1) (tOp kMod (tVar 0) (tC (.int 2)))) (gName 1)) (tAsg (tOp kDiv (tVar 0) (tC (.int 2))) (gName 0)))) (tRet (tOp kMod (tVar 1) (tC (.int 2)))))), (pss_cons (ps_set (i := 1) nd rfl (Or.inl rfl) pe_int) (pss_cons (ps_while PassesOwn.never (pt_cmpR op_gt (pv 0) pe_int (nomark _)) (pss_cons (ps_set (i := 1) nd rfl (Or.inl rfl) (pe_op op_add (pv 1) (pe_op op_mod (pv 0) pe_int))) (pss_one (ps_set (i := 0) nd rfl (Or.inl rfl) (pe_op op_fdivW (pv 0) pe_int))))) (pss_one (ps_ret (pe_op op_mod (pv 1) pe_int))))), ?_⟩
    have w := Wf.id wf
    refine q_sq fun N1 hN1 => ?_
    refine a_asg (v := (.int ((0 : Nat) : Int))) val_c ?_
    refine hN1 _ _ ?_
    refine q_sq fun N2 hN2 => ?_
    refine w_while (S := Nat × Nat) (fun s σ' F' H' => match s with | (many1, number2) => Wf F0 H0 F' H' ∧ Ex F0 F' ∧ σ' = [some (.int ((number2 : Nat) : Int)), some (.int ((many1 : Nat) : Int))]) hW ⟨w, Ex.rfl', rfl⟩ ?_ ?_ ?_
    · intro s1 σ' F1 H1 T1 Qc1 hI1 hW hT1
      obtain ⟨many1, number2⟩ := s1
      obtain ⟨w, gx1, rfl⟩ := hI1
      refine e_ans (b := decide (0 < number2)) (t_of (vb_dec (c_gt (val_var rfl) val_c) n_lt)) ?_
      exact hT1 _ _ _ ⟨w, gx1, rfl⟩ hW
    · intro N3 Bk1 s2 σ' F2 H2 nx1 bk1 hI2 hW hN3 hB1
      obtain ⟨many1, number2⟩ := s2
      obtain ⟨w, gx2, rfl⟩ := hI2
      refine q_sq fun N4 hN4 => ?_
      obtain ⟨many2, emany1⟩ : ∃ many2 : Nat, many2 = many1 + (number2 % 2) := ⟨_, rfl⟩
      replace hW := hW many2 emany1
      refine a_asg (v := (.int ((many2 : Nat) : Int))) (v_eq (vn_add (val_var rfl) (vn_mod (val_var rfl) val_c (by decide))) (by rw [emany1])) ?_
      refine hN4 _ _ ?_
      obtain ⟨number3, enumber1⟩ : ∃ number3 : Nat, number3 = number2 / 2 := ⟨_, rfl⟩
      replace hW := hW number3 enumber1
      refine a_asg (v := (.int ((number3 : Nat) : Int))) (v_eq (vn_div (val_var rfl) val_c ⟨by decide, by decide +kernel⟩) (by rw [enumber1])) ?_
      exact hN3 (many2, number3) _ _ _ ⟨w, gx2, rfl⟩ hW
    · intro s3 σ' F3 H3 hI3 hW
      obtain ⟨many1, number2⟩ := s3
      obtain ⟨w, gx3, rfl⟩ := hI3
      refine hN2 _ _ ?_
      refine a_ret (v := (.int ((many1 % 2 : Nat) : Int))) (vn_mod (val_var rfl) val_c (by decide)) ?_
      exact hQ _ hW _ _ w
abbrev s_bits : Stmt := topS 41
/-! _law_bits -/
def W_bits (pairs1 : List (Nat × Nat)) (state1 : Nat) (row1 : Nat) (R : Nat → Prop) : Prop := forW (enumT pairs1) 0 (fun it1 found1 nx1 bk1 => W_odd (it1.2.1 &&& state1) fun z1 => W_odd (it1.2.2 &&& row1) fun z2 => (it1.1 < 100000000) ∧ (NMul ((z1 + z2) % 2) (2 ^ it1.1)) ∧ ∀ found2 : Nat, found2 = found1 + (((z1 + z2) % 2) * (2 ^ it1.1)) → nx1 found2) fun found1 => R found1
def sp_bits (K : PySem.W.Frag) (cc : Cz) : Sp := fun vs H Q _ => ∃ (F : Hp) (v1 : V) (pairs1 : List (Nat × Nat)) (state1 : Nat) (row1 : Nat) (R : Nat → Prop), vs = [v1, (.int ((state1 : Nat) : Int)), (.int ((row1 : Nat) : Int))] ∧ Ex F H ∧ (pL (pT2 pN pN)).r F v1 pairs1 ∧ W_bits pairs1 state1 row1 R ∧ ∀ z, R z → ∀ F' H', Wf F H F' H' → Q (.int ((z : Nat) : Int)) H'
abbrev N_bits : List Str := ["_law_pairs", "_law_state", "_law_row", "_law_found", "_law_k", "_law_pair"]
theorem sc_bits : FnScope N_bits ["_law_pairs", "_law_state", "_law_row"] (defScope s_bits) := ⟨rfl, rfl, rfl, by decide +kernel, rfl, by decide +kernel, by decide +kernel⟩
theorem ok_bits {P : Program} {w0 : World} {K : PySem.W.Frag} {mg : Str → Option Value} {base : Heap} {f : Addr} {fd : FuncData} {cc : Cz} (T : Tz K mg cc) (FU : Fun K "_law_bits" "_law_bits" s_bits f fd) (hm : mg "_law_bits" = some (.ref f)) (hb : Binds K fd ["_law_pairs", "_law_state", "_law_row"] []) (c_odd : Fn P w0 K mg base CX0 1 "_law_odd" ["_law_number"] (sp_odd K cc)) (n_enumerate : mg "enumerate" = none) : Fn P w0 K mg base CX0 2 "_law_bits" ["_law_pairs", "_law_state", "_law_row"] (sp_bits K cc) := by
  refine ⟨f, fd, FU.ok sc_bits (fun vs H Q E h => ?_) (fun cdv A outer s H0 vs Q E hr h => ?_), hm, FU.kp, hb⟩
  · obtain ⟨_, _, _, _, _, _, rfl, _⟩ := h; rfl
  · obtain ⟨F0, v1, pairs1, state1, row1, R, rfl, wf, r1, hW, hQ⟩ := h
    have nd := sc_bits.nd
    refine ⟨(tSeq (tAsg (tC (.int 0)) (gName 3)) (tSeq (tFor (iEnum K (tCons (tVar 0) tNil)) (gTup K 2 (gCons (gName 4) (gCons (gName 5) gNil))) (tAsg (tOp kAdd (tVar 3) (tOp kMul (tOp kMod (tOp kAdd (tCall (sp_odd K cc) [] E0 (tCons (tOp kAnd (tOp (L2.rIxT K) (tVar 5) (tC (.int 0))) (tVar 1)) tNil)) (tCall (sp_odd K cc) [] E0 (tCons (tOp kAnd (tOp (L2.rIxT K) (tVar 5) (tC (.int 1))) (tVar 2)) tNil))) (tC (.int 2))) (tOp kShl (tC (.int 1)) (tVar 4)))) (gName 3))) (tRet (tVar 3)))), (pss_cons (ps_set (i := 3) nd rfl (Or.inl rfl) pe_int) (pss_cons (ps_for PassesOwn.never rfl (pi_enum (by rfl) n_enumerate (pa_cons (pv 0) pa_nil)) (pg_tup rfl (pgs_cons (pg_name (i := 4) nd rfl (Or.inl rfl)) (pgs_cons (pg_name (i := 5) nd rfl (Or.inl rfl)) pgs_nil)) (by rfl)) (pss_one (ps_set (i := 3) nd rfl (Or.inl rfl) (pe_op op_add (pv 3) (pe_op op_mul (pe_op op_mod (pe_op op_add (pe_fn c_odd (hr.mono (by decide)) rfl (pa_cons (pe_op op_and (pe_ix ix_tup (pv 5) pe_int (fun _ _ => rfl)) (pv 1)) pa_nil)) (pe_fn c_odd (hr.mono (by decide)) rfl (pa_cons (pe_op op_and (pe_ix ix_tup (pv 5) pe_int (fun _ _ => rfl)) (pv 2)) pa_nil))) pe_int) (pe_op op_shlW pe_int (pv 4))))))) (pss_one (ps_ret (pv 3))))), ?_⟩
    have w := Wf.id wf
    refine q_sq fun N1 hN1 => ?_
    refine a_asg (v := (.int ((0 : Nat) : Int))) val_c ?_
    refine hN1 _ _ ?_
    refine q_sq fun N2 hN2 => ?_
    refine f_J ?_
    refine a_val (v := v1) (val_var rfl) ?_
    refine a_nil ?_
    refine src_enum r1 w.f (fun a1 T1 => ?_)
    refine w_forG (S := Nat) T1 (fun found1 σ' F' H' => ∃ (o1 : Option V) (o2 : Option V), Wf F0 H0 F' H' ∧ Ex F0 F' ∧ σ' = [some v1, some (.int ((state1 : Nat) : Int)), some (.int ((row1 : Nat) : Int)), some (.int ((found1 : Nat) : Int)), o1, o2]) hW ⟨_, _, w, Ex.rfl', rfl⟩ (fun s σ' F' H' hI => by obtain ⟨_, _, w', gx', _⟩ := hI; exact ⟨gx', w'.f⟩) w.f ?_ ?_
    · intro N3 Bk1 it1 u1 found1 σ' F1 H1 F2 H2 nx1 bk1 hI1 hx1 s2 ru1 hW hN3 hB1
      obtain ⟨o1, o2, w, gx1, rfl⟩ := hI1
      have r1 := Rep.mono _ gx1 r1
      replace r1 := Rep.mono _ s2.g r1
      replace w := w.tr s2
      replace gx1 := Ex.tr gx1 s2.g
      obtain ⟨p1, u2, u3, rfl, h1, rfl, r2⟩ := ru1
      refine ⟨p1, _, rfl, SqT.of (w.f _ _ h1), rfl, _, _, rfl, _, _, rfl, rfl, ?_⟩
      refine a_asgE ?_
      refine e_op ?_
      refine e_val (v := (.int ((found1 : Nat) : Int))) (val_var rfl) ?_
      refine e_op ?_
      refine e_op ?_
      refine e_op ?_
      refine e_call ?_
      obtain ⟨_, rfl, ix1⟩ := ix_2a (K := K) r2 w.f
      refine a_val (v := (.int ((it1.2.1 &&& state1 : Nat) : Int))) (vn_and (ix1 (val_var rfl) val_c) (val_var rfl)) ?_
      refine a_nil ?_
      refine ⟨F2, (it1.2.1 &&& state1), _, rfl, w.f, hW, ?_⟩
      intro z1 hW F3 H3 s3
      replace r1 := Rep.mono _ s3.g r1
      replace r2 := Rep.mono _ s3.g r2
      replace w := w.tr s3
      replace gx1 := Ex.tr gx1 s3.g
      refine e_call ?_
      obtain ⟨_, rfl, ix2⟩ := ix_2b (K := K) r2 w.f
      refine a_val (v := (.int ((it1.2.2 &&& row1 : Nat) : Int))) (vn_and (ix2 (val_var rfl) val_c) (val_var rfl)) ?_
      refine a_nil ?_
      refine ⟨F3, (it1.2.2 &&& row1), _, rfl, w.f, hW, ?_⟩
      intro z2 hW F4 H4 s4
      replace r1 := Rep.mono _ s4.g r1
      replace r2 := Rep.mono _ s4.g r2
      replace w := w.tr s4
      replace gx1 := Ex.tr gx1 s4.g
      refine rv2 (z := (.int ((z1 + z2 : Nat) : Int))) (vn_add val_c val_c) ?_
      refine e_val (v := (.int ((2 : Nat) : Int))) val_c ?_
      refine rv2 (z := (.int (((z1 + z2) % 2 : Nat) : Int))) (vn_mod val_c val_c (by decide)) ?_
      obtain ⟨c1, hW⟩ := hW
      refine e_val (v := (.int ((2 ^ it1.1 : Nat) : Int))) (vn_one val_c (val_var rfl) c1) ?_
      obtain ⟨c2, hW⟩ := hW
      refine rv2 (z := (.int ((((z1 + z2) % 2) * (2 ^ it1.1) : Nat) : Int))) (vn_mul val_c val_c c2) ?_
      refine rv2 (z := (.int ((found1 + (((z1 + z2) % 2) * (2 ^ it1.1)) : Nat) : Int))) (vn_add val_c val_c) ?_
      obtain ⟨found2, efound1⟩ : ∃ found2 : Nat, found2 = found1 + (((z1 + z2) % 2) * (2 ^ it1.1)) := ⟨_, rfl⟩
      replace hW := hW found2 efound1
      refine nx_set (v := (.int ((found2 : Nat) : Int))) (by rw [efound1]) ?_
      exact hN3 found2 _ _ _ ⟨_, _, w, gx1, rfl⟩ hW
    · intro found1 σ' F5 H5 hI2 hW
      obtain ⟨o1, o2, w, gx2, rfl⟩ := hI2
      have r1 := Rep.mono _ gx2 r1
      refine hN2 _ _ ?_
      refine a_ret (v := (.int ((found1 : Nat) : Int))) (val_var rfl) ?_
      exact hQ _ hW _ _ w
abbrev s_Lis_mask : Stmt := topS 43
/-! _law_is_mask -/
def W_Lis_mask (thing1 : Nat) (width1 : Nat) (R : Bool → Prop) : Prop := jn (fun kk => (width1 < 100000000) ∧ kk (decide (0 ≤ thing1 ∧ thing1 < (2 ^ width1)))) fun b1 => R b1
def sp_Lis_mask (K : PySem.W.Frag) (cc : Cz) : Sp := fun vs H Q _ => ∃ (F : Hp) (thing1 : Nat) (width1 : Nat) (R : Bool → Prop), vs = [(.int ((thing1 : Nat) : Int)), (.int ((width1 : Nat) : Int))] ∧ Ex F H ∧ W_Lis_mask thing1 width1 R ∧ ∀ z, R z → ∀ F' H', Wf F H F' H' → Q (.bl (z)) H'
abbrev N_Lis_mask : List Str := ["_law_thing", "_law_width"]
theorem sc_Lis_mask : FnScope N_Lis_mask ["_law_thing", "_law_width"] (defScope s_Lis_mask) := ⟨rfl, rfl, rfl, by decide +kernel, rfl, by decide +kernel, by decide +kernel⟩
theorem ok_Lis_mask {P : Program} {w0 : World} {K : PySem.W.Frag} {mg : Str → Option Value} {base : Heap} {f : Addr} {fd : FuncData} {cc : Cz} (T : Tz K mg cc) (FU : Fun K "_law_is_mask" "_law_is_mask" s_Lis_mask f fd) (hm : mg "_law_is_mask" = some (.ref f)) (hb : Binds K fd ["_law_thing", "_law_width"] []) (n_bool : mg "bool" = none) (n_int : mg "int" = none) (n_isinstance : mg "isinstance" = none) : Fn P w0 K mg base CX0 1 "_law_is_mask" ["_law_thing", "_law_width"] (sp_Lis_mask K cc) := by
  refine ⟨f, fd, FU.ok sc_Lis_mask (fun vs H Q E h => ?_) (fun cdv A outer s H0 vs Q E hr h => ?_), hm, FU.kp, hb⟩
  · obtain ⟨_, _, _, _, rfl, _⟩ := h; rfl
  · obtain ⟨F0, thing1, width1, R, rfl, wf, hW, hQ⟩ := h
    have nd := sc_Lis_mask.nd
    refine ⟨(tRet (tAndV (tCB (rIsi K) (tCons (tVar 0) (tCons (tC (.ty "int")) tNil))) (tAndV (tNotV (tCB (rIsi K) (tCons (tVar 0) (tCons (tC (.ty "bool")) tNil)))) (tChain kLe kLt (tC (.int 0)) (tVar 0) (tOp kShl (tC (.int 1)) (tVar 1)))))), (pss_one (ps_ret (pe_and (pe_callB call_isi (by rfl) n_isinstance PyProof.Rows.boot_isinstance (pa_cons (pv 0) (pa_cons (pe_bltn (v := .ty "int") (by rfl) n_int PyProof.Rows.boot_int rfl) pa_nil))) (pe_and (pe_not (pe_callB call_isi (by rfl) n_isinstance PyProof.Rows.boot_isinstance (pa_cons (pv 0) (pa_cons (pe_bltn (v := .ty "bool") (by rfl) n_bool PyProof.Rows.boot_bool rfl) pa_nil)))) (pe_one (pe_chain op_le op_lt pe_int (pv 0) (pe_op op_shlW pe_int (pv 1)))))))), ?_⟩
    have w := Wf.id wf
    refine a_retE ?_
    refine e_jnV hW (fun b F' H' => b = b ∧ Wf F0 H0 F' H' ∧ Ex F0 F') ?_ ?_
    · intro N1 hN1 hW
      have gx1 : Ex F0 F0 := Ex.rfl'
      refine e_AndV ?_
      refine e_val (v := .bl true) (vb_of (vb_of (v_isi (b := true) (val_var rfl) (.base (.int _)) (by decide +kernel)) dec_T) dec_T.symm) ?_
      refine bl_if ?_
      refine if_t ?_
      refine e_AndV ?_
      refine e_val (v := .bl true) (vb_of (vb_dec (p := ¬ (False)) (q := True) (vt_not (vb_of (v_isi (b := false) (val_var rfl) (.base (.int _)) (by decide +kernel)) dec_F)) (by simp)) dec_T.symm) ?_
      refine bl_if ?_
      refine if_t ?_
      obtain ⟨c1, hW⟩ := hW
      refine e_val (v := .bl (decide (0 ≤ thing1 ∧ thing1 < (2 ^ width1)))) (vb_of (v_chain (b1 := decide (0 ≤ thing1)) (b2 := decide (thing1 < (2 ^ width1))) (x := (.int ((0 : Nat) : Int))) (y := (.int ((thing1 : Nat) : Int))) (z := (.int ((2 ^ width1 : Nat) : Int))) val_c (val_var rfl) (vn_one val_c (val_var rfl) c1) (fun Q k => rv2 (vb_dec (c_le val_c val_c) n_le) k) (fun Q k => rv2 (vb_dec (c_lt val_c val_c) n_lt) k)) dec_and) ?_
      exact hN1 (decide (0 ≤ thing1 ∧ thing1 < (2 ^ width1))) _ _ ⟨rfl, w, gx1⟩ hW
    intro b1 F1 H1 hI1 hW
    obtain ⟨_, w, gx2⟩ := hI1
    exact hQ _ hW _ _ w
abbrev s_is_list : Stmt := topS 44
/-! _law_is_list -/
def W_is_list (found1 : List Nat) (width1 : Nat) (R : Bool → Prop) : Prop := jn (fun kk => (found1.length < 1000000) ∧ compW found1 (fun one1 kk => W_Lis_mask one1 width1 fun z1 => if z1 = true then (kk none) else (kk (some one1))) fun ys1 => kk (decide (ys1 = ([] : List Nat)))) fun b1 => R b1
def sp_is_list (K : PySem.W.Frag) (cc : Cz) : Sp := fun vs H Q _ => ∃ (F : Hp) (v1 : V) (found1 : List Nat) (width1 : Nat) (R : Bool → Prop), vs = [v1, (.int ((width1 : Nat) : Int))] ∧ Ex F H ∧ (pL pN).r F v1 found1 ∧ W_is_list found1 width1 R ∧ ∀ z, R z → ∀ F' H', Wf F H F' H' → Q (.bl (z)) H'
abbrev N_is_list : List Str := ["_law_found", "_law_width", "_law_one"]
theorem sc_is_list : FnScope N_is_list ["_law_found", "_law_width"] (defScope s_is_list) := ⟨rfl, rfl, rfl, by decide +kernel, rfl, by decide +kernel, by decide +kernel⟩
theorem ok_is_list {P : Program} {w0 : World} {K : PySem.W.Frag} {mg : Str → Option Value} {base : Heap} {f : Addr} {fd : FuncData} {cc : Cz} (T : Tz K mg cc) (FU : Fun K "_law_is_list" "_law_is_list" s_is_list f fd) (hm : mg "_law_is_list" = some (.ref f)) (hb : Binds K fd ["_law_found", "_law_width"] []) (c_Lis_mask : Fn P w0 K mg base CX0 1 "_law_is_mask" ["_law_thing", "_law_width"] (sp_Lis_mask K cc)) (n_isinstance : mg "isinstance" = none) (n_list : mg "list" = none) : Fn P w0 K mg base CX0 2 "_law_is_list" ["_law_found", "_law_width"] (sp_is_list K cc) := by
  refine ⟨f, fd, FU.ok sc_is_list (fun vs H Q E h => ?_) (fun cdv A outer s H0 vs Q E hr h => ?_), hm, FU.kp, hb⟩
  · obtain ⟨_, _, _, _, _, rfl, _⟩ := h; rfl
  · obtain ⟨F0, v1, found1, width1, R, rfl, wf, r1, hW, hQ⟩ := h
    have nd := sc_is_list.nd
    refine ⟨(tRet (tAndV (tCB (rIsi K) (tCons (tVar 0) (tCons (tC (.ty "list")) tNil))) (tOp (L2.rEqD K) (tLc (iList K (tVar 0)) (gName 2) (tNot (tB (tCall (sp_Lis_mask K cc) [] E0 (tCons (tVar 2) (tCons (tVar 1) tNil))))) (tVar 2) [2]) (tLst tNil)))), (pss_one (ps_ret (pe_and (pe_callB call_isi (by rfl) n_isinstance PyProof.Rows.boot_isinstance (pa_cons (pv 0) (pa_cons (pe_bltn (v := .ty "list") (by rfl) n_list PyProof.Rows.boot_list rfl) pa_nil))) (pe_one (pe_cmpR (op_eqD hr.units) (pe_lc (own := [("_law_one", 2)]) (wi := (iList K (tVar 0))) (g := (gName 2)) (tt := (tNot (tB (tCall (sp_Lis_mask K cc) [] E0 (tCons (tVar 2) (tCons (tVar 1) tNil)))))) (te := (tVar 2)) rfl nd (pi_list (pv 0)) (blkOk_by (N := N_is_list) (sc := defScope s_is_list) (by decide +kernel)) (fun _ _ _ _ _ => (pg_name (i := 2) nd rfl (Or.inl rfl))) (fun _ _ _ _ _ => (pts_one (pt_not (pt_val (pe_fn c_Lis_mask (hr.mono (by decide)) rfl (pa_cons (pv 2) (pa_cons (pv 1) pa_nil))))))) (fun _ _ _ _ _ => (pv 2))) (pe_lst pa_nil) (nomark _)))))), ?_⟩
    have w := Wf.id wf
    refine a_retE ?_
    refine e_jnV hW (fun b F' H' => b = b ∧ Wf F0 H0 F' H' ∧ Ex F0 F') ?_ ?_
    · intro N1 hN1 hW
      have gx1 : Ex F0 F0 := Ex.rfl'
      refine e_AndV ?_
      refine e_val (v := .bl true) (vb_of (vb_of (v_isi (b := true) (val_var rfl) (ty_L r1 w.f) (by decide +kernel)) dec_T) dec_T.symm) ?_
      refine bl_if ?_
      refine if_t ?_
      refine e_op ?_
      refine c_LE ?_
      refine e_val (v := v1) (val_var rfl) ?_
      obtain ⟨c1, hW⟩ := hW
      refine w_compL (e := pN) r1 w c1 hW ?_ ?_
      · intro Qy Qn one1 u1 F1 H1 R1 q1 hx1 ru1 hW hy1 hn1
        have r1 := Rep.mono _ q1.g r1
        have w := Wf.id q1.f
        obtain rfl : u1 = (.int ((one1 : Nat) : Int)) := ru1
        refine ⟨rfl, ?_⟩
        refine e_tNot ?_
        refine e_tB ?_
        refine e_call ?_
        refine a_val (v := (.int ((one1 : Nat) : Int))) (val_var rfl) ?_
        refine a_val (v := (.int ((width1 : Nat) : Int))) (val_var rfl) ?_
        refine a_nil ?_
        refine ⟨F1, (one1), (width1), _, rfl, w.f, hW, ?_⟩
        intro z1 hW F2 H2 s1
        replace r1 := Rep.mono _ s1.g r1
        replace w := w.tr s1
        refine bl_v ?_
        refine bb_ifn (fun hc1 => ?_) (fun hc1 => ?_)
        · have hW := ifP hW hc1
          exact hn1 _ _ w hW
        · have hW := ifN hW hc1
          refine e_val (v := (.int ((one1 : Nat) : Int))) (val_var rfl) ?_
          exact hy1 _ _ _ _ w rfl hW
      intro p1 ys1 F3 H3 hp1 s2 x1 hW
      replace r1 := Rep.mono _ s2.g r1
      replace w := w.tr s2
      replace gx1 := Ex.tr gx1 s2.g
      refine e_lst ?_
      refine a_nil ?_
      refine n_lstX (e := pN) (xs := []) (vs := []) (show All pN _ [] [] from trivial) (show 0 < 1000000 from by decide) w ?_
      intro p2 H4 hp2 s3 x2
      have ne1 := x1.ne hp2
      replace r1 := Rep.mono _ s3.g r1
      replace x1 := x1.step s3
      replace w := w.tr s3
      replace gx1 := Ex.tr gx1 s3.g
      obtain ⟨F4, w1, g1, r2, fz1⟩ := x1.frzE w
      replace r1 := Rep.mono _ g1 r1
      replace x2 := x2.frzO fz1 (Ne.symm ne1) g1
      replace w := w1
      replace gx1 := Ex.tr gx1 g1
      obtain ⟨F5, w2, g2, r3, fz2⟩ := x2.frzE w
      replace r1 := Rep.mono _ g2 r1
      replace r2 := Rep.mono _ g2 r2
      replace w := w2
      replace gx1 := Ex.tr gx1 g2
      refine rv2 (z := .bl (decide (ys1 = ([] : List Nat)))) (c_eqD (K := K) (e := (pL pN)) val_c val_c w.f r2 w.f r3) ?_
      exact hN1 (decide (ys1 = ([] : List Nat))) _ _ ⟨rfl, w, gx1⟩ hW
    intro b1 F6 H5 hI1 hW
    obtain ⟨_, w, gx2⟩ := hI1
    have r1 := Rep.mono _ gx2 r1
    exact hQ _ hW _ _ w
abbrev s_check : Stmt := topS 46
/-! _law_check -/
def W_check (tables1 : Nat × List (Nat × Nat) × List (Nat × Nat)) (rows_here1 : List Nat) (R : Nat → Prop) : Prop := forW rows_here1 0 (fun row1 state1 nx1 bk1 => W_bits tables1.2.1 state1 row1 fun z1 => nx1 z1) fun state1 => R state1
def sp_check (K : PySem.W.Frag) (cc : Cz) : Sp := fun vs H Q _ => ∃ (F : Hp) (v1 : V) (tables1 : Nat × List (Nat × Nat) × List (Nat × Nat)) (v2 : V) (rows_here1 : List Nat) (R : Nat → Prop), vs = [v1, v2] ∧ Ex F H ∧ (pT3 pN (pL (pT2 pN pN)) (pL (pT2 pN pN))).r F v1 tables1 ∧ (pL pN).r F v2 rows_here1 ∧ W_check tables1 rows_here1 R ∧ ∀ z, R z → ∀ F' H', Wf F H F' H' → Q (.int ((z : Nat) : Int)) H'
abbrev N_check : List Str := ["_law_tables", "_law_rows_here", "_law_state", "_law_row"]
theorem sc_check : FnScope N_check ["_law_tables", "_law_rows_here"] (defScope s_check) := ⟨rfl, rfl, rfl, by decide +kernel, rfl, by decide +kernel, by decide +kernel⟩
theorem ok_check {P : Program} {w0 : World} {K : PySem.W.Frag} {mg : Str → Option Value} {base : Heap} {f : Addr} {fd : FuncData} {cc : Cz} (T : Tz K mg cc) (FU : Fun K "_law_check" "_law_check" s_check f fd) (hm : mg "_law_check" = some (.ref f)) (hb : Binds K fd ["_law_tables", "_law_rows_here"] []) (c_bits : Fn P w0 K mg base CX0 2 "_law_bits" ["_law_pairs", "_law_state", "_law_row"] (sp_bits K cc)) : Fn P w0 K mg base CX0 3 "_law_check" ["_law_tables", "_law_rows_here"] (sp_check K cc) := by
  refine ⟨f, fd, FU.ok sc_check (fun vs H Q E h => ?_) (fun cdv A outer s H0 vs Q E hr h => ?_), hm, FU.kp, hb⟩
  · obtain ⟨_, _, _, _, _, _, rfl, _⟩ := h; rfl
  · obtain ⟨F0, v1, tables1, v2, rows_here1, R, rfl, wf, r1, r2, hW, hQ⟩ := h
    have nd := sc_check.nd
    refine ⟨(tSeq (tAsg (tC (.int 0)) (gName 2)) (tSeq (tFor (iList K (tVar 1)) (gName 3) (tAsg (tCall (sp_bits K cc) [] E0 (tCons (tOp (L2.rIxT K) (tVar 0) (tC (.int 1))) (tCons (tVar 2) (tCons (tVar 3) tNil)))) (gName 2))) (tRet (tVar 2)))), (pss_cons (ps_set (i := 2) nd rfl (Or.inl rfl) pe_int) (pss_cons (ps_for PassesOwn.never rfl (pi_list (pv 1)) (pg_name (i := 3) nd rfl (Or.inl rfl)) (pss_one (ps_set (i := 2) nd rfl (Or.inl rfl) (pe_fn c_bits (hr.mono (by decide)) rfl (pa_cons (pe_ix ix_tup (pv 0) pe_int (fun _ _ => rfl)) (pa_cons (pv 2) (pa_cons (pv 3) pa_nil))))))) (pss_one (ps_ret (pv 2))))), ?_⟩
    have w := Wf.id wf
    refine q_sq fun N1 hN1 => ?_
    refine a_asg (v := (.int ((0 : Nat) : Int))) val_c ?_
    refine hN1 _ _ ?_
    refine q_sq fun N2 hN2 => ?_
    refine f_LE ?_
    refine e_val (v := v2) (val_var rfl) ?_
    refine w_forL (S := Nat) (fun state1 σ' F' H' => ∃ (o1 : Option V), Wf F0 H0 F' H' ∧ Ex F0 F' ∧ σ' = [some v1, some v2, some (.int ((state1 : Nat) : Int)), o1]) r2 hW ⟨_, w, Ex.rfl', rfl⟩ (fun s σ' F' H' hI => by obtain ⟨_, w', gx', _⟩ := hI; exact ⟨gx', w'.f⟩) w.f ?_ ?_
    · intro N3 Bk1 row1 u1 state1 σ' F1 H1 nx1 bk1 hI1 hx1 ru1 hW hN3 hB1
      obtain ⟨o1, w, gx1, rfl⟩ := hI1
      have r1 := Rep.mono _ gx1 r1
      have r2 := Rep.mono _ gx1 r2
      obtain rfl : u1 = (.int ((row1 : Nat) : Int)) := ru1
      refine g_name ?_
      refine a_asgE ?_
      refine e_call ?_
      obtain ⟨v3, r3, ix1⟩ := ix_3b (K := K) r1 w.f
      refine a_val (v := v3) (ix1 (val_var rfl) val_c) ?_
      refine a_val (v := (.int ((state1 : Nat) : Int))) (val_var rfl) ?_
      refine a_val (v := (.int ((row1 : Nat) : Int))) (val_var rfl) ?_
      refine a_nil ?_
      refine ⟨F1, (v3), (tables1.2.1), (state1), (row1), _, rfl, w.f, r3, hW, ?_⟩
      intro z1 hW F2 H2 s2
      replace r1 := Rep.mono _ s2.g r1
      replace r2 := Rep.mono _ s2.g r2
      replace r3 := Rep.mono _ s2.g r3
      replace w := w.tr s2
      replace gx1 := Ex.tr gx1 s2.g
      exact hN3 z1 _ _ _ ⟨_, w, gx1, rfl⟩ hW
    · intro state1 σ' F3 H3 hI2 hW
      obtain ⟨o1, w, gx2, rfl⟩ := hI2
      have r1 := Rep.mono _ gx2 r1
      have r2 := Rep.mono _ gx2 r2
      refine hN2 _ _ ?_
      refine a_ret (v := (.int ((state1 : Nat) : Int))) (val_var rfl) ?_
      exact hQ _ hW _ _ w
abbrev s_joined : Stmt := topS 47
/-! _law_joined -/
def W_joined (rows_here1 : List Nat) (inputs1 : Nat) (R : Nat → Prop) : Prop := forW rows_here1.reverse 0 (fun row1 total1 nx1 bk1 => (inputs1 < 100000000) ∧ (NMul total1 (2 ^ inputs1)) ∧ ∀ total2 : Nat, total2 = (total1 * (2 ^ inputs1)) + row1 → nx1 total2) fun total1 => R total1
def sp_joined (K : PySem.W.Frag) (cc : Cz) : Sp := fun vs H Q _ => ∃ (F : Hp) (v1 : V) (rows_here1 : List Nat) (inputs1 : Nat) (R : Nat → Prop), vs = [v1, (.int ((inputs1 : Nat) : Int))] ∧ Ex F H ∧ (pL pN).r F v1 rows_here1 ∧ W_joined rows_here1 inputs1 R ∧ ∀ z, R z → ∀ F' H', Wf F H F' H' → Q (.int ((z : Nat) : Int)) H'
abbrev N_joined : List Str := ["_law_rows_here", "_law_inputs", "_law_total", "_law_row"]
theorem sc_joined : FnScope N_joined ["_law_rows_here", "_law_inputs"] (defScope s_joined) := ⟨rfl, rfl, rfl, by decide +kernel, rfl, by decide +kernel, by decide +kernel⟩
theorem ok_joined {P : Program} {w0 : World} {K : PySem.W.Frag} {mg : Str → Option Value} {base : Heap} {f : Addr} {fd : FuncData} {cc : Cz} (T : Tz K mg cc) (FU : Fun K "_law_joined" "_law_joined" s_joined f fd) (hm : mg "_law_joined" = some (.ref f)) (hb : Binds K fd ["_law_rows_here", "_law_inputs"] []) (n_reversed : mg "reversed" = none) : Fn P w0 K mg base CX0 1 "_law_joined" ["_law_rows_here", "_law_inputs"] (sp_joined K cc) := by
  refine ⟨f, fd, FU.ok sc_joined (fun vs H Q E h => ?_) (fun cdv A outer s H0 vs Q E hr h => ?_), hm, FU.kp, hb⟩
  · obtain ⟨_, _, _, _, _, rfl, _⟩ := h; rfl
  · obtain ⟨F0, v1, rows_here1, inputs1, R, rfl, wf, r1, hW, hQ⟩ := h
    have nd := sc_joined.nd
    refine ⟨(tSeq (tAsg (tC (.int 0)) (gName 2)) (tSeq (tFor (iRev K (tCons (tVar 0) tNil)) (gName 3) (tAsg (tOp kAdd (tOp kMul (tVar 2) (tOp kShl (tC (.int 1)) (tVar 1))) (tVar 3)) (gName 2))) (tRet (tVar 2)))), (pss_cons (ps_set (i := 2) nd rfl (Or.inl rfl) pe_int) (pss_cons (ps_for PassesOwn.never rfl (pi_reversed (by rfl) n_reversed (pa_cons (pv 0) pa_nil)) (pg_name (i := 3) nd rfl (Or.inl rfl)) (pss_one (ps_set (i := 2) nd rfl (Or.inl rfl) (pe_op op_add (pe_op op_mul (pv 2) (pe_op op_shlW pe_int (pv 1))) (pv 3))))) (pss_one (ps_ret (pv 2))))), ?_⟩
    have w := Wf.id wf
    refine q_sq fun N1 hN1 => ?_
    refine a_asg (v := (.int ((0 : Nat) : Int))) val_c ?_
    refine hN1 _ _ ?_
    refine q_sq fun N2 hN2 => ?_
    refine f_J ?_
    refine a_val (v := v1) (val_var rfl) ?_
    refine a_nil ?_
    refine src_rev r1 w.f (fun J1 T1 => ?_)
    refine w_forG (S := Nat) T1 (fun total1 σ' F' H' => ∃ (o1 : Option V), Wf F0 H0 F' H' ∧ Ex F0 F' ∧ σ' = [some v1, some (.int ((inputs1 : Nat) : Int)), some (.int ((total1 : Nat) : Int)), o1]) hW ⟨_, w, Ex.rfl', rfl⟩ (fun s σ' F' H' hI => by obtain ⟨_, w', gx', _⟩ := hI; exact ⟨gx', w'.f⟩) w.f ?_ ?_
    · intro N3 Bk1 row1 u1 total1 σ' F1 H1 F2 H2 nx1 bk1 hI1 hx1 s2 ru1 hW hN3 hB1
      obtain ⟨o1, w, gx1, rfl⟩ := hI1
      have r1 := Rep.mono _ gx1 r1
      replace r1 := Rep.mono _ s2.g r1
      replace w := w.tr s2
      replace gx1 := Ex.tr gx1 s2.g
      obtain rfl : u1 = (.int ((row1 : Nat) : Int)) := ru1
      refine g_name ?_
      obtain ⟨c1, hW⟩ := hW
      obtain ⟨c2, hW⟩ := hW
      obtain ⟨total2, etotal1⟩ : ∃ total2 : Nat, total2 = (total1 * (2 ^ inputs1)) + row1 := ⟨_, rfl⟩
      replace hW := hW total2 etotal1
      refine a_asg (v := (.int ((total2 : Nat) : Int))) (v_eq (vn_add (vn_mul (val_var rfl) (vn_one val_c (val_var rfl) c1) c2) (val_var rfl)) (by rw [etotal1])) ?_
      exact hN3 total2 _ _ _ ⟨_, w, gx1, rfl⟩ hW
    · intro total1 σ' F3 H3 hI2 hW
      obtain ⟨o1, w, gx2, rfl⟩ := hI2
      have r1 := Rep.mono _ gx2 r1
      refine hN2 _ _ ?_
      refine a_ret (v := (.int ((total1 : Nat) : Int))) (val_var rfl) ?_
      exact hQ _ hW _ _ w
abbrev s_parted : Stmt := topS 48
/-! _law_parted -/
def W_parted (joined_here1 : Nat) (turns1 : Nat) (inputs1 : Nat) (R : (List Nat) → Prop) : Prop := (turns1 < 1000000) ∧ compW (List.range turns1) (fun turn1 kk => (NMul turn1 inputs1) ∧ (inputs1 < 100000000) ∧ (1 ≤ 2 ^ inputs1) ∧ kk (some ((joined_here1 >>> (turn1 * inputs1)) &&& ((2 ^ inputs1) - 1)))) fun ys1 => R ys1
def sp_parted (K : PySem.W.Frag) (cc : Cz) : Sp := fun vs H Q _ => ∃ (F : Hp) (joined_here1 : Nat) (turns1 : Nat) (inputs1 : Nat) (R : (List Nat) → Prop), vs = [(.int ((joined_here1 : Nat) : Int)), (.int ((turns1 : Nat) : Int)), (.int ((inputs1 : Nat) : Int))] ∧ Ex F H ∧ W_parted joined_here1 turns1 inputs1 R ∧ ∀ z, R z → ∀ p F' H', Wf F H F' H' → XL pN H F' H' p z → Q (.ref p) H'
abbrev N_parted : List Str := ["_law_joined_here", "_law_turns", "_law_inputs", "_law_turn"]
theorem sc_parted : FnScope N_parted ["_law_joined_here", "_law_turns", "_law_inputs"] (defScope s_parted) := ⟨rfl, rfl, rfl, by decide +kernel, rfl, by decide +kernel, by decide +kernel⟩
theorem ok_parted {P : Program} {w0 : World} {K : PySem.W.Frag} {mg : Str → Option Value} {base : Heap} {f : Addr} {fd : FuncData} {cc : Cz} (T : Tz K mg cc) (FU : Fun K "_law_parted" "_law_parted" s_parted f fd) (hm : mg "_law_parted" = some (.ref f)) (hb : Binds K fd ["_law_joined_here", "_law_turns", "_law_inputs"] []) (n_range : mg "range" = none) : Fn P w0 K mg base CX0 1 "_law_parted" ["_law_joined_here", "_law_turns", "_law_inputs"] (sp_parted K cc) := by
  refine ⟨f, fd, FU.ok sc_parted (fun vs H Q E h => ?_) (fun cdv A outer s H0 vs Q E hr h => ?_), hm, FU.kp, hb⟩
  · obtain ⟨_, _, _, _, _, rfl, _⟩ := h; rfl
  · obtain ⟨F0, joined_here1, turns1, inputs1, R, rfl, wf, hW, hQ⟩ := h
    have nd := sc_parted.nd
    refine ⟨(tRet (tLc (iRng1 (tCons (tVar 1) tNil)) (gName 3) tYes (tOp kAnd (tOp kShr (tVar 0) (tOp kMul (tVar 3) (tVar 2))) (tOp kSub (tOp kShl (tC (.int 1)) (tVar 2)) (tC (.int 1)))) [3])), (pss_one (ps_ret (pe_lc (own := [("_law_turn", 3)]) (wi := (iRng1 (tCons (tVar 1) tNil))) (g := (gName 3)) (tt := tYes) (te := (tOp kAnd (tOp kShr (tVar 0) (tOp kMul (tVar 3) (tVar 2))) (tOp kSub (tOp kShl (tC (.int 1)) (tVar 2)) (tC (.int 1))))) rfl nd (pi_range1 rfl n_range (pa_cons (pv 1) pa_nil)) (blkOk_by (N := N_parted) (sc := defScope s_parted) (by decide +kernel)) (fun _ _ _ _ _ => (pg_name (i := 3) nd rfl (Or.inl rfl))) (fun _ _ _ _ _ => pts_nil) (fun _ _ _ _ _ => (pe_op op_and (pe_op op_shr (pv 0) (pe_op op_mul (pv 3) (pv 2))) (pe_op op_sub (pe_op op_shlW pe_int (pv 2)) pe_int)))))), ?_⟩
    have w := Wf.id wf
    refine a_retE ?_
    refine c_RE ?_
    refine e_val (v := (.int ((turns1 : Nat) : Int))) (val_var rfl) ?_
    obtain ⟨c1, hW⟩ := hW
    refine w_compR (e := pN) w c1 hW ?_ ?_
    · intro Qy Qn turn1 F1 H1 R1 q1 hx1 hW hy1 hn1
      have w := Wf.id q1.f
      refine ⟨rfl, ?_⟩
      refine c_yes ?_
      obtain ⟨c2, hW⟩ := hW
      obtain ⟨c3, hW⟩ := hW
      obtain ⟨c4, hW⟩ := hW
      refine e_val (v := (.int (((joined_here1 >>> (turn1 * inputs1)) &&& ((2 ^ inputs1) - 1) : Nat) : Int))) (vn_and (vn_shr (val_var rfl) (vn_mul (val_var rfl) (val_var rfl) c2)) (vn_sub (vn_one val_c (val_var rfl) c3) val_c c4)) ?_
      exact hy1 _ _ _ _ w rfl hW
    intro p1 ys1 F2 H2 hp1 s1 x1 hW
    replace w := w.tr s1
    exact hQ _ hW _ _ _ w x1
abbrev s_Lrank : Stmt := topS 49
/-! _law_rank -/
def W_Lrank (masks_here1 : List Nat) (R : Nat → Prop) : Prop := forW masks_here1 ([] : List Nat) (fun mask1 left1 nx1 bk1 => forW left1 mask1 (fun one1 mask2 nx2 bk2 => ∀ mask3 : Nat, mask3 = min mask2 (mask2 ^^^ one1) → nx2 mask3) fun mask2 => if 0 < mask2 then ((left1.length < 1000000) ∧ nx1 (left1 ++ [mask2])) else (nx1 left1)) fun left1 => R left1.length
def sp_Lrank (K : PySem.W.Frag) (cc : Cz) : Sp := fun vs H Q _ => ∃ (F : Hp) (v1 : V) (masks_here1 : List Nat) (R : Nat → Prop), vs = [v1] ∧ Ex F H ∧ (pL pN).r F v1 masks_here1 ∧ W_Lrank masks_here1 R ∧ ∀ z, R z → ∀ F' H', Wf F H F' H' → Q (.int ((z : Nat) : Int)) H'
abbrev N_Lrank : List Str := ["_law_masks_here", "_law_left", "_law_mask", "_law_one"]
theorem sc_Lrank : FnScope N_Lrank ["_law_masks_here"] (defScope s_Lrank) := ⟨rfl, rfl, rfl, by decide +kernel, rfl, by decide +kernel, by decide +kernel⟩
theorem ok_Lrank {P : Program} {w0 : World} {K : PySem.W.Frag} {mg : Str → Option Value} {base : Heap} {f : Addr} {fd : FuncData} {cc : Cz} (T : Tz K mg cc) (FU : Fun K "_law_rank" "_law_rank" s_Lrank f fd) (hm : mg "_law_rank" = some (.ref f)) (hb : Binds K fd ["_law_masks_here"] []) (n_len : mg "len" = none) (n_min : mg "min" = none) : Fn P w0 K mg base CX0 1 "_law_rank" ["_law_masks_here"] (sp_Lrank K cc) := by
  refine ⟨f, fd, FU.ok sc_Lrank (fun vs H Q E h => ?_) (fun cdv A outer s H0 vs Q E hr h => ?_), hm, FU.kp, hb⟩
  · obtain ⟨_, _, _, _, rfl, _⟩ := h; rfl
  · obtain ⟨F0, v1, masks_here1, R, rfl, wf, r1, hW, hQ⟩ := h
    have nd := sc_Lrank.nd
    refine ⟨(tSeq (tAsg (tLst tNil) (gName 1)) (tSeq (tFor (iList K (tVar 0)) (gName 2) (tSeq (tFor (iList K (tVar 1)) (gName 3) (tAsg (tCB rMin2 (tCons (tVar 2) (tCons (tOp kXor (tVar 2) (tVar 3)) tNil))) (gName 2))) (tIfS (tTest (tOp kGt (tVar 2) (tC (.int 0)))) (tDrop (tBM K "list" rAppend (tVar 1) (tCons (tVar 2) tNil))) tNext))) (tRet (tCB (Wk.rLen K) (tCons (tVar 1) tNil))))), (pss_cons (ps_set (i := 1) nd rfl (Or.inl rfl) (pe_lst pa_nil)) (pss_cons (ps_for PassesOwn.never rfl (pi_list (pv 0)) (pg_name (i := 2) nd rfl (Or.inl rfl)) (pss_cons (ps_for PassesOwn.never rfl (pi_list (pv 1)) (pg_name (i := 3) nd rfl (Or.inl rfl)) (pss_one (ps_set (i := 2) nd rfl (Or.inl rfl) (pe_callB (call_min2 rfl) (by rfl) n_min PyProof.Rows.boot_min (pa_cons (pv 2) (pa_cons (pe_op op_xor (pv 2) (pv 3)) pa_nil)))))) (pss_one (ps_if (pt_cmpR op_gt (pv 2) pe_int (nomark _)) (pss_one (ps_expr (pe_bm PySem.F.plainAttrs_list PySem.F.slot_list_append PySem.F.type_list_append mt_append (pv 1) (pa_cons (pv 2) pa_nil)))) pss_nil)))) (pss_one (ps_ret (pe_callB call_len_seq (by rfl) n_len PySem.boot_len (pa_cons (pv 1) pa_nil)))))), ?_⟩
    have w := Wf.id wf
    refine q_sq fun N1 hN1 => ?_
    refine a_asgE ?_
    refine e_lst ?_
    refine a_nil ?_
    refine n_lstX (e := pN) (xs := []) (vs := []) (show All pN _ [] [] from trivial) (show 0 < 1000000 from by decide) w ?_
    intro p1 H1 hp1 s1 x1
    replace r1 := Rep.mono _ s1.g r1
    replace w := w.tr s1
    refine hN1 _ _ ?_
    refine q_sq fun N2 hN2 => ?_
    refine f_LE ?_
    refine e_val (v := v1) (val_var rfl) ?_
    refine w_forL (S := List Nat) (fun left1 σ' F' H' => ∃ (o1 : Option V) (o2 : Option V), Wf F0 H0 F' H' ∧ Ex F0 F' ∧ σ' = [some v1, some ((.ref p1)), o1, o2] ∧ XL pN H0 F' H' p1 left1) r1 hW ⟨_, _, w, Ex.rfl', rfl, x1⟩ (fun s σ' F' H' hI => by obtain ⟨_, _, w', gx', _⟩ := hI; exact ⟨gx', w'.f⟩) w.f ?_ ?_
    · intro N3 Bk1 mask1 u1 left1 σ' F1 H2 nx1 bk1 hI1 hx1 ru1 hW hN3 hB1
      obtain ⟨o1, o2, w, gx1, rfl, x2⟩ := hI1
      have r1 := Rep.mono _ gx1 r1
      obtain rfl : u1 = (.int ((mask1 : Nat) : Int)) := ru1
      refine g_name ?_
      refine q_sq fun N4 hN4 => ?_
      refine f_LE ?_
      refine e_val (v := (.ref p1)) (val_var rfl) ?_
      refine w_forX (S := Nat) (fun mask2 σ' F' H' => ∃ (o3 : Option V), Wf F0 H0 F' H' ∧ Ex F1 F' ∧ σ' = [some v1, some (.ref p1), some (.int ((mask2 : Nat) : Int)), o3] ∧ XL pN H0 F' H' p1 left1) x2 hW ⟨_, w, Ex.rfl', rfl, x2⟩ (fun s σ' F' H' hI => by obtain ⟨_, _, _, _, xk⟩ := hI; exact xk) ?_ ?_
      · intro N5 Bk2 one1 u2 mask2 σ' F2 H3 nx2 bk2 hI2 hx2 ru2 hW hN5 hB2
        obtain ⟨o3, w, gx2, rfl, x3⟩ := hI2
        have r1 := Rep.mono _ gx2 r1
        have gx1 := Ex.tr gx1 gx2
        obtain rfl : u2 = (.int ((one1 : Nat) : Int)) := ru2
        refine g_name ?_
        obtain ⟨mask3, emask1⟩ : ∃ mask3 : Nat, mask3 = min mask2 (mask2 ^^^ one1) := ⟨_, rfl⟩
        replace hW := hW mask3 emask1
        refine a_asg (v := (.int ((mask3 : Nat) : Int))) (v_eq (vn_min2 (val_var rfl) (vn_xor (val_var rfl) (val_var rfl))) (by rw [emask1])) ?_
        exact hN5 mask3 _ _ _ ⟨_, w, gx2, rfl, x3⟩ hW
      · intro mask2 σ' F3 H4 hI3 hW
        obtain ⟨o3, w, gx3, rfl, x3⟩ := hI3
        have r1 := Rep.mono _ gx3 r1
        have gx1 := Ex.tr gx1 gx3
        refine hN4 _ _ ?_
        refine a_ifE ?_
        refine e_ans (b := decide (0 < mask2)) (t_of (vb_dec (c_gt (val_var rfl) val_c) n_lt)) ?_
        refine b_if (fun hc1 => ?_) (fun hc1 => ?_)
        · have hW := ifP hW hc1
          refine a_dropE ?_
          refine m_list x3 (val_var rfl) ?_
          refine a_val (v := (.int ((mask2 : Nat) : Int))) (val_var rfl) ?_
          refine a_nil ?_
          obtain ⟨c1, hW⟩ := hW
          refine a_app x3 w c1 rfl (fun H5 w1 x4 kp1 => ?_)
          replace w := w1
          exact hN3 (left1 ++ [mask2]) _ _ _ ⟨_, _, w, gx1, rfl, x4⟩ hW
        · have hW := ifN hW hc1
          exact hN3 left1 _ _ _ ⟨_, _, w, gx1, rfl, x3⟩ hW
    · intro left1 σ' F4 H6 hI4 hW
      obtain ⟨o1, o2, w, gx4, rfl, x2⟩ := hI4
      have r1 := Rep.mono _ gx4 r1
      refine hN2 _ _ ?_
      refine a_ret (v := (.int ((left1.length : Nat) : Int))) (len_X x2 (val_var rfl)) ?_
      exact hQ _ hW _ _ w
abbrev s_single_checks : Stmt := topS 50
/-! _law_single_checks -/
def W_single_checks (tables1 : Nat × List (Nat × Nat) × List (Nat × Nat)) (turns1 : Nat) (R : (List Nat) → Prop) : Prop := (NMul turns1 tables1.1) ∧ (turns1 * tables1.1 < 1000000) ∧ forW (List.range (turns1 * tables1.1)) ([] : List Nat) (fun k1 found1 nx1 bk1 => (k1 < 100000000) ∧ W_parted (2 ^ k1) turns1 tables1.1 fun z1 => W_check tables1 z1 fun z2 => (found1.length < 1000000) ∧ nx1 (found1 ++ [z2])) fun found1 => R found1
def sp_single_checks (K : PySem.W.Frag) (cc : Cz) : Sp := fun vs H Q _ => ∃ (F : Hp) (v1 : V) (tables1 : Nat × List (Nat × Nat) × List (Nat × Nat)) (turns1 : Nat) (R : (List Nat) → Prop), vs = [v1, (.int ((turns1 : Nat) : Int))] ∧ Ex F H ∧ (pT3 pN (pL (pT2 pN pN)) (pL (pT2 pN pN))).r F v1 tables1 ∧ W_single_checks tables1 turns1 R ∧ ∀ z, R z → ∀ p F' H', Wf F H F' H' → XL pN H F' H' p z → Q (.ref p) H'
abbrev N_single_checks : List Str := ["_law_tables", "_law_turns", "_law_found", "_law_k"]
theorem sc_single_checks : FnScope N_single_checks ["_law_tables", "_law_turns"] (defScope s_single_checks) := ⟨rfl, rfl, rfl, by decide +kernel, rfl, by decide +kernel, by decide +kernel⟩
theorem ok_single_checks {P : Program} {w0 : World} {K : PySem.W.Frag} {mg : Str → Option Value} {base : Heap} {f : Addr} {fd : FuncData} {cc : Cz} (T : Tz K mg cc) (FU : Fun K "_law_single_checks" "_law_single_checks" s_single_checks f fd) (hm : mg "_law_single_checks" = some (.ref f)) (hb : Binds K fd ["_law_tables", "_law_turns"] []) (c_parted : Fn P w0 K mg base CX0 1 "_law_parted" ["_law_joined_here", "_law_turns", "_law_inputs"] (sp_parted K cc)) (c_check : Fn P w0 K mg base CX0 3 "_law_check" ["_law_tables", "_law_rows_here"] (sp_check K cc)) (n_range : mg "range" = none) : Fn P w0 K mg base CX0 4 "_law_single_checks" ["_law_tables", "_law_turns"] (sp_single_checks K cc) := by
  refine ⟨f, fd, FU.ok sc_single_checks (fun vs H Q E h => ?_) (fun cdv A outer s H0 vs Q E hr h => ?_), hm, FU.kp, hb⟩
  · obtain ⟨_, _, _, _, _, rfl, _⟩ := h; rfl
  · obtain ⟨F0, v1, tables1, turns1, R, rfl, wf, r1, hW, hQ⟩ := h
    have nd := sc_single_checks.nd
    refine ⟨(tSeq (tAsg (tLst tNil) (gName 2)) (tSeq (tFor (iRng1 (tCons (tOp kMul (tVar 1) (tOp (L2.rIxT K) (tVar 0) (tC (.int 0)))) tNil)) (gName 3) (tDrop (tBM K "list" rAppend (tVar 2) (tCons (tCall (sp_check K cc) [] E0 (tCons (tVar 0) (tCons (tCall (sp_parted K cc) [] E0 (tCons (tOp kShl (tC (.int 1)) (tVar 3)) (tCons (tVar 1) (tCons (tOp (L2.rIxT K) (tVar 0) (tC (.int 0))) tNil)))) tNil))) tNil)))) (tRet (tVar 2)))), (pss_cons (ps_set (i := 2) nd rfl (Or.inl rfl) (pe_lst pa_nil)) (pss_cons (ps_for PassesOwn.never rfl (pi_range1 rfl n_range (pa_cons (pe_op op_mul (pv 1) (pe_ix ix_tup (pv 0) pe_int (fun _ _ => rfl))) pa_nil)) (pg_name (i := 3) nd rfl (Or.inl rfl)) (pss_one (ps_expr (pe_bm PySem.F.plainAttrs_list PySem.F.slot_list_append PySem.F.type_list_append mt_append (pv 2) (pa_cons (pe_fn c_check (hr.mono (by decide)) rfl (pa_cons (pv 0) (pa_cons (pe_fn c_parted (hr.mono (by decide)) rfl (pa_cons (pe_op op_shlW pe_int (pv 3)) (pa_cons (pv 1) (pa_cons (pe_ix ix_tup (pv 0) pe_int (fun _ _ => rfl)) pa_nil)))) pa_nil))) pa_nil))))) (pss_one (ps_ret (pv 2))))), ?_⟩
    have w := Wf.id wf
    refine q_sq fun N1 hN1 => ?_
    refine a_asgE ?_
    refine e_lst ?_
    refine a_nil ?_
    refine n_lstX (e := pN) (xs := []) (vs := []) (show All pN _ [] [] from trivial) (show 0 < 1000000 from by decide) w ?_
    intro p1 H1 hp1 s1 x1
    replace r1 := Rep.mono _ s1.g r1
    replace w := w.tr s1
    refine hN1 _ _ ?_
    refine q_sq fun N2 hN2 => ?_
    refine f_RE ?_
    obtain ⟨_, rfl, ix1⟩ := ix_3a (K := K) r1 w.f
    obtain ⟨c1, hW⟩ := hW
    refine e_val (v := (.int ((turns1 * tables1.1 : Nat) : Int))) (vn_mul (val_var rfl) (ix1 (val_var rfl) val_c) c1) ?_
    obtain ⟨c2, hW⟩ := hW
    refine w_forR (S := List Nat) (fun found1 σ' F' H' => ∃ (o1 : Option V), Wf F0 H0 F' H' ∧ Ex F0 F' ∧ σ' = [some v1, some (.int ((turns1 : Nat) : Int)), some ((.ref p1)), o1] ∧ XL pN H0 F' H' p1 found1) c2 hW ⟨_, w, Ex.rfl', rfl, x1⟩ ?_ ?_
    · intro N3 Bk1 k1 found1 σ' F1 H2 nx1 bk1 hI1 hx1 hW hN3 hB1
      obtain ⟨o1, w, gx1, rfl, x2⟩ := hI1
      have r1 := Rep.mono _ gx1 r1
      refine g_name ?_
      refine a_dropE ?_
      refine m_list x2 (val_var rfl) ?_
      refine a_cons ?_
      refine e_call ?_
      refine a_val (v := v1) (val_var rfl) ?_
      refine a_cons ?_
      refine e_call ?_
      obtain ⟨c3, hW⟩ := hW
      refine a_val (v := (.int ((2 ^ k1 : Nat) : Int))) (vn_one val_c (val_var rfl) c3) ?_
      refine a_val (v := (.int ((turns1 : Nat) : Int))) (val_var rfl) ?_
      obtain ⟨_, rfl, ix2⟩ := ix_3a (K := K) r1 w.f
      refine a_val (v := (.int ((tables1.1 : Nat) : Int))) (ix2 (val_var rfl) val_c) ?_
      refine a_nil ?_
      refine ⟨F1, (2 ^ k1), (turns1), (tables1.1), _, rfl, w.f, hW, ?_⟩
      intro z1 hW p2 F2 H3 s3 x3
      have ne1 := x2.ne x3.zero
      replace x3 := x3.base w
      replace r1 := Rep.mono _ s3.g r1
      replace x2 := x2.step s3
      replace w := w.tr s3
      replace gx1 := Ex.tr gx1 s3.g
      refine a_nil ?_
      obtain ⟨Fl1, lf1, lg1, lr1⟩ := x3.lend w
      refine ⟨Fl1, (v1), (tables1), ((.ref p2)), (z1), _, rfl, lf1, (Rep.mono _ lg1 r1), lr1, hW, ?_⟩
      intro z2 hW F3 H4 s4
      replace s4 := Wf.grow w.f s4.h
      replace r1 := Rep.mono _ s4.g r1
      replace x2 := x2.step s4
      replace x3 := x3.step s4
      replace w := w.tr s4
      replace gx1 := Ex.tr gx1 s4.g
      refine a_nil ?_
      obtain ⟨c4, hW⟩ := hW
      refine a_app x2 w c4 rfl (fun H5 w1 x4 kp1 => ?_)
      replace x3 := x3.kept kp1 (Ne.symm ne1)
      replace w := w1
      exact hN3 (found1 ++ [z2]) _ _ _ ⟨_, w, gx1, rfl, x4⟩ hW
    · intro found1 σ' F4 H6 hI2 hW
      obtain ⟨o1, w, gx2, rfl, x2⟩ := hI2
      have r1 := Rep.mono _ gx2 r1
      refine hN2 _ _ ?_
      refine a_ret (v := (.ref p1)) (val_var rfl) ?_
      exact hQ _ hW _ _ _ w x2
abbrev s_told_right : Stmt := topS 51
/-! _law_told_right -/
def W_told_right (machine_here1 : Nat × List (Nat × Nat) × List (Nat × Nat)) (tables1 : Nat × List (Nat × Nat) × List (Nat × Nat)) (turns1 : Nat) (told1 : List (List Nat)) (R : Bool → Prop) : Prop := forW told1 () (fun rows_here1 _ nx1 bk1 => jn (fun kk => W_is_list rows_here1 tables1.1 fun z1 => if z1 = true then (if rows_here1.length ≠ turns1 then (kk true) else (W_check tables1 rows_here1 fun z2 => kk (decide (z2 ≠ 0)))) else (kk true)) fun b1 => if b1 = true then (R false) else (W_missed machine_here1 (An.l (rows_here1.map (fun n : Nat => An.i (n : Int)))) False fun z3 => if ¬ z3 = true then (R false) else (nx1 ()))) fun _ => (told1.length < 1000000) ∧ compW told1 (fun rows_here2 kk => W_joined rows_here2 tables1.1 fun z4 => kk (some z4)) fun ys1 => W_Lrank ys1 fun z5 => if z5 ≠ told1.length then (R false) else ((NMul turns1 tables1.1) ∧ W_single_checks tables1 turns1 fun z6 => W_Lrank z6 fun z7 => (z7 ≤ turns1 * tables1.1) ∧ R (decide (told1.length = ((turns1 * tables1.1) - z7))))
def sp_told_right (K : PySem.W.Frag) (cc : Cz) : Sp := fun vs H Q _ => ∃ (F : Hp) (v1 : V) (machine_here1 : Nat × List (Nat × Nat) × List (Nat × Nat)) (v2 : V) (tables1 : Nat × List (Nat × Nat) × List (Nat × Nat)) (turns1 : Nat) (v3 : V) (told1 : List (List Nat)) (R : Bool → Prop), vs = [v1, v2, (.int ((turns1 : Nat) : Int)), v3] ∧ Ex F H ∧ (pO3 cc.Machine "inputs" "nexts" "outs" pN (pTL (pT2 pN pN)) (pTL (pT2 pN pN))).r F v1 machine_here1 ∧ (pT3 pN (pL (pT2 pN pN)) (pL (pT2 pN pN))).r F v2 tables1 ∧ (pL (pL pN)).r F v3 told1 ∧ W_told_right machine_here1 tables1 turns1 told1 R ∧ ∀ z, R z → ∀ F' H', Wf F H F' H' → Q (.bl (z)) H'
abbrev N_told_right : List Str := ["_law_machine_here", "_law_tables", "_law_turns", "_law_told", "_law_rows_here", "_law_joined_here"]
theorem sc_told_right : FnScope N_told_right ["_law_machine_here", "_law_tables", "_law_turns", "_law_told"] (defScope s_told_right) := ⟨rfl, rfl, rfl, by decide +kernel, rfl, by decide +kernel, by decide +kernel⟩
theorem ok_told_right {P : Program} {w0 : World} {K : PySem.W.Frag} {mg : Str → Option Value} {base : Heap} {f : Addr} {fd : FuncData} {cc : Cz} (T : Tz K mg cc) (FU : Fun K "_law_told_right" "_law_told_right" s_told_right f fd) (hm : mg "_law_told_right" = some (.ref f)) (hb : Binds K fd ["_law_machine_here", "_law_tables", "_law_turns", "_law_told"] []) (c_is_list : Fn P w0 K mg base CX0 2 "_law_is_list" ["_law_found", "_law_width"] (sp_is_list K cc)) (c_check : Fn P w0 K mg base CX0 3 "_law_check" ["_law_tables", "_law_rows_here"] (sp_check K cc)) (c_missed : Fn P w0 K mg base (L2.CX P w0) 7 "missed" ["machine", "rows"] (sp_missed K cc)) (c_joined : Fn P w0 K mg base CX0 1 "_law_joined" ["_law_rows_here", "_law_inputs"] (sp_joined K cc)) (c_Lrank : Fn P w0 K mg base CX0 1 "_law_rank" ["_law_masks_here"] (sp_Lrank K cc)) (c_single_checks : Fn P w0 K mg base CX0 4 "_law_single_checks" ["_law_tables", "_law_turns"] (sp_single_checks K cc)) (n_isinstance : mg "isinstance" = none) (n_len : mg "len" = none) (n_list : mg "list" = none) : Fn P w0 K mg base CX0 8 "_law_told_right" ["_law_machine_here", "_law_tables", "_law_turns", "_law_told"] (sp_told_right K cc) := by
  refine ⟨f, fd, FU.ok sc_told_right (fun vs H Q E h => ?_) (fun cdv A outer s H0 vs Q E hr h => ?_), hm, FU.kp, hb⟩
  · obtain ⟨_, _, _, _, _, _, _, _, _, rfl, _⟩ := h; rfl
  · obtain ⟨F0, v1, machine_here1, v2, tables1, turns1, v3, told1, R, rfl, wf, r1, r2, r3, hW, hQ⟩ := h
    have nd := sc_told_right.nd
    refine ⟨(tSeq (tIfS (tNot (tB (tCB (rIsi K) (tCons (tVar 3) (tCons (tC (.ty "list")) tNil))))) (tRet (tC (.bl false))) tNext) (tSeq (tFor (iList K (tVar 3)) (gName 4) (tSeq (tIfS (tOr (tNot (tB (tCall (sp_is_list K cc) [] E0 (tCons (tVar 4) (tCons (tOp (L2.rIxT K) (tVar 1) (tC (.int 0))) tNil))))) (tOr (tTest (tOp L2.rNe (tCB (Wk.rLen K) (tCons (tVar 4) tNil)) (tVar 2))) (tTest (tOp L2.rNe (tCall (sp_check K cc) [] E0 (tCons (tVar 1) (tCons (tVar 4) tNil))) (tC (.int 0)))))) (tRet (tC (.bl false))) tNext) (tIfS (tTest (tOp rNotB (tCall (sp_missed K cc) [] E0 (tCons (tVar 0) (tCons (tVar 4) tNil))) (tC (.bl true)))) (tRet (tC (.bl false))) tNext))) (tSeq (tAsg (tLc (iList K (tVar 3)) (gName 4) tYes (tCall (sp_joined K cc) [] E0 (tCons (tVar 4) (tCons (tOp (L2.rIxT K) (tVar 1) (tC (.int 0))) tNil))) [4]) (gName 5)) (tSeq (tIfS (tTest (tOp L2.rNe (tCall (sp_Lrank K cc) [] E0 (tCons (tVar 5) tNil)) (tCB (Wk.rLen K) (tCons (tVar 3) tNil)))) (tRet (tC (.bl false))) tNext) (tRet (tOp L2.rEq (tCB (Wk.rLen K) (tCons (tVar 3) tNil)) (tOp kSub (tOp kMul (tVar 2) (tOp (L2.rIxT K) (tVar 1) (tC (.int 0)))) (tCall (sp_Lrank K cc) [] E0 (tCons (tCall (sp_single_checks K cc) [] E0 (tCons (tVar 1) (tCons (tVar 2) tNil))) tNil))))))))), (pss_cons (ps_if (pt_not (pt_val (pe_callB call_isi (by rfl) n_isinstance PyProof.Rows.boot_isinstance (pa_cons (pv 3) (pa_cons (pe_bltn (v := .ty "list") (by rfl) n_list PyProof.Rows.boot_list rfl) pa_nil))))) (pss_one (ps_ret pe_bl)) pss_nil) (pss_cons (ps_for PassesOwn.never rfl (pi_list (pv 3)) (pg_name (i := 4) nd rfl (Or.inl rfl)) (pss_cons (ps_if (PW.pt (pw_or (pt_not (pt_val (pe_fn c_is_list (hr.mono (by decide)) rfl (pa_cons (pv 4) (pa_cons (pe_ix ix_tup (pv 1) pe_int (fun _ _ => rfl)) pa_nil))))) (pw_or (pt_cmpR op_ne (pe_callB call_len_seq (by rfl) n_len PySem.boot_len (pa_cons (pv 4) pa_nil)) (pv 2) (nomark _)) (pw_or1 (pt_cmpR op_ne (pe_fn c_check (hr.mono (by decide)) rfl (pa_cons (pv 1) (pa_cons (pv 4) pa_nil))) pe_int (nomark _)))))) (pss_one (ps_ret pe_bl)) pss_nil) (pss_one (ps_if (pt_cmpR op_notBl (pe_fnL c_missed (hr.mono (by decide)) rfl (pa_cons (pv 0) (pa_cons (pv 4) pa_nil))) pe_bl (nomark _)) (pss_one (ps_ret pe_bl)) pss_nil)))) (pss_cons (ps_setLc (i := 5) (own := [("_law_rows_here", 4)]) (wi := (iList K (tVar 3))) (g := (gName 4)) (tt := tYes) (te := (tCall (sp_joined K cc) [] E0 (tCons (tVar 4) (tCons (tOp (L2.rIxT K) (tVar 1) (tC (.int 0))) tNil)))) rfl nd rfl rfl (sw_true rfl rfl rfl (by decide +kernel)) (pi_list (pv 3)) (blkOk_by (N := N_told_right) (sc := defScope s_told_right) (by decide +kernel)) (fun _ _ _ _ _ => (pg_name (i := 4) nd rfl (Or.inl rfl))) (fun _ _ _ _ _ => pts_nil) (fun _ _ _ _ _ => (pe_fn c_joined (hr.mono (by decide)) rfl (pa_cons (pv 4) (pa_cons (pe_ix ix_tup (pv 1) pe_int (fun _ _ => rfl)) pa_nil))))) (pss_cons (ps_if (pt_cmpR op_ne (pe_fn c_Lrank (hr.mono (by decide)) rfl (pa_cons (pv 5) pa_nil)) (pe_callB call_len_seq (by rfl) n_len PySem.boot_len (pa_cons (pv 3) pa_nil)) (nomark _)) (pss_one (ps_ret pe_bl)) pss_nil) (pss_one (ps_ret (pe_cmpR op_eq (pe_callB call_len_seq (by rfl) n_len PySem.boot_len (pa_cons (pv 3) pa_nil)) (pe_op op_sub (pe_op op_mul (pv 2) (pe_ix ix_tup (pv 1) pe_int (fun _ _ => rfl))) (pe_fn c_Lrank (hr.mono (by decide)) rfl (pa_cons (pe_fn c_single_checks (hr.mono (by decide)) rfl (pa_cons (pv 1) (pa_cons (pv 2) pa_nil))) pa_nil))) (nomark _)))))))), ?_⟩
    have w := Wf.id wf
    refine q_sq fun N1 hN1 => ?_
    refine a_ifE ?_
    refine e_ans (b := false) (t_dec (t_iff (p := ¬ (True)) (q := False) (t_not (t_ofB (vb_of (v_isi (b := true) (val_var rfl) (ty_L r3 w.f) (by decide +kernel)) dec_T))) (by simp)) dec_F.symm) ?_
    refine if_f ?_
    refine hN1 _ _ ?_
    refine q_sq fun N2 hN2 => ?_
    refine f_LE ?_
    refine e_val (v := v3) (val_var rfl) ?_
    refine w_forL (S := Unit) (fun _ σ' F' H' => ∃ (o1 : Option V), Wf F0 H0 F' H' ∧ Ex F0 F' ∧ σ' = [some v1, some v2, some (.int ((turns1 : Nat) : Int)), some v3, o1, none]) r3 hW ⟨_, w, Ex.rfl', rfl⟩ (fun s σ' F' H' hI => by obtain ⟨_, w', gx', _⟩ := hI; exact ⟨gx', w'.f⟩) w.f ?_ ?_
    · intro N3 Bk1 rows_here1 u1 s1 σ' F1 H1 nx1 bk1 hI1 hx1 ru1 hW hN3 hB1
      obtain ⟨o1, w, gx1, rfl⟩ := hI1
      have r1 := Rep.mono _ gx1 r1
      have r2 := Rep.mono _ gx1 r2
      have r3 := Rep.mono _ gx1 r3
      refine g_name ?_
      refine q_sq fun N4 hN4 => ?_
      refine a_ifE ?_
      refine e_jnT hW (fun b F' H' => b = b ∧ Wf F0 H0 F' H' ∧ Ex F1 F') ?_ ?_
      · intro N5 hN5 hW
        have gx2 : Ex F1 F1 := Ex.rfl'
        refine e_tOr ?_
        refine e_tNot ?_
        refine e_tB ?_
        refine e_call ?_
        refine a_val (v := u1) (val_var rfl) ?_
        obtain ⟨_, rfl, ix1⟩ := ix_3a (K := K) r2 w.f
        refine a_val (v := (.int ((tables1.1 : Nat) : Int))) (ix1 (val_var rfl) val_c) ?_
        refine a_nil ?_
        refine ⟨F1, (u1), (rows_here1), (tables1.1), _, rfl, w.f, ru1, hW, ?_⟩
        intro z1 hW F2 H2 s2
        replace r1 := Rep.mono _ s2.g r1
        replace r2 := Rep.mono _ s2.g r2
        replace r3 := Rep.mono _ s2.g r3
        replace ru1 := Rep.mono _ s2.g ru1
        replace w := w.tr s2
        replace gx2 := Ex.tr gx2 s2.g
        replace gx1 := Ex.tr gx1 s2.g
        refine bl_v ?_
        refine bb_ifn (fun hc1 => ?_) (fun hc1 => ?_)
        · have hW := ifP hW hc1
          refine e_tOr ?_
          refine e_ans (b := decide (rows_here1.length ≠ turns1)) (t_of (vb_dec (c_neI (len_L ru1 w.f (val_var rfl)) (val_var rfl)) n_ne)) ?_
          refine b_if (fun hc2 => ?_) (fun hc2 => ?_)
          · have hW := ifP hW hc2
            exact hN5 true _ _ ⟨rfl, w, gx2⟩ hW
          · have hW := ifN hW hc2
            refine e_tT ?_
            refine e_op ?_
            refine e_call ?_
            refine a_val (v := v2) (val_var rfl) ?_
            refine a_val (v := u1) (val_var rfl) ?_
            refine a_nil ?_
            refine ⟨F2, (v2), (tables1), (u1), (rows_here1), _, rfl, w.f, r2, ru1, hW, ?_⟩
            intro z2 hW F3 H3 s3
            replace r1 := Rep.mono _ s3.g r1
            replace r2 := Rep.mono _ s3.g r2
            replace r3 := Rep.mono _ s3.g r3
            replace ru1 := Rep.mono _ s3.g ru1
            replace w := w.tr s3
            replace gx2 := Ex.tr gx2 s3.g
            replace gx1 := Ex.tr gx1 s3.g
            refine e_val (v := (.int ((0 : Nat) : Int))) val_c ?_
            refine rv2T (b := decide (z2 ≠ 0)) (vb_dec (c_neI val_c val_c) n_ne) ?_
            exact hN5 (decide (z2 ≠ 0)) _ _ ⟨rfl, w, gx2⟩ hW
        · have hW := ifN hW hc1
          exact hN5 true _ _ ⟨rfl, w, gx2⟩ hW
      intro b1 F4 H4 hI2 hW
      obtain ⟨_, w, gx3⟩ := hI2
      have r1 := Rep.mono _ gx3 r1
      have r2 := Rep.mono _ gx3 r2
      have r3 := Rep.mono _ gx3 r3
      have ru1 := Rep.mono _ gx3 ru1
      have gx1 := Ex.tr gx1 gx3
      refine bb_if (fun hc3 => ?_) (fun hc3 => ?_)
      · have hW := ifP hW hc3
        refine a_ret (v := (.bl (false))) val_c ?_
        exact hQ _ hW _ _ w
      · have hW := ifN hW hc3
        refine hN4 _ _ ?_
        refine a_ifE ?_
        refine e_tT ?_
        refine e_op ?_
        refine e_call ?_
        refine a_val (v := v1) (val_var rfl) ?_
        refine a_val (v := u1) (val_var rfl) ?_
        refine a_nil ?_
        have r5 : pA.r _ u1 (An.l (rows_here1.map (fun n : Nat => An.i (n : Int)))) := (cv_L cv_nat) ru1
        refine ⟨F4, (v1), (machine_here1), (u1), ((An.l (rows_here1.map (fun n : Nat => An.i (n : Int))))), _, _, rfl, w.f, r1, r5, hW, ?_, ?_⟩
        · intro hW; exact hW.elim
        intro z3 hW F5 H5 s4
        replace r1 := Rep.mono _ s4.g r1
        replace r2 := Rep.mono _ s4.g r2
        replace r3 := Rep.mono _ s4.g r3
        replace ru1 := Rep.mono _ s4.g ru1
        replace w := w.tr s4
        replace gx1 := Ex.tr gx1 s4.g
        refine e_val (v := (.bl (true))) val_c ?_
        refine rv2T (b := decide (¬ z3 = true)) (v_notB' val_c val_c) ?_
        refine b_if (fun hc4 => ?_) (fun hc4 => ?_)
        · have hW := ifP hW hc4
          refine a_ret (v := (.bl (false))) val_c ?_
          exact hQ _ hW _ _ w
        · have hW := ifN hW hc4
          exact hN3 () _ _ _ ⟨_, w, gx1, rfl⟩ hW
    · intro s5 σ' F6 H6 hI3 hW
      obtain ⟨o1, w, gx4, rfl⟩ := hI3
      have r1 := Rep.mono _ gx4 r1
      have r2 := Rep.mono _ gx4 r2
      have r3 := Rep.mono _ gx4 r3
      refine hN2 _ _ ?_
      refine q_sq fun N6 hN6 => ?_
      refine a_asgE ?_
      refine c_LE ?_
      refine e_val (v := v3) (val_var rfl) ?_
      obtain ⟨c1, hW⟩ := hW
      refine w_compL (e := pN) r3 w c1 hW ?_ ?_
      · intro Qy Qn rows_here2 u2 F7 H7 R1 q1 hx2 ru2 hW hy1 hn1
        have r1 := Rep.mono _ q1.g r1
        have r2 := Rep.mono _ q1.g r2
        have r3 := Rep.mono _ q1.g r3
        have w := Wf.id q1.f
        refine ⟨rfl, ?_⟩
        refine c_yes ?_
        refine e_call ?_
        refine a_val (v := u2) (val_var rfl) ?_
        obtain ⟨_, rfl, ix2⟩ := ix_3a (K := K) r2 w.f
        refine a_val (v := (.int ((tables1.1 : Nat) : Int))) (ix2 (val_var rfl) val_c) ?_
        refine a_nil ?_
        refine ⟨F7, (u2), (rows_here2), (tables1.1), _, rfl, w.f, ru2, hW, ?_⟩
        intro z4 hW F8 H8 s6
        replace r1 := Rep.mono _ s6.g r1
        replace r2 := Rep.mono _ s6.g r2
        replace r3 := Rep.mono _ s6.g r3
        replace ru2 := Rep.mono _ s6.g ru2
        replace w := w.tr s6
        exact hy1 _ _ _ _ w rfl hW
      intro p1 ys1 F9 H9 hp1 s7 x1 hW
      replace r1 := Rep.mono _ s7.g r1
      replace r2 := Rep.mono _ s7.g r2
      replace r3 := Rep.mono _ s7.g r3
      replace w := w.tr s7
      replace gx4 := Ex.tr gx4 s7.g
      obtain ⟨F10, w1, g1, r7, fz1⟩ := x1.frzE w
      replace r1 := Rep.mono _ g1 r1
      replace r2 := Rep.mono _ g1 r2
      replace r3 := Rep.mono _ g1 r3
      replace w := w1
      replace gx4 := Ex.tr gx4 g1
      refine hN6 _ _ ?_
      refine q_sq fun N7 hN7 => ?_
      refine a_ifE ?_
      refine e_tT ?_
      refine e_op ?_
      refine e_call ?_
      refine a_val (v := (.ref p1)) (val_var rfl) ?_
      refine a_nil ?_
      refine ⟨F10, ((.ref p1)), (ys1), _, rfl, w.f, r7, hW, ?_⟩
      intro z5 hW F11 H10 s8
      replace r1 := Rep.mono _ s8.g r1
      replace r2 := Rep.mono _ s8.g r2
      replace r3 := Rep.mono _ s8.g r3
      replace r7 := Rep.mono _ s8.g r7
      replace w := w.tr s8
      replace gx4 := Ex.tr gx4 s8.g
      refine e_val (v := (.int ((told1.length : Nat) : Int))) (len_L r3 w.f (val_var rfl)) ?_
      refine rv2T (b := decide (z5 ≠ told1.length)) (vb_dec (c_neI val_c val_c) n_ne) ?_
      refine b_if (fun hc5 => ?_) (fun hc5 => ?_)
      · have hW := ifP hW hc5
        refine a_ret (v := (.bl (false))) val_c ?_
        exact hQ _ hW _ _ w
      · have hW := ifN hW hc5
        refine hN7 _ _ ?_
        refine a_retE ?_
        refine e_op ?_
        refine e_val (v := (.int ((told1.length : Nat) : Int))) (len_L r3 w.f (val_var rfl)) ?_
        refine e_op ?_
        obtain ⟨_, rfl, ix3⟩ := ix_3a (K := K) r2 w.f
        obtain ⟨c2, hW⟩ := hW
        refine e_val (v := (.int ((turns1 * tables1.1 : Nat) : Int))) (vn_mul (val_var rfl) (ix3 (val_var rfl) val_c) c2) ?_
        refine e_call ?_
        refine a_cons ?_
        refine e_call ?_
        refine a_val (v := v2) (val_var rfl) ?_
        refine a_val (v := (.int ((turns1 : Nat) : Int))) (val_var rfl) ?_
        refine a_nil ?_
        refine ⟨F11, (v2), (tables1), (turns1), _, rfl, w.f, r2, hW, ?_⟩
        intro z6 hW p2 F12 H11 s9 x2
        replace x2 := x2.base w
        replace r1 := Rep.mono _ s9.g r1
        replace r2 := Rep.mono _ s9.g r2
        replace r3 := Rep.mono _ s9.g r3
        replace r7 := Rep.mono _ s9.g r7
        replace w := w.tr s9
        replace gx4 := Ex.tr gx4 s9.g
        refine a_nil ?_
        obtain ⟨Fl1, lf1, lg1, lr1⟩ := x2.lend w
        refine ⟨Fl1, ((.ref p2)), (z6), _, rfl, lf1, lr1, hW, ?_⟩
        intro z7 hW F13 H12 s10
        replace s10 := Wf.grow w.f s10.h
        replace r1 := Rep.mono _ s10.g r1
        replace r2 := Rep.mono _ s10.g r2
        replace r3 := Rep.mono _ s10.g r3
        replace r7 := Rep.mono _ s10.g r7
        replace x2 := x2.step s10
        replace w := w.tr s10
        replace gx4 := Ex.tr gx4 s10.g
        obtain ⟨c3, hW⟩ := hW
        refine rv2 (z := (.int (((turns1 * tables1.1) - z7 : Nat) : Int))) (vn_sub val_c val_c c3) ?_
        refine rv2 (z := .bl (decide (told1.length = ((turns1 * tables1.1) - z7)))) (vb_dec (c_eqI val_c val_c) n_eq) ?_
        exact hQ _ hW _ _ w
abbrev s_all_walked : Stmt := topS 52
/-! _law_all_walked -/
def W_all_walked (tables1 : Nat × List (Nat × Nat) × List (Nat × Nat)) (turns1 : Nat) (many1 : Nat) (R : Bool → Prop) : Prop := (NMul turns1 tables1.1) ∧ (turns1 * tables1.1 < 100000000) ∧ ((2 ^ (turns1 * tables1.1)) < 1000000) ∧ (1 < 1000000) ∧ forW (List.range' 1 ((2 ^ (turns1 * tables1.1)) - 1)) 0 (fun joined_here1 found1 nx1 bk1 => W_parted joined_here1 turns1 tables1.1 fun z1 => W_check tables1 z1 fun z2 => ∀ found2 : Nat, found2 = found1 + (Bool.toNat (decide (z2 = 0))) → nx1 found2) fun found1 => R (decide (found1 = many1))
def sp_all_walked (K : PySem.W.Frag) (cc : Cz) : Sp := fun vs H Q _ => ∃ (F : Hp) (v1 : V) (tables1 : Nat × List (Nat × Nat) × List (Nat × Nat)) (turns1 : Nat) (many1 : Nat) (R : Bool → Prop), vs = [v1, (.int ((turns1 : Nat) : Int)), (.int ((many1 : Nat) : Int))] ∧ Ex F H ∧ (pT3 pN (pL (pT2 pN pN)) (pL (pT2 pN pN))).r F v1 tables1 ∧ W_all_walked tables1 turns1 many1 R ∧ ∀ z, R z → ∀ F' H', Wf F H F' H' → Q (.bl (z)) H'
abbrev N_all_walked : List Str := ["_law_tables", "_law_turns", "_law_many", "_law_found", "_law_joined_here"]
theorem sc_all_walked : FnScope N_all_walked ["_law_tables", "_law_turns", "_law_many"] (defScope s_all_walked) := ⟨rfl, rfl, rfl, by decide +kernel, rfl, by decide +kernel, by decide +kernel⟩
theorem ok_all_walked {P : Program} {w0 : World} {K : PySem.W.Frag} {mg : Str → Option Value} {base : Heap} {f : Addr} {fd : FuncData} {cc : Cz} (T : Tz K mg cc) (FU : Fun K "_law_all_walked" "_law_all_walked" s_all_walked f fd) (hm : mg "_law_all_walked" = some (.ref f)) (hb : Binds K fd ["_law_tables", "_law_turns", "_law_many"] []) (c_parted : Fn P w0 K mg base CX0 1 "_law_parted" ["_law_joined_here", "_law_turns", "_law_inputs"] (sp_parted K cc)) (c_check : Fn P w0 K mg base CX0 3 "_law_check" ["_law_tables", "_law_rows_here"] (sp_check K cc)) (n_int : mg "int" = none) (n_range : mg "range" = none) : Fn P w0 K mg base CX0 4 "_law_all_walked" ["_law_tables", "_law_turns", "_law_many"] (sp_all_walked K cc) := by
  refine ⟨f, fd, FU.ok sc_all_walked (fun vs H Q E h => ?_) (fun cdv A outer s H0 vs Q E hr h => ?_), hm, FU.kp, hb⟩
  · obtain ⟨_, _, _, _, _, _, rfl, _⟩ := h; rfl
  · obtain ⟨F0, v1, tables1, turns1, many1, R, rfl, wf, r1, hW, hQ⟩ := h
    have nd := sc_all_walked.nd
    refine ⟨(tSeq (tAsg (tC (.int 0)) (gName 3)) (tSeq (tFor (iRng2 (tCons (tC (.int 1)) (tCons (tOp kShl (tC (.int 1)) (tOp kMul (tVar 1) (tOp (L2.rIxT K) (tVar 0) (tC (.int 0))))) tNil))) (gName 4) (tAsg (tOp kAdd (tVar 3) (tCB rInt1 (tCons (tOp L2.rEq (tCall (sp_check K cc) [] E0 (tCons (tVar 0) (tCons (tCall (sp_parted K cc) [] E0 (tCons (tVar 4) (tCons (tVar 1) (tCons (tOp (L2.rIxT K) (tVar 0) (tC (.int 0))) tNil)))) tNil))) (tC (.int 0))) tNil))) (gName 3))) (tRet (tOp L2.rEq (tVar 3) (tVar 2))))), (pss_cons (ps_set (i := 3) nd rfl (Or.inl rfl) pe_int) (pss_cons (ps_for PassesOwn.never rfl (pi_range2 rfl n_range (pa_cons pe_int (pa_cons (pe_op op_shlW pe_int (pe_op op_mul (pv 1) (pe_ix ix_tup (pv 0) pe_int (fun _ _ => rfl)))) pa_nil))) (pg_name (i := 4) nd rfl (Or.inl rfl)) (pss_one (ps_set (i := 3) nd rfl (Or.inl rfl) (pe_op op_add (pv 3) (pe_callTy call_int1 (by rfl) n_int PyProof.Rows.boot_int (pa_cons (pe_cmpR op_eq (pe_fn c_check (hr.mono (by decide)) rfl (pa_cons (pv 0) (pa_cons (pe_fn c_parted (hr.mono (by decide)) rfl (pa_cons (pv 4) (pa_cons (pv 1) (pa_cons (pe_ix ix_tup (pv 0) pe_int (fun _ _ => rfl)) pa_nil)))) pa_nil))) pe_int (nomark _)) pa_nil)))))) (pss_one (ps_ret (pe_cmpR op_eq (pv 3) (pv 2) (nomark _)))))), ?_⟩
    have w := Wf.id wf
    refine q_sq fun N1 hN1 => ?_
    refine a_asg (v := (.int ((0 : Nat) : Int))) val_c ?_
    refine hN1 _ _ ?_
    refine q_sq fun N2 hN2 => ?_
    refine f_J ?_
    refine a_val (v := (.int ((1 : Nat) : Int))) val_c ?_
    obtain ⟨_, rfl, ix1⟩ := ix_3a (K := K) r1 w.f
    obtain ⟨c1, hW⟩ := hW
    obtain ⟨c2, hW⟩ := hW
    refine a_val (v := (.int ((2 ^ (turns1 * tables1.1) : Nat) : Int))) (vn_one val_c (vn_mul (val_var rfl) (ix1 (val_var rfl) val_c) c1) c2) ?_
    refine a_nil ?_
    obtain ⟨c3, hW⟩ := hW
    obtain ⟨c4, hW⟩ := hW
    refine src_range2 (F := F0) c3 c4 (fun T1 => ?_)
    refine w_forG (S := Nat) T1 (fun found1 σ' F' H' => ∃ (o1 : Option V), Wf F0 H0 F' H' ∧ Ex F0 F' ∧ σ' = [some v1, some (.int ((turns1 : Nat) : Int)), some (.int ((many1 : Nat) : Int)), some (.int ((found1 : Nat) : Int)), o1]) hW ⟨_, w, Ex.rfl', rfl⟩ (fun s σ' F' H' hI => by obtain ⟨_, w', gx', _⟩ := hI; exact ⟨gx', w'.f⟩) w.f ?_ ?_
    · intro N3 Bk1 joined_here1 u1 found1 σ' F1 H1 F2 H2 nx1 bk1 hI1 hx1 s2 ru1 hW hN3 hB1
      obtain ⟨o1, w, gx1, rfl⟩ := hI1
      have r1 := Rep.mono _ gx1 r1
      replace r1 := Rep.mono _ s2.g r1
      replace w := w.tr s2
      replace gx1 := Ex.tr gx1 s2.g
      obtain rfl : u1 = (.int ((joined_here1 : Nat) : Int)) := ru1
      refine g_name ?_
      refine a_asgE ?_
      refine e_op ?_
      refine e_val (v := (.int ((found1 : Nat) : Int))) (val_var rfl) ?_
      refine e_cb ?_
      refine a_cons ?_
      refine e_op ?_
      refine e_call ?_
      refine a_val (v := v1) (val_var rfl) ?_
      refine a_cons ?_
      refine e_call ?_
      refine a_val (v := (.int ((joined_here1 : Nat) : Int))) (val_var rfl) ?_
      refine a_val (v := (.int ((turns1 : Nat) : Int))) (val_var rfl) ?_
      obtain ⟨_, rfl, ix2⟩ := ix_3a (K := K) r1 w.f
      refine a_val (v := (.int ((tables1.1 : Nat) : Int))) (ix2 (val_var rfl) val_c) ?_
      refine a_nil ?_
      refine ⟨F2, (joined_here1), (turns1), (tables1.1), _, rfl, w.f, hW, ?_⟩
      intro z1 hW p1 F3 H3 s3 x1
      replace x1 := x1.base w
      replace r1 := Rep.mono _ s3.g r1
      replace w := w.tr s3
      replace gx1 := Ex.tr gx1 s3.g
      refine a_nil ?_
      obtain ⟨Fl1, lf1, lg1, lr1⟩ := x1.lend w
      refine ⟨Fl1, (v1), (tables1), ((.ref p1)), (z1), _, rfl, lf1, (Rep.mono _ lg1 r1), lr1, hW, ?_⟩
      intro z2 hW F4 H4 s4
      replace s4 := Wf.grow w.f s4.h
      replace r1 := Rep.mono _ s4.g r1
      replace x1 := x1.step s4
      replace w := w.tr s4
      replace gx1 := Ex.tr gx1 s4.g
      refine e_val (v := (.int ((0 : Nat) : Int))) val_c ?_
      refine rv2 (z := .bl (decide (z2 = 0))) (vb_dec (c_eqI val_c val_c) n_eq) ?_
      refine a_nil ?_
      refine rcb1 (z := (.int ((Bool.toNat (decide (z2 = 0)) : Nat) : Int))) (v_intB val_c) ?_
      refine rv2 (z := (.int ((found1 + (Bool.toNat (decide (z2 = 0))) : Nat) : Int))) (vn_add val_c val_c) ?_
      obtain ⟨found2, efound1⟩ : ∃ found2 : Nat, found2 = found1 + (Bool.toNat (decide (z2 = 0))) := ⟨_, rfl⟩
      replace hW := hW found2 efound1
      refine nx_set (v := (.int ((found2 : Nat) : Int))) (by rw [efound1]) ?_
      exact hN3 found2 _ _ _ ⟨_, w, gx1, rfl⟩ hW
    · intro found1 σ' F5 H5 hI2 hW
      obtain ⟨o1, w, gx2, rfl⟩ := hI2
      have r1 := Rep.mono _ gx2 r1
      refine hN2 _ _ ?_
      refine a_ret (v := (.bl (decide (found1 = many1)))) (vb_dec (c_eqI (val_var rfl) (val_var rfl)) n_eq) ?_
      exact hQ _ hW _ _ w
abbrev s_refused : Stmt := topS 53
/-! _law_refused -/
def W_refused (machine_here1 : Nat × List (Nat × Nat) × List (Nat × Nat)) (thing1 : An) (way1 : Nat) (R : Bool → Prop) : Prop := jn (fun kk => if way1 = 0 then (W_missed_base machine_here1 thing1 (kk true) fun z1 => kk false) else (W_missed_share machine_here1 thing1 (kk true) fun z2 => kk false)) fun refused_here1 => R refused_here1
def sp_refused (K : PySem.W.Frag) (cc : Cz) : Sp := fun vs H Q _ => ∃ (F : Hp) (v1 : V) (machine_here1 : Nat × List (Nat × Nat) × List (Nat × Nat)) (v2 : V) (thing1 : An) (way1 : Nat) (R : Bool → Prop), vs = [v1, v2, (.int ((way1 : Nat) : Int))] ∧ Ex F H ∧ (pO3 cc.Machine "inputs" "nexts" "outs" pN (pTL (pT2 pN pN)) (pTL (pT2 pN pN))).r F v1 machine_here1 ∧ pA.r F v2 thing1 ∧ W_refused machine_here1 thing1 way1 R ∧ ∀ z, R z → ∀ F' H', Wf F H F' H' → Q (.bl (z)) H'
abbrev N_refused : List Str := ["_law_machine_here", "_law_thing", "_law_way", "_law_refused_here"]
theorem sc_refused : FnScope N_refused ["_law_machine_here", "_law_thing", "_law_way"] (defScope s_refused) := ⟨rfl, rfl, rfl, by decide +kernel, rfl, by decide +kernel, by decide +kernel⟩
theorem ok_refused {P : Program} {w0 : World} {K : PySem.W.Frag} {mg : Str → Option Value} {base : Heap} {f : Addr} {fd : FuncData} {cc : Cz} (T : Tz K mg cc) (FU : Fun K "_law_refused" "_law_refused" s_refused f fd) (hm : mg "_law_refused" = some (.ref f)) (hb : Binds K fd ["_law_machine_here", "_law_thing", "_law_way"] []) (c_missed_base : Fn P w0 K mg base (L2.CX P w0) 6 "missed_base" ["machine", "turns"] (sp_missed_base K cc)) (c_missed_share : Fn P w0 K mg base (L2.CX P w0) 6 "missed_share" ["machine", "turns"] (sp_missed_share K cc)) : Fn P w0 K mg base CX0 7 "_law_refused" ["_law_machine_here", "_law_thing", "_law_way"] (sp_refused K cc) := by
  refine ⟨f, fd, FU.ok sc_refused (fun vs H Q E h => ?_) (fun cdv A outer s H0 vs Q E hr h => ?_), hm, FU.kp, hb⟩
  · obtain ⟨_, _, _, _, _, _, _, rfl, _⟩ := h; rfl
  · obtain ⟨F0, v1, machine_here1, v2, thing1, way1, R, rfl, wf, r1, r2, hW, hQ⟩ := h
    have nd := sc_refused.nd
    refine ⟨(tSeq (tAsg (tC (.bl false)) (gName 3)) (tSeq (tTry K (.ref cc.BadRow) (fun W1 => (tIfS (tTest (tOp L2.rEq (tVar 2) (tC (.int 0)))) (tDrop (tCallS (sp_missed_base K cc) (WE W1) (tCons (tVar 0) (tCons (tVar 1) tNil)))) (tDrop (tCallS (sp_missed_share K cc) (WE W1) (tCons (tVar 0) (tCons (tVar 1) tNil)))))) (fun _ _ _ => (tAsg (tC (.bl true)) (gName 3))) (fun _ _ _ _ => False)) (tRet (tVar 3)))), (pss_cons (ps_set (i := 3) nd rfl (Or.inl rfl) pe_bl) (pss_cons (ps_try_only (tb := fun W1 => (tIfS (tTest (tOp L2.rEq (tVar 2) (tC (.int 0)))) (tDrop (tCallS (sp_missed_base K cc) (WE W1) (tCons (tVar 0) (tCons (tVar 1) tNil)))) (tDrop (tCallS (sp_missed_share K cc) (WE W1) (tCons (tVar 0) (tCons (tVar 1) tNil)))))) (ts := fun _ _ _ => (tAsg (tC (.bl true)) (gName 3))) (Wout := (fun _ _ _ _ => False)) rfl rfl ⟨rfl, by decide, Or.inl T.xc_BadRow.g⟩ takes0 (fun W1 pn1 xe1 tk1 po1 => (pss_one (ps_if (pt_cmpR op_eq (pv 2) pe_int (nomark _)) (pss_one (ps_expr (pe_fnS (W := W1) c_missed_base tk1 (hr.mono (by decide)) rfl (pa_cons (pv 0) (pa_cons (pv 1) pa_nil))))) (pss_one (ps_expr (pe_fnS (W := W1) c_missed_share tk1 (hr.mono (by decide)) rfl (pa_cons (pv 0) (pa_cons (pv 1) pa_nil)))))))) (fun _ _ _ _ _ _ _ => (pss_one (ps_set (i := 3) nd rfl (Or.inl rfl) pe_bl)))) (pss_one (ps_ret (pv 3))))), ?_⟩
    have w := Wf.id wf
    refine q_sq fun N1 hN1 => ?_
    refine a_asg (v := (.bl (false))) val_c ?_
    refine hN1 _ _ ?_
    refine q_jn (S := Bool) hW (fun refused_here1 σ' F' H' => Wf F0 H0 F' H' ∧ Ex F0 F' ∧ σ' = [some v1, some v2, some (.int ((way1 : Nat) : Int)), some (.bl (refused_here1))]) ?_ ?_
    · intro N2 hN2 hW
      have gx1 : Ex F0 F0 := Ex.rfl'
      refine a_tryI ?_
      refine a_ifE ?_
      refine e_ans (b := decide (way1 = 0)) (t_of (vb_dec (c_eqI (val_var rfl) val_c) n_eq)) ?_
      refine b_if (fun hc1 => ?_) (fun hc1 => ?_)
      · have hW := ifP hW hc1
        refine a_dropE ?_
        refine e_callS ?_
        refine a_val (v := v1) (val_var rfl) ?_
        refine a_val (v := v2) (val_var rfl) ?_
        refine a_nil ?_
        refine ⟨F0, (v1), (machine_here1), (v2), (thing1), _, _, rfl, w.f, r1, r2, hW, ?_, ?_⟩
        · intro hW F1 H1 s1
          replace r1 := Rep.mono _ s1.g r1
          replace r2 := Rep.mono _ s1.g r2
          replace w := w.tr s1
          replace gx1 := Ex.tr gx1 s1.g
          refine a_exc T.xm_BadRow_BadRow (fun a1 ha1 => ?_)
          refine a_asg (v := (.bl (true))) val_c ?_
          exact hN2 true _ _ _ ⟨w, gx1, rfl⟩ hW
        intro z1 hW v3 F2 H2 s2 fr1
        have r3 := fr1.r
        replace r1 := Rep.mono _ s2.g r1
        replace r2 := Rep.mono _ s2.g r2
        replace w := w.tr s2
        replace gx1 := Ex.tr gx1 s2.g
        exact hN2 false _ _ _ ⟨w, gx1, rfl⟩ hW
      · have hW := ifN hW hc1
        refine a_dropE ?_
        refine e_callS ?_
        refine a_val (v := v1) (val_var rfl) ?_
        refine a_val (v := v2) (val_var rfl) ?_
        refine a_nil ?_
        refine ⟨F0, (v1), (machine_here1), (v2), (thing1), _, _, rfl, w.f, r1, r2, hW, ?_, ?_⟩
        · intro hW F3 H3 s3
          replace r1 := Rep.mono _ s3.g r1
          replace r2 := Rep.mono _ s3.g r2
          replace w := w.tr s3
          replace gx1 := Ex.tr gx1 s3.g
          refine a_exc T.xm_BadRow_BadRow (fun a2 ha2 => ?_)
          refine a_asg (v := (.bl (true))) val_c ?_
          exact hN2 true _ _ _ ⟨w, gx1, rfl⟩ hW
        intro z2 hW v4 F4 H4 s4 r4
        replace r1 := Rep.mono _ s4.g r1
        replace r2 := Rep.mono _ s4.g r2
        replace w := w.tr s4
        replace gx1 := Ex.tr gx1 s4.g
        exact hN2 false _ _ _ ⟨w, gx1, rfl⟩ hW
    · intro refused_here1 σ' F5 H5 hI1 hW
      obtain ⟨w, gx2, rfl⟩ := hI1
      have r1 := Rep.mono _ gx2 r1
      have r2 := Rep.mono _ gx2 r2
      refine a_ret (v := (.bl (refused_here1))) (val_var rfl) ?_
      exact hQ _ hW _ _ w
abbrev s_law : Stmt := topS 54
/-! law -/
def W_law (script1 : List Int) (R : Bool → Prop) : Prop := W_machine script1 0 6 fun z1 => W_Machine___init__ z1.1 z1.2.1 z1.2.2 fun z2 => W_cell script1 5 fun z3 => W_cell script1 5 fun z4 => ∃ x4, [4, 21][modN z4 2]? = some x4 ∧ (0 < x4) ∧ ∀ turns1 : Nat, turns1 = modN (z3 / ((2 : Nat) : Int)) x4 → W_missed_base z2 (An.i ((turns1 : Nat) : Int)) False fun z5 => W_told_right z2 z1 turns1 z5 fun z6 => if z6 = true then ((z5.length < 100000000) ∧ (1 ≤ 2 ^ z5.length) ∧ ∀ many1 : Nat, many1 = (2 ^ z5.length) - 1 → W_missed_share z2 (An.i ((turns1 : Nat) : Int)) False fun z7 => (NMul turns1 z1.1) ∧ (turns1 * z1.1 < 100000000) ∧ (1 ≤ 2 ^ (turns1 * z1.1)) ∧ if z7 ≠ (many1, (2 ^ (turns1 * z1.1)) - 1) then (R false) else (jn (fun kk => (NMul turns1 z1.1) ∧ if (turns1 * z1.1) < 9 then (W_all_walked z1 turns1 many1 fun z8 => kk (!z8)) else (kk false)) fun b1 => if b1 = true then (R false) else ((z5.length < 1000000) ∧ compW z5 (fun rows_here1 kk => kk (some rows_here1)) fun ys1 => (∀ x ∈ z5, x.length + z5.length < 1000000) ∧ forW [(An.i (-1)), (An.i ((21 : Nat) : Int)), (An.b true), An.n] () (fun thing1 _ nx2 bk1 => jn (fun kk => W_refused z2 thing1 0 fun z9 => if z9 = true then (W_refused z2 thing1 1 fun z10 => kk (!z10)) else (kk true)) fun b2 => if b2 = true then (R false) else (nx2 ())) fun _ => W_missed_base z2 (An.i ((turns1 : Nat) : Int)) False fun z11 => R (decide (z11 = ys1))))) else (R false)
def sp_law (K : PySem.W.Frag) (cc : Cz) : Sp := fun vs H Q _ => ∃ (F : Hp) (v1 : V) (script1 : List Int) (R : Bool → Prop), vs = [v1] ∧ Ex F H ∧ (pScr K).r F v1 script1 ∧ W_law script1 R ∧ ∀ z, R z → ∀ F' H', Wf F H F' H' → Q (.bl (z)) H'
abbrev N_law : List Str := ["_law_script", "_law_tables", "_law_machine_here", "_law_turns", "_law_told", "_law_many", "_law_held", "_law_rows_here", "_law_thing"]
theorem sc_law : FnScope N_law ["_law_script"] (defScope s_law) := ⟨rfl, rfl, rfl, by decide +kernel, rfl, by decide +kernel, by decide +kernel⟩
theorem ok_law {P : Program} {w0 : World} {K : PySem.W.Frag} {mg : Str → Option Value} {base : Heap} {f : Addr} {fd : FuncData} {cc : Cz} (T : Tz K mg cc) (FU : Fun K "law" "law" s_law f fd) (c_machine : Fn P w0 K mg base CX0 3 "_law_machine" ["_law_script", "_law_start", "_law_most"] (sp_machine K cc)) (c_Machine___init__ : Nw P w0 K mg base CX0 4 cc.Machine "Machine" ["self", "inputs", "nexts", "outs"] (sp_Machine___init__ K cc)) (c_cell : Fn P w0 K mg base CX0 1 "_law_cell" ["_law_script", "_law_k"] (sp_cell K cc)) (c_missed_base : Fn P w0 K mg base (L2.CX P w0) 6 "missed_base" ["machine", "turns"] (sp_missed_base K cc)) (c_told_right : Fn P w0 K mg base CX0 8 "_law_told_right" ["_law_machine_here", "_law_tables", "_law_turns", "_law_told"] (sp_told_right K cc)) (c_missed_share : Fn P w0 K mg base (L2.CX P w0) 6 "missed_share" ["machine", "turns"] (sp_missed_share K cc)) (c_all_walked : Fn P w0 K mg base CX0 4 "_law_all_walked" ["_law_tables", "_law_turns", "_law_many"] (sp_all_walked K cc)) (c_refused : Fn P w0 K mg base CX0 7 "_law_refused" ["_law_machine_here", "_law_thing", "_law_way"] (sp_refused K cc)) (n_len : mg "len" = none) (n_list : mg "list" = none) : FnOk P w0 K mg base CX0 9 f fd ["_law_script"] (sp_law K cc) := by
  refine FU.ok sc_law (fun vs H Q E h => ?_) (fun cdv A outer s H0 vs Q E hr h => ?_)
  · obtain ⟨_, _, _, _, rfl, _⟩ := h; rfl
  · obtain ⟨F0, v1, script1, R, rfl, wf, r1, hW, hQ⟩ := h
    have nd := sc_law.nd
    refine ⟨(tSeq (tAsg (tCall (sp_machine K cc) [] E0 (tCons (tVar 0) (tCons (tC (.int 0)) (tCons (tC (.int 6)) tNil)))) (gName 1)) (tSeq (tAsg (tMake cc.Machine (sp_Machine___init__ K cc) [] E0 (tCons (tOp (L2.rIxT K) (tVar 1) (tC (.int 0))) (tCons (tCB (rListOf K) (tCons (tOp (L2.rIxT K) (tVar 1) (tC (.int 1))) tNil)) (tCons (tCB (rListOf K) (tCons (tOp (L2.rIxT K) (tVar 1) (tC (.int 2))) tNil)) tNil)))) (gName 2)) (tSeq (tAsg (tOp kMod (tOp kDiv (tCall (sp_cell K cc) [] E0 (tCons (tVar 0) (tCons (tC (.int 5)) tNil))) (tC (.int 2))) (tOp (L2.rIxL K) (tLst (tCons (tC (.int 4)) (tCons (tC (.int 21)) tNil))) (tOp kMod (tCall (sp_cell K cc) [] E0 (tCons (tVar 0) (tCons (tC (.int 5)) tNil))) (tC (.int 2))))) (gName 3)) (tSeq (tAsg (tCall (sp_missed_base K cc) [] E0 (tCons (tVar 2) (tCons (tVar 3) tNil))) (gName 4)) (tSeq (tIfS (tNot (tB (tCall (sp_told_right K cc) [] E0 (tCons (tVar 2) (tCons (tVar 1) (tCons (tVar 3) (tCons (tVar 4) tNil))))))) (tRet (tC (.bl false))) tNext) (tSeq (tAsg (tOp kSub (tOp kShl (tC (.int 1)) (tCB (Wk.rLen K) (tCons (tVar 4) tNil))) (tC (.int 1))) (gName 5)) (tSeq (tIfS (tTest (tOp (L2.rNeD K) (tCall (sp_missed_share K cc) [] E0 (tCons (tVar 2) (tCons (tVar 3) tNil))) (tTup (tCons (tVar 5) (tCons (tOp kSub (tOp kShl (tC (.int 1)) (tOp kMul (tVar 3) (tOp (L2.rIxT K) (tVar 1) (tC (.int 0))))) (tC (.int 1))) tNil))))) (tRet (tC (.bl false))) tNext) (tSeq (tIfS (tAnd (tTest (tOp kLt (tOp kMul (tVar 3) (tOp (L2.rIxT K) (tVar 1) (tC (.int 0)))) (tC (.int 9)))) (tNot (tB (tCall (sp_all_walked K cc) [] E0 (tCons (tVar 1) (tCons (tVar 3) (tCons (tVar 5) tNil))))))) (tRet (tC (.bl false))) tNext) (tSeq (tAsg (tLc (iList K (tVar 4)) (gName 7) tYes (tCB (rListOf K) (tCons (tVar 7) tNil)) [7]) (gName 6)) (tSeq (tFor (iList K (tVar 4)) (gName 7) (tDrop (tBM K "list" rAppend (tVar 7) (tCons (tC (.int 0)) tNil)))) (tSeq (tDrop (tBM0 K "list" rClear (tVar 4))) (tSeq (tFor (iList K (tLst (tCons (tUn kNeg (tC (.int 1))) (tCons (tC (.int 21)) (tCons (tC (.bl true)) (tCons (tC .non) tNil)))))) (gName 8) (tIfS (tOr (tNot (tB (tCall (sp_refused K cc) [] E0 (tCons (tVar 2) (tCons (tVar 8) (tCons (tC (.int 0)) tNil)))))) (tNot (tB (tCall (sp_refused K cc) [] E0 (tCons (tVar 2) (tCons (tVar 8) (tCons (tC (.int 1)) tNil))))))) (tRet (tC (.bl false))) tNext)) (tRet (tOp (L2.rEqD K) (tCall (sp_missed_base K cc) [] E0 (tCons (tVar 2) (tCons (tVar 3) tNil))) (tVar 6))))))))))))))), (pss_cons (ps_set (i := 1) nd rfl (Or.inl rfl) (pe_fn c_machine (hr.mono (by decide)) rfl (pa_cons (pv 0) (pa_cons pe_int (pa_cons pe_int pa_nil))))) (pss_cons (ps_set (i := 2) nd rfl (Or.inl rfl) (pe_nw c_Machine___init__ (hr.mono (by decide)) rfl (pa_cons (pe_ix ix_tup (pv 1) pe_int (fun _ _ => rfl)) (pa_cons (pe_callTy call_list_of (by rfl) n_list PyProof.Rows.boot_list (pa_cons (pe_ix ix_tup (pv 1) pe_int (fun _ _ => rfl)) pa_nil)) (pa_cons (pe_callTy call_list_of (by rfl) n_list PyProof.Rows.boot_list (pa_cons (pe_ix ix_tup (pv 1) pe_int (fun _ _ => rfl)) pa_nil)) pa_nil))))) (pss_cons (ps_set (i := 3) nd rfl (Or.inl rfl) (pe_op op_mod (pe_op op_fdivW (pe_fn c_cell (hr.mono (by decide)) rfl (pa_cons (pv 0) (pa_cons pe_int pa_nil))) pe_int) (pe_ix ix_list (pe_lst (pa_cons pe_int (pa_cons pe_int pa_nil))) (pe_op op_mod (pe_fn c_cell (hr.mono (by decide)) rfl (pa_cons (pv 0) (pa_cons pe_int pa_nil))) pe_int) (fun _ _ => rfl)))) (pss_cons (ps_set (i := 4) nd rfl (Or.inl rfl) (pe_fnL c_missed_base (hr.mono (by decide)) rfl (pa_cons (pv 2) (pa_cons (pv 3) pa_nil)))) (pss_cons (ps_if (pt_not (pt_val (pe_fn c_told_right (hr.mono (by decide)) rfl (pa_cons (pv 2) (pa_cons (pv 1) (pa_cons (pv 3) (pa_cons (pv 4) pa_nil))))))) (pss_one (ps_ret pe_bl)) pss_nil) (pss_cons (ps_set (i := 5) nd rfl (Or.inl rfl) (pe_op op_sub (pe_op op_shlW pe_int (pe_callB call_len_seq (by rfl) n_len PySem.boot_len (pa_cons (pv 4) pa_nil))) pe_int)) (pss_cons (ps_if (pt_cmpR (op_neD hr.units) (pe_fnL c_missed_share (hr.mono (by decide)) rfl (pa_cons (pv 2) (pa_cons (pv 3) pa_nil))) (pe_tup (pa_cons (pv 5) (pa_cons (pe_op op_sub (pe_op op_shlW pe_int (pe_op op_mul (pv 3) (pe_ix ix_tup (pv 1) pe_int (fun _ _ => rfl)))) pe_int) pa_nil))) (nomark _)) (pss_one (ps_ret pe_bl)) pss_nil) (pss_cons (ps_if (PW.pt (pw_and (pt_cmpR op_lt (pe_op op_mul (pv 3) (pe_ix ix_tup (pv 1) pe_int (fun _ _ => rfl))) pe_int (nomark _)) (pw_and1 (pt_not (pt_val (pe_fn c_all_walked (hr.mono (by decide)) rfl (pa_cons (pv 1) (pa_cons (pv 3) (pa_cons (pv 5) pa_nil))))))))) (pss_one (ps_ret pe_bl)) pss_nil) (pss_cons (ps_setLc (i := 6) (own := [("_law_rows_here", 7)]) (wi := (iList K (tVar 4))) (g := (gName 7)) (tt := tYes) (te := (tCB (rListOf K) (tCons (tVar 7) tNil))) rfl nd rfl rfl (sw_true rfl rfl rfl (by decide +kernel)) (pi_list (pv 4)) (blkOk_by (N := N_law) (sc := defScope s_law) (by decide +kernel)) (fun _ _ _ _ _ => (pg_name (i := 7) nd rfl (Or.inl rfl))) (fun _ _ _ _ _ => pts_nil) (fun _ _ _ _ _ => (pe_callTy call_list_of (by rfl) n_list PyProof.Rows.boot_list (pa_cons (pv 7) pa_nil)))) (pss_cons (ps_for PassesOwn.never rfl (pi_list (pv 4)) (pg_name (i := 7) nd rfl (Or.inl rfl)) (pss_one (ps_expr (pe_bm PySem.F.plainAttrs_list PySem.F.slot_list_append PySem.F.type_list_append mt_append (pv 7) (pa_cons pe_int pa_nil))))) (pss_cons (ps_expr (pe_bm0 PySem.F.plainAttrs_list PySem.F.slot_list_clear PySem.F.type_list_clear mt_clear (pv 4))) (pss_cons (ps_for PassesOwn.never rfl (pi_list (pe_lst (pa_cons (pe_un un_neg pe_int) (pa_cons pe_int (pa_cons pe_bl (pa_cons pe_non pa_nil)))))) (pg_name (i := 8) nd rfl (Or.inl rfl)) (pss_one (ps_if (PW.pt (pw_or (pt_not (pt_val (pe_fn c_refused (hr.mono (by decide)) rfl (pa_cons (pv 2) (pa_cons (pv 8) (pa_cons pe_int pa_nil)))))) (pw_or1 (pt_not (pt_val (pe_fn c_refused (hr.mono (by decide)) rfl (pa_cons (pv 2) (pa_cons (pv 8) (pa_cons pe_int pa_nil))))))))) (pss_one (ps_ret pe_bl)) pss_nil))) (pss_one (ps_ret (pe_cmpR (op_eqD hr.units) (pe_fnL c_missed_base (hr.mono (by decide)) rfl (pa_cons (pv 2) (pa_cons (pv 3) pa_nil))) (pv 6) (nomark _)))))))))))))))), ?_⟩
    have w := Wf.id wf
    refine q_sq fun N1 hN1 => ?_
    refine a_asgE ?_
    refine e_call ?_
    refine a_val (v := v1) (val_var rfl) ?_
    refine a_val (v := (.int ((0 : Nat) : Int))) val_c ?_
    refine a_val (v := (.int ((6 : Nat) : Int))) val_c ?_
    refine a_nil ?_
    refine ⟨F0, (v1), (script1), (0), (6), _, rfl, w.f, r1, hW, ?_⟩
    intro z1 hW v2 F1 H1 s1 r2
    replace r1 := Rep.mono _ s1.g r1
    replace w := w.tr s1
    refine hN1 _ _ ?_
    refine q_sq fun N2 hN2 => ?_
    refine a_asgE ?_
    refine e_nw ?_
    obtain ⟨_, rfl, ix1⟩ := ix_3a (K := K) r2 w.f
    refine a_val (v := (.int ((z1.1 : Nat) : Int))) (ix1 (val_var rfl) val_c) ?_
    refine a_cons ?_
    refine e_cb ?_
    obtain ⟨v4, r4, ix2⟩ := ix_3b (K := K) r2 w.f
    refine a_val (v := v4) (ix2 (val_var rfl) val_c) ?_
    refine a_nil ?_
    refine n_listX r4 w ?_
    intro p1 H2 hp1 s2 x1
    replace r1 := Rep.mono _ s2.g r1
    replace r2 := Rep.mono _ s2.g r2
    replace r4 := Rep.mono _ s2.g r4
    replace w := w.tr s2
    refine a_cons ?_
    refine e_cb ?_
    obtain ⟨v5, r5, ix3⟩ := ix_3c (K := K) r2 w.f
    refine a_val (v := v5) (ix3 (val_var rfl) val_c) ?_
    refine a_nil ?_
    refine n_listX r5 w ?_
    intro p2 H3 hp2 s3 x2
    have ne1 := x1.ne hp2
    replace r1 := Rep.mono _ s3.g r1
    replace r2 := Rep.mono _ s3.g r2
    replace r4 := Rep.mono _ s3.g r4
    replace x1 := x1.step s3
    replace r5 := Rep.mono _ s3.g r5
    replace w := w.tr s3
    refine a_nil ?_
    obtain ⟨F2, w1, g1, r6, fz1⟩ := x1.frzE w
    replace r1 := Rep.mono _ g1 r1
    replace r2 := Rep.mono _ g1 r2
    replace r4 := Rep.mono _ g1 r4
    replace r5 := Rep.mono _ g1 r5
    replace x2 := x2.frzO fz1 (Ne.symm ne1) g1
    replace w := w1
    obtain ⟨F3, w2, g2, r7, fz2⟩ := x2.frzE w
    replace r1 := Rep.mono _ g2 r1
    replace r2 := Rep.mono _ g2 r2
    replace r4 := Rep.mono _ g2 r4
    replace r6 := Rep.mono _ g2 r6
    replace r5 := Rep.mono _ g2 r5
    replace w := w2
    intro ob1 dx1 nx1 nd1 ne2
    refine ⟨F3, ob1, dx1, (z1.1), ((.ref p1)), (z1.2.1), ((.ref p2)), (z1.2.2), _, rfl, upd_same, (w.f.non nx1), (Ex.made w.f nx1 nd1), r6, r7, hW, ?_⟩
    intro z2 hW F4 H4 s4 r8
    refine ⟨rfl, ?_⟩
    replace s4 := Wf.made nx1 nd1 s4
    replace r1 := Rep.mono _ s4.g r1
    replace r2 := Rep.mono _ s4.g r2
    replace r4 := Rep.mono _ s4.g r4
    replace r6 := Rep.mono _ s4.g r6
    replace r5 := Rep.mono _ s4.g r5
    replace r7 := Rep.mono _ s4.g r7
    replace w := w.tr s4
    refine hN2 _ _ ?_
    refine q_sq fun N3 hN3 => ?_
    refine a_asgE ?_
    refine e_op ?_
    refine e_op ?_
    refine e_call ?_
    refine a_val (v := v1) (val_var rfl) ?_
    refine a_val (v := (.int ((5 : Nat) : Int))) val_c ?_
    refine a_nil ?_
    refine ⟨F4, (v1), (script1), (5), _, rfl, w.f, r1, hW, ?_⟩
    intro z3 hW F5 H5 s5
    replace r1 := Rep.mono _ s5.g r1
    replace r2 := Rep.mono _ s5.g r2
    replace r8 := Rep.mono _ s5.g r8
    replace w := w.tr s5
    refine e_val (v := (.int ((2 : Nat) : Int))) val_c ?_
    refine rv2 (z := (.int (z3 / ((2 : Nat) : Int)))) (vi_div val_c val_c ⟨by decide, by decide +kernel⟩) ?_
    refine e_op ?_
    refine e_lst ?_
    refine a_val (v := (.int ((4 : Nat) : Int))) val_c ?_
    refine a_val (v := (.int ((21 : Nat) : Int))) val_c ?_
    refine a_nil ?_
    refine n_lstX (e := pN) (xs := [4, 21]) (vs := [(.int ((4 : Nat) : Int)), (.int ((21 : Nat) : Int))]) (show All pN _ [(.int ((4 : Nat) : Int)), (.int ((21 : Nat) : Int))] [4, 21] from ⟨rfl, ⟨rfl, trivial⟩⟩) (show 2 < 1000000 from by decide) w ?_
    intro p3 H6 hp3 s6 x3
    replace r1 := Rep.mono _ s6.g r1
    replace r2 := Rep.mono _ s6.g r2
    replace r8 := Rep.mono _ s6.g r8
    replace w := w.tr s6
    refine e_op ?_
    refine e_call ?_
    refine a_val (v := v1) (val_var rfl) ?_
    refine a_val (v := (.int ((5 : Nat) : Int))) val_c ?_
    refine a_nil ?_
    refine ⟨F5, (v1), (script1), (5), _, rfl, w.f, r1, hW, ?_⟩
    intro z4 hW F6 H7 s7
    replace r1 := Rep.mono _ s7.g r1
    replace r2 := Rep.mono _ s7.g r2
    replace r8 := Rep.mono _ s7.g r8
    replace x3 := x3.step s7
    replace w := w.tr s7
    refine e_val (v := (.int ((2 : Nat) : Int))) val_c ?_
    refine rv2 (z := (.int ((modN z4 2 : Nat) : Int))) (vm_mod val_c val_c (by decide)) ?_
    obtain ⟨x4, hx4_1, hW⟩ := hW
    obtain ⟨_, rfl, ix4⟩ := ix_X (K := K) x3 hx4_1
    refine rv2 (z := (.int ((x4 : Nat) : Int))) (ix4 val_c val_c) ?_
    obtain ⟨c1, hW⟩ := hW
    refine rv2 (z := (.int ((modN (z3 / ((2 : Nat) : Int)) x4 : Nat) : Int))) (vm_mod val_c val_c c1) ?_
    obtain ⟨turns1, eturns1⟩ : ∃ turns1 : Nat, turns1 = modN (z3 / ((2 : Nat) : Int)) x4 := ⟨_, rfl⟩
    replace hW := hW turns1 eturns1
    refine nx_set (v := (.int ((turns1 : Nat) : Int))) (by rw [eturns1]) ?_
    refine hN3 _ _ ?_
    refine q_sq fun N4 hN4 => ?_
    refine a_asgE ?_
    refine e_call ?_
    refine a_val (v := (.ref ob1)) (val_var rfl) ?_
    refine a_val (v := (.int ((turns1 : Nat) : Int))) (val_var rfl) ?_
    refine a_nil ?_
    refine ⟨F6, ((.ref ob1)), (z2), ((.int ((turns1 : Nat) : Int))), ((An.i ((turns1 : Nat) : Int))), _, _, rfl, w.f, r8, (show pA.r _ (.int ((turns1 : Nat) : Int)) (An.i ((turns1 : Nat) : Int)) from rfl), hW, ?_, ?_⟩
    · intro hW; exact hW.elim
    intro z5 hW v7 F7 H8 s8 fr1
    have rg1 := RG.of w s8.f
    have r10 := at_new fr1
    generalize nw H7 F7 = G1 at rg1 r10
    replace s8 := Wf.grow w.f s8.h
    replace r1 := Rep.mono _ s8.g r1
    replace r2 := Rep.mono _ s8.g r2
    replace r8 := Rep.mono _ s8.g r8
    replace w := w.tr s8
    refine hN4 _ _ ?_
    refine q_sq fun N5 hN5 => ?_
    refine a_ifE ?_
    refine e_tNot ?_
    refine e_tB ?_
    refine e_call ?_
    refine a_val (v := (.ref ob1)) (val_var rfl) ?_
    refine a_val (v := v2) (val_var rfl) ?_
    refine a_val (v := (.int ((turns1 : Nat) : Int))) (val_var rfl) ?_
    refine a_val (v := v7) (val_var rfl) ?_
    refine a_nil ?_
    obtain ⟨Fl1, lf1, lg1, lr1⟩ := rg1.lend w
    refine ⟨Fl1, ((.ref ob1)), (z2), (v2), (z1), (turns1), (v7), (z5), _, rfl, lf1, (Rep.mono _ lg1 r8), (Rep.mono _ lg1 r2), (Rep.mono _ lr1 r10), hW, ?_⟩
    intro z6 hW F8 H9 s9
    replace s9 := Wf.grow w.f s9.h
    replace r1 := Rep.mono _ s9.g r1
    replace r2 := Rep.mono _ s9.g r2
    replace r8 := Rep.mono _ s9.g r8
    replace rg1 := rg1.step s9
    replace w := w.tr s9
    refine bl_v ?_
    refine bb_ifn (fun hc1 => ?_) (fun hc1 => ?_)
    · have hW := ifP hW hc1
      refine hN5 _ _ ?_
      refine q_sq fun N6 hN6 => ?_
      obtain ⟨c2, hW⟩ := hW
      obtain ⟨c3, hW⟩ := hW
      obtain ⟨many1, emany1⟩ : ∃ many1 : Nat, many1 = (2 ^ z5.length) - 1 := ⟨_, rfl⟩
      replace hW := hW many1 emany1
      refine a_asg (v := (.int ((many1 : Nat) : Int))) (v_eq (vn_sub (vn_one val_c (len_L r10 rg1.h (val_var rfl)) c2) val_c c3) (by rw [emany1])) ?_
      refine hN6 _ _ ?_
      refine q_sq fun N7 hN7 => ?_
      refine a_ifE ?_
      refine e_tT ?_
      refine e_op ?_
      refine e_call ?_
      refine a_val (v := (.ref ob1)) (val_var rfl) ?_
      refine a_val (v := (.int ((turns1 : Nat) : Int))) (val_var rfl) ?_
      refine a_nil ?_
      refine ⟨F6, ((.ref ob1)), (z2), ((.int ((turns1 : Nat) : Int))), ((An.i ((turns1 : Nat) : Int))), _, _, rfl, w.f, r8, (show pA.r _ (.int ((turns1 : Nat) : Int)) (An.i ((turns1 : Nat) : Int)) from rfl), hW, ?_, ?_⟩
      · intro hW; exact hW.elim
      intro z7 hW v8 F9 H10 s10 r11
      replace r1 := Rep.mono _ s10.g r1
      replace r2 := Rep.mono _ s10.g r2
      replace r8 := Rep.mono _ s10.g r8
      replace rg1 := rg1.step s10
      replace w := w.tr s10
      refine e_tup ?_
      refine a_val (v := (.int ((many1 : Nat) : Int))) (val_var rfl) ?_
      obtain ⟨_, rfl, ix5⟩ := ix_3a (K := K) r2 w.f
      obtain ⟨c4, hW⟩ := hW
      obtain ⟨c5, hW⟩ := hW
      obtain ⟨c6, hW⟩ := hW
      refine a_val (v := (.int (((2 ^ (turns1 * z1.1)) - 1 : Nat) : Int))) (vn_sub (vn_one val_c (vn_mul (val_var rfl) (ix5 (val_var rfl) val_c) c4) c5) val_c c6) ?_
      refine a_nil ?_
      refine n_tup2 (e := pN) (f := pN) (x := many1) (y := (2 ^ (turns1 * z1.1)) - 1) rfl rfl w ?_
      intro p4 F10 H11 s11 r13
      replace r1 := Rep.mono _ s11.g r1
      replace r2 := Rep.mono _ s11.g r2
      replace r8 := Rep.mono _ s11.g r8
      replace r11 := Rep.mono _ s11.g r11
      replace rg1 := rg1.step s11
      replace w := w.tr s11
      refine rv2T (b := decide (z7 ≠ (many1, (2 ^ (turns1 * z1.1)) - 1))) (c_neD (K := K) (e := (pT2 pN pN)) val_c val_c w.f r11 w.f r13) ?_
      refine b_if (fun hc2 => ?_) (fun hc2 => ?_)
      · have hW := ifP hW hc2
        refine a_ret (v := (.bl (false))) val_c ?_
        exact hQ _ hW _ _ w
      · have hW := ifN hW hc2
        refine hN7 _ _ ?_
        refine q_sq fun N8 hN8 => ?_
        refine a_ifE ?_
        refine e_jnT hW (fun b F' H' => b = b ∧ Wf F0 H0 F' H' ∧ Ex F10 F' ∧ RG H0 F' H' G1) ?_ ?_
        · intro N9 hN9 hW
          have gx1 : Ex F10 F10 := Ex.rfl'
          refine e_tAnd ?_
          obtain ⟨_, rfl, ix6⟩ := ix_3a (K := K) r2 w.f
          obtain ⟨c7, hW⟩ := hW
          refine e_ans (b := decide ((turns1 * z1.1) < 9)) (t_of (vb_dec (c_lt (vn_mul (val_var rfl) (ix6 (val_var rfl) val_c) c7) val_c) n_lt)) ?_
          refine b_if (fun hc3 => ?_) (fun hc3 => ?_)
          · have hW := ifP hW hc3
            refine e_tNot ?_
            refine e_tB ?_
            refine e_call ?_
            refine a_val (v := v2) (val_var rfl) ?_
            refine a_val (v := (.int ((turns1 : Nat) : Int))) (val_var rfl) ?_
            refine a_val (v := (.int ((many1 : Nat) : Int))) (val_var rfl) ?_
            refine a_nil ?_
            refine ⟨F10, (v2), (z1), (turns1), (many1), _, rfl, w.f, r2, hW, ?_⟩
            intro z8 hW F11 H12 s12
            replace r1 := Rep.mono _ s12.g r1
            replace r2 := Rep.mono _ s12.g r2
            replace r8 := Rep.mono _ s12.g r8
            replace rg1 := rg1.step s12
            replace w := w.tr s12
            replace gx1 := Ex.tr gx1 s12.g
            refine bl_v ?_
            exact hN9 (!z8) _ _ ⟨rfl, w, gx1, rg1⟩ hW
          · have hW := ifN hW hc3
            exact hN9 false _ _ ⟨rfl, w, gx1, rg1⟩ hW
        intro b1 F12 H13 hI1 hW
        obtain ⟨_, w, gx2, x5⟩ := hI1
        have r1 := Rep.mono _ gx2 r1
        have r2 := Rep.mono _ gx2 r2
        have r8 := Rep.mono _ gx2 r8
        refine bb_if (fun hc4 => ?_) (fun hc4 => ?_)
        · have hW := ifP hW hc4
          refine a_ret (v := (.bl (false))) val_c ?_
          exact hQ _ hW _ _ w
        · have hW := ifN hW hc4
          refine hN8 _ _ ?_
          refine q_sq fun N10 hN10 => ?_
          refine a_asgE ?_
          refine c_LE ?_
          refine e_val (v := v7) (val_var rfl) ?_
          obtain ⟨c8, hW⟩ := hW
          refine w_compRG (e := (pL pN)) x5 r10 w c8 hW ?_ ?_
          · intro Qy Qn rows_here1 u1 F13 H14 R1 q1 hx1 ru1 hW hy1 hn1
            have r1 := Rep.mono _ q1.g r1
            have r2 := Rep.mono _ q1.g r2
            have r8 := Rep.mono _ q1.g r8
            have x5 := x5.step q1
            have w := Wf.id q1.f
            refine ⟨rfl, ?_⟩
            refine c_yes ?_
            refine e_cb ?_
            refine a_val (v := u1) (val_var rfl) ?_
            refine a_nil ?_
            refine n_listG (F := F13) (G := G1) (e' := pN) (fun h => h) ru1 x5.h w ?_
            intro p5 H15 hp4 s13 x6
            have ne3 := x5.ne hp4
            replace r1 := Rep.mono _ s13.g r1
            replace r2 := Rep.mono _ s13.g r2
            replace r8 := Rep.mono _ s13.g r8
            replace x5 := x5.step s13
            replace w := w.tr s13
            obtain ⟨F14, w3, g3, r15, fz3⟩ := x6.frzE w
            replace r1 := Rep.mono _ g3 r1
            replace r2 := Rep.mono _ g3 r2
            replace r8 := Rep.mono _ g3 r8
            replace x5 := x5.frzO fz3 ne3 g3
            replace w := w3
            exact hy1 _ _ _ _ w r15 hW
          intro p6 ys1 F15 H16 hp5 s14 x7 hW
          have ne4 := x5.ne hp5
          replace r1 := Rep.mono _ s14.g r1
          replace r2 := Rep.mono _ s14.g r2
          replace r8 := Rep.mono _ s14.g r8
          replace x5 := x5.step s14
          replace w := w.tr s14
          obtain ⟨F16, w4, g4, r16, fz4⟩ := x7.frzE w
          replace r1 := Rep.mono _ g4 r1
          replace r2 := Rep.mono _ g4 r2
          replace r8 := Rep.mono _ g4 r8
          replace x5 := x5.frzO fz4 ne4 g4
          replace w := w4
          refine hN10 _ _ ?_
          refine q_sq fun N11 hN11 => ?_
          refine f_LE ?_
          refine e_val (v := v7) (val_var rfl) ?_
          obtain ⟨c9, hW⟩ := hW
          refine w_forAG (fun σ' F' H' => ∃ (o1 : Option V), Wf F0 H0 F' H' ∧ Ex F16 F' ∧ σ' = [some v1, some v2, some (.ref ob1), some (.int ((turns1 : Nat) : Int)), some v7, some (.int ((many1 : Nat) : Int)), some (.ref p6), o1, none]) x5 r10 ⟨_, w, Ex.rfl', rfl⟩ ?_ ?_
          · intro N12 Bk1 rows_here2 u2 i1 σ' F17 H17 hI2 hrd1 hi1 hx2 ru2 hN12
            obtain ⟨o1, w, gx3, rfl⟩ := hI2
            have r1 := Rep.mono _ gx3 r1
            have r2 := Rep.mono _ gx3 r2
            have r8 := Rep.mono _ gx3 r8
            have r16 := Rep.mono _ gx3 r16
            refine g_name ?_
            refine a_dropE ?_
            obtain ⟨p7, vs1, rfl, hp6, hl1⟩ := L_at ru2
            refine m_rd hrd1 hp6 (val_var rfl) ?_
            refine a_val (v := (.int ((0 : Nat) : Int))) val_c ?_
            refine a_nil ?_
            refine a_appD hrd1 hp6 w (by rw [hl1]; exact Nat.lt_of_le_of_lt (Nat.add_le_add_left (Nat.le_of_lt hi1) _) (c9 _ hx2)) (fun H18 w5 rd1 kp1 => ?_)
            replace w := w5
            exact hN12 _ _ _ ⟨_, w, gx3, rfl⟩ rd1 (fun q o h hq => kp1 q o h (hq _ rfl))
          · intro σ' F18 H19 hI3 hrd2
            obtain ⟨o1, w, gx4, rfl⟩ := hI3
            have r1 := Rep.mono _ gx4 r1
            have r2 := Rep.mono _ gx4 r2
            have r8 := Rep.mono _ gx4 r8
            have r16 := Rep.mono _ gx4 r16
            refine hN11 _ _ ?_
            refine q_sq fun N13 hN13 => ?_
            refine a_dropE ?_
            obtain ⟨p8, vs2, rfl, hp7, hl2⟩ := L_at r10
            refine m_rd0 hrd2 hp7 (val_var rfl) ?_
            refine a_clrD hrd2 hp7 w (fun H20 w6 rd2 kp2 => ?_)
            replace w := w6
            refine hN13 _ _ ?_
            refine q_sq fun N14 hN14 => ?_
            refine f_LE ?_
            refine e_lst ?_
            refine a_val (v := (.int (-1))) (v_neg val_c) ?_
            refine a_val (v := (.int ((21 : Nat) : Int))) val_c ?_
            refine a_val (v := (.bl (true))) val_c ?_
            refine a_val (v := .non) val_c ?_
            refine a_nil ?_
            refine n_lstX (e := pA) (xs := [(An.i (-1)), (An.i ((21 : Nat) : Int)), (An.b true), An.n]) (vs := [(.int (-1)), (.int ((21 : Nat) : Int)), (.bl (true)), .non]) (show All pA _ [(.int (-1)), (.int ((21 : Nat) : Int)), (.bl (true)), .non] [(An.i (-1)), (An.i ((21 : Nat) : Int)), (An.b true), An.n] from ⟨(show pA.r _ (.int (-1)) (An.i (-1)) from rfl), ⟨(show pA.r _ (.int ((21 : Nat) : Int)) (An.i ((21 : Nat) : Int)) from rfl), ⟨(show pA.r _ (.bl (true)) (An.b true) from rfl), ⟨(show pA.r _ V.non An.n from rfl), trivial⟩⟩⟩⟩) (show 4 < 1000000 from by decide) w ?_
            intro p9 H21 hp8 s15 x8
            have ne5 := rd2.ne hp8
            replace r1 := Rep.mono _ s15.g r1
            replace r2 := Rep.mono _ s15.g r2
            replace r8 := Rep.mono _ s15.g r8
            replace r16 := Rep.mono _ s15.g r16
            replace rd2 := rd2.step s15
            replace w := w.tr s15
            replace gx4 := Ex.tr gx4 s15.g
            obtain ⟨F19, w7, g5, r17, fz5⟩ := x8.frzE w
            replace r1 := Rep.mono _ g5 r1
            replace r2 := Rep.mono _ g5 r2
            replace r8 := Rep.mono _ g5 r8
            replace r16 := Rep.mono _ g5 r16
            replace rd2 := rd2.frzO fz5 ne5 g5
            replace w := w7
            replace gx4 := Ex.tr gx4 g5
            refine w_forL (S := Unit) (fun _ σ' F' H' => ∃ (o2 : Option V), Wf F0 H0 F' H' ∧ Ex F19 F' ∧ σ' = [some v1, some v2, some (.ref ob1), some (.int ((turns1 : Nat) : Int)), some (.ref p8), some (.int ((many1 : Nat) : Int)), some (.ref p6), o1, o2] ∧ RD H0 F' H' G1 z5.length) r17 hW ⟨_, w, Ex.rfl', rfl, rd2⟩ (fun s σ' F' H' hI => by obtain ⟨_, w', gx', _⟩ := hI; exact ⟨gx', w'.f⟩) w.f ?_ ?_
            · intro N15 Bk2 thing1 u3 s16 σ' F20 H22 nx2 bk1 hI4 hx3 ru3 hW hN15 hB1
              obtain ⟨o2, w, gx5, rfl, g6⟩ := hI4
              have r1 := Rep.mono _ gx5 r1
              have r2 := Rep.mono _ gx5 r2
              have r8 := Rep.mono _ gx5 r8
              have r16 := Rep.mono _ gx5 r16
              have r17 := Rep.mono _ gx5 r17
              have gx4 := Ex.tr gx4 gx5
              refine g_name ?_
              refine a_ifE ?_
              refine e_jnT hW (fun b F' H' => b = b ∧ Wf F0 H0 F' H' ∧ Ex F20 F' ∧ RD H0 F' H' G1 z5.length) ?_ ?_
              · intro N16 hN16 hW
                have gx6 : Ex F20 F20 := Ex.rfl'
                refine e_tOr ?_
                refine e_tNot ?_
                refine e_tB ?_
                refine e_call ?_
                refine a_val (v := (.ref ob1)) (val_var rfl) ?_
                refine a_val (v := u3) (val_var rfl) ?_
                refine a_val (v := (.int ((0 : Nat) : Int))) val_c ?_
                refine a_nil ?_
                refine ⟨F20, ((.ref ob1)), (z2), (u3), (thing1), (0), _, rfl, w.f, r8, ru3, hW, ?_⟩
                intro z9 hW F21 H23 s17
                replace r1 := Rep.mono _ s17.g r1
                replace r2 := Rep.mono _ s17.g r2
                replace r8 := Rep.mono _ s17.g r8
                replace r16 := Rep.mono _ s17.g r16
                replace ru3 := Rep.mono _ s17.g ru3
                replace g6 := g6.step s17
                replace w := w.tr s17
                replace gx6 := Ex.tr gx6 s17.g
                replace gx5 := Ex.tr gx5 s17.g
                replace gx4 := Ex.tr gx4 s17.g
                refine bl_v ?_
                refine bb_ifn (fun hc5 => ?_) (fun hc5 => ?_)
                · have hW := ifP hW hc5
                  refine e_tNot ?_
                  refine e_tB ?_
                  refine e_call ?_
                  refine a_val (v := (.ref ob1)) (val_var rfl) ?_
                  refine a_val (v := u3) (val_var rfl) ?_
                  refine a_val (v := (.int ((1 : Nat) : Int))) val_c ?_
                  refine a_nil ?_
                  refine ⟨F21, ((.ref ob1)), (z2), (u3), (thing1), (1), _, rfl, w.f, r8, ru3, hW, ?_⟩
                  intro z10 hW F22 H24 s18
                  replace r1 := Rep.mono _ s18.g r1
                  replace r2 := Rep.mono _ s18.g r2
                  replace r8 := Rep.mono _ s18.g r8
                  replace r16 := Rep.mono _ s18.g r16
                  replace ru3 := Rep.mono _ s18.g ru3
                  replace g6 := g6.step s18
                  replace w := w.tr s18
                  replace gx6 := Ex.tr gx6 s18.g
                  replace gx5 := Ex.tr gx5 s18.g
                  replace gx4 := Ex.tr gx4 s18.g
                  refine bl_v ?_
                  exact hN16 (!z10) _ _ ⟨rfl, w, gx6, g6⟩ hW
                · have hW := ifN hW hc5
                  exact hN16 true _ _ ⟨rfl, w, gx6, g6⟩ hW
              intro b2 F23 H25 hI5 hW
              obtain ⟨_, w, gx7, x9⟩ := hI5
              have r1 := Rep.mono _ gx7 r1
              have r2 := Rep.mono _ gx7 r2
              have r8 := Rep.mono _ gx7 r8
              have r16 := Rep.mono _ gx7 r16
              have ru3 := Rep.mono _ gx7 ru3
              have gx5 := Ex.tr gx5 gx7
              have gx4 := Ex.tr gx4 gx7
              refine bb_if (fun hc6 => ?_) (fun hc6 => ?_)
              · have hW := ifP hW hc6
                refine a_ret (v := (.bl (false))) val_c ?_
                exact hQ _ hW _ _ w
              · have hW := ifN hW hc6
                exact hN15 () _ _ _ ⟨_, w, gx5, rfl, x9⟩ hW
            · intro s19 σ' F24 H26 hI6 hW
              obtain ⟨o2, w, gx8, rfl, g6⟩ := hI6
              have r1 := Rep.mono _ gx8 r1
              have r2 := Rep.mono _ gx8 r2
              have r8 := Rep.mono _ gx8 r8
              have r16 := Rep.mono _ gx8 r16
              have r17 := Rep.mono _ gx8 r17
              have gx4 := Ex.tr gx4 gx8
              refine hN14 _ _ ?_
              refine a_retE ?_
              refine e_op ?_
              refine e_call ?_
              refine a_val (v := (.ref ob1)) (val_var rfl) ?_
              refine a_val (v := (.int ((turns1 : Nat) : Int))) (val_var rfl) ?_
              refine a_nil ?_
              refine ⟨F24, ((.ref ob1)), (z2), ((.int ((turns1 : Nat) : Int))), ((An.i ((turns1 : Nat) : Int))), _, _, rfl, w.f, r8, (show pA.r _ (.int ((turns1 : Nat) : Int)) (An.i ((turns1 : Nat) : Int)) from rfl), hW, ?_, ?_⟩
              · intro hW; exact hW.elim
              intro z11 hW v11 F25 H27 s20 fr2
              have r18 := fr2.r
              replace r1 := Rep.mono _ s20.g r1
              replace r2 := Rep.mono _ s20.g r2
              replace r8 := Rep.mono _ s20.g r8
              replace r16 := Rep.mono _ s20.g r16
              replace g6 := g6.step s20
              replace w := w.tr s20
              replace gx8 := Ex.tr gx8 s20.g
              replace gx4 := Ex.tr gx4 s20.g
              refine e_val (v := (.ref p6)) (val_var rfl) ?_
              refine rv2 (z := .bl (decide (z11 = ys1))) (c_eqD (K := K) (e := (pL (pL pN))) val_c val_c w.f r18 w.f r16) ?_
              exact hQ _ hW _ _ w
    · have hW := ifN hW hc1
      refine a_ret (v := (.bl (false))) val_c ?_
      exact hQ _ hW _ _ w
end My
namespace My
open Wk
theorem w_even {n : Nat} {R : Bool → Prop} (h : R (!par n)) : W_even n R := by
  refine whileW_ind (fun s => s.1 ≤ 1 ∧ xor (decide (s.1 = 1)) (par s.2) = par n) (fun s => s.2) ⟨by show 0 ≤ 1; decide, by simp⟩ ?_
  rintro ⟨many, number⟩ nx ⟨h1, h2⟩ hn
  by_cases hp : 0 < number
  · show if decide (0 < number) = true then _ else _
    rw [if_pos (decide_eq_true hp)]
    rintro _ rfl _ rfl
    refine hn _ ⟨?_, ?_⟩ ?_
    · show many ^^^ (number &&& 1) ≤ 1
      rw [Nat.and_one_is_mod]
      have : many = 0 ∨ many = 1 := by simp at h1; omega
      rcases Nat.mod_two_eq_zero_or_one number with e | e <;> rcases this with f | f <;> rw [e, f] <;> decide
    · show xor (decide (many ^^^ (number &&& 1) = 1)) (par (number >>> 1)) = par n
      rw [← h2, Nat.and_one_is_mod, par_step number, Nat.shiftRight_eq_div_pow, Nat.testBit_zero]
      simp only [Nat.pow_one]
      have : many = 0 ∨ many = 1 := by simp at h1; omega
      rcases Nat.mod_two_eq_zero_or_one number with e | e <;> rcases this with f | f <;> simp [e, f]
    · show number >>> 1 < number
      rw [Nat.shiftRight_eq_div_pow]; omega
  · show if decide (0 < number) = true then _ else _
    rw [if_neg (by simpa using hp)]
    have : number = 0 := by omega
    subst this
    show R (decide (many = 0))
    simp [par_zero] at h2
    rw [← h2] at h
    have e : many = 0 ∨ many = 1 := by simp at h1; omega
    rcases e with f | f <;> subst f <;> simpa using h
end My
namespace My
open Wk
theorem w_bits_of {k n : Nat} {R : List Nat → Prop} (hk : k < 1000000) (hn : n < 2 ^ k) (h : R (bl k n)) : W_bits_of n R := by
  refine whileW_ind (fun s => s.2.1 = n >>> s.2.2 ∧ s.1 = bl s.2.2 n ∧ s.2.2 ≤ k) (fun s => k - s.2.2) ⟨rfl, rfl, Nat.zero_le _⟩ ?_
  rintro ⟨found, mask, place⟩ nx ⟨(rfl : mask = n >>> place), (rfl : found = bl place n), (h3 : place ≤ k)⟩ hx
  show if decide (0 < n >>> place) = true then _ else _
  by_cases hp : 0 < n >>> place
  · rw [if_pos (decide_eq_true hp)]
    have hl : place < k := by
      refine Nat.lt_of_not_le fun z => ?_
      rw [Nat.shiftRight_eq_div_pow, Nat.div_eq_of_lt (Nat.lt_of_lt_of_le hn (Nat.pow_le_pow_right (by decide) z))] at hp
      exact Nat.lt_irrefl _ hp
    have nxt : ∀ (s' : List Nat × Nat × Nat), s' = (bl (place + 1) n, n >>> (place + 1), place + 1) → nx s' := fun s' e => hx s' (by subst e; exact ⟨rfl, rfl, hl⟩) (by
      subst e
      show k - (place + 1) < k - place
      omega)
    have e1 : (n >>> place &&& 1 = 1) ↔ n.testBit place = true := by
      rw [Nat.and_one_is_mod, Nat.testBit_eq_decide_div_mod_eq, Nat.shiftRight_eq_div_pow, decide_eq_true_iff]
    have e2 : n >>> place >>> 1 = n >>> (place + 1) := (Nat.shiftRight_add ..).symm
    show if _ then _ else _
    by_cases hb : n.testBit place = true
    · rw [if_pos (e1.mpr hb)]
      refine ⟨Nat.lt_of_le_of_lt (bl_len _ _) (Nat.lt_of_le_of_lt h3 hk), ?_⟩
      rintro _ rfl _ rfl
      exact nxt _ (by rw [bl_snoc, if_pos hb, e2])
    · rw [if_neg (fun z => hb (e1.mp z))]
      rintro _ rfl _ rfl
      exact nxt _ (by rw [bl_snoc, if_neg hb, e2, List.append_nil])
  · rw [if_neg (by simpa using hp)]
    show R (bl place n)
    rw [← bl_more h3 (Nat.eq_zero_of_not_pos hp)]; exact h
end My
namespace My
open Wk
def cellV (s : List Int) (k : Nat) : Int := if h : k < s.length then s[k] else ((41 * k + 3 : Nat) : Int)
theorem w_cell {s : List Int} {k : Nat} {R : Int → Prop} (h : R (cellV s k)) : W_cell s k R := by
  unfold W_cell
  unfold cellV at h
  by_cases e : k < s.length
  · rw [dif_pos e] at h; rw [if_pos e]; exact ⟨_, List.getElem?_eq_getElem e, h⟩
  · rw [dif_neg e] at h; rw [if_neg e]; exact h
def mixN (c : Int) (k : Nat) : Nat := (((modN c 2147483647) * 48271) + (7919 * k) + 11) % 2147483647
def mixV (c : Int) (k : Nat) : Nat := ((mixN c k * mixN c k % 2147483629) * ((mixN c k * mixN c k % 2147483629 + 48271 * k) + 7)) % 2147483587
theorem w_mix {c : Int} {k : Nat} {R : Nat → Prop} (h : R (mixV c k)) : W_mix c k R := by
  rintro _ rfl
  have b : mixN c k < 2 ^ 64 := Nat.lt_trans (Nat.mod_lt _ (by decide)) (by decide)
  refine ⟨.inl b, ?_⟩
  rintro _ rfl
  exact ⟨.inl (Nat.lt_trans (Nat.mod_lt _ (by decide)) (by decide)), h⟩
end My
namespace My
open Wk
/-- what is kept, behind the rows pre -/
structure KI (pre : List Nat) (kept : List (Nat × (Nat × Nat))) : Prop where
  ent : ∀ t l p, valT kept t = some (l, p) → l ≠ 0 ∧ bits l = t ∧ comb pre p = l ∧ p < 2 ^ pre.length
  top : ∀ v, v ≠ 0 → Span pre v → hasT kept (bits v) = true
theorem KI.nil : KI [] [] := ⟨fun t l p h => (by cases h), fun v h s => absurd (Span.nil.mp s) h⟩
/-- behind lowered -/
structure Low (pre : List Nat) (kept : List (Nat × (Nat × Nat))) (row places left more : Nat) : Prop where
  no : hasT kept (bits left) = false
  by_ : ∃ D, D < 2 ^ pre.length ∧ left = row ^^^ comb pre D ∧ more = places ^^^ D
theorem xor4 (a b c : Nat) : (a ^^^ b) ^^^ c = a ^^^ (b ^^^ c) := Nat.xor_assoc a b c
theorem w_lowered {pre : List Nat} {kept : List (Nat × (Nat × Nat))} (K : KI pre kept) {row places : Nat} {R : Nat × Nat → Prop} (h : ∀ z : Nat × Nat, Low pre kept row places z.1 z.2 → R z) : W_Steps_lowered kept row places R := by
  refine whileW_ind (fun s => ∃ D, D < 2 ^ pre.length ∧ s.1 = row ^^^ comb pre D ∧ s.2 = places ^^^ D) (fun s => bits s.1) ⟨0, Nat.two_pow_pos _, by rw [comb_zero, Nat.xor_zero], by rw [Nat.xor_zero]⟩ ?_
  rintro ⟨r, p⟩ nx ⟨D, hD, (e1 : r = _), (e2 : p = _)⟩ hn
  show if decide (hasT kept (bits r) = true) = true then _ else _
  by_cases q : hasT kept (bits r) = true
  · rw [if_pos (decide_eq_true q)]
    obtain ⟨⟨l, pl⟩, hx⟩ : ∃ x, valT kept (bits r) = some x := by
      unfold hasT at q
      cases hv : valT kept (bits r) with
      | none => rw [hv] at q; cases q
      | some x => exact ⟨x, rfl⟩
    refine ⟨(l, pl), hx, ?_⟩
    rintro _ rfl _ rfl
    obtain ⟨h0, hb, hc, hp⟩ := K.ent _ _ _ hx
    have hr : r ≠ 0 := fun z => by rw [z, bits_zero] at hb; exact h0 (bits_eq_zero.mp hb)
    refine hn _ ⟨D ^^^ pl, Nat.xor_lt_two_pow hD hp, ?_, ?_⟩ (bits_xor_eq hb.symm hr)
    · show r ^^^ l = _
      rw [e1, comb_xor, hc, Nat.xor_assoc]
    · show p ^^^ pl = _
      rw [e2, Nat.xor_assoc]
  · rw [if_neg (by simpa using q)]
    exact h (r, p) ⟨by simpa using q, D, hD, e1, e2⟩
theorem Low.zero {pre : List Nat} {kept : List (Nat × (Nat × Nat))} {row places left more : Nat} (K : KI pre kept) (L : Low pre kept row places left more) : left = 0 ↔ Span pre row := by
  obtain ⟨D, hD, e1, e2⟩ := L.by_
  constructor
  · intro h
    rw [h] at e1
    exact ⟨D, (xor0 e1.symm).symm⟩
  · intro h
    refine Classical.byContradiction fun z => ?_
    have hs : Span pre left := by rw [e1]; exact h.xor ⟨D, rfl⟩
    have := K.top left z hs
    rw [L.no] at this; cases this
/-- what Steps(rows) holds -/
structure StepsOk (rows : List Nat) (z : List (Nat × (Nat × Nat)) × List Nat × List Nat) : Prop where
  ki : KI rows z.1
  nd : (z.1.map (·.1)).Nodup
  kl : z.1.length = z.2.1.length
  fnd : z.2.1 = fndP rows
  gon : ∀ g ∈ z.2.2, g ≠ 0 ∧ comb rows g = 0 ∧ g < 2 ^ rows.length
  inc : z.2.2.Pairwise (fun a b => bits a < bits b)
  len : z.2.1.length + z.2.2.length = rows.length
theorem KI.up {pre : List Nat} {kept : List (Nat × (Nat × Nat))} (K : KI pre kept) {x : Nat} : ∀ t l p, valT kept t = some (l, p) → l ≠ 0 ∧ bits l = t ∧ comb (pre ++ [x]) p = l ∧ p < 2 ^ (pre ++ [x]).length := fun t l p h => by
  obtain ⟨a, b, c, d⟩ := K.ent t l p h
  refine ⟨a, b, by rw [comb_snoc, testBit_big d (Nat.le_refl _), c]; simp, Nat.lt_of_lt_of_le d (Nat.pow_le_pow_right (by decide) (by simp))⟩
theorem keys_putT {κ α : Type} [DecidableEq κ] [KeyT κ] {m : List (κ × α)} {j : κ} {x : α} (hn : (m.map (·.1)).Nodup) : ((putT m j x).map (·.1)).Nodup := by
  unfold putT
  by_cases h : hasT m j = true
  · rw [if_pos h, List.map_map]
    have : ((fun q : κ × α => q.1) ∘ fun q => if q.1 = j then (q.1, x) else q) = fun q => q.1 := by
      funext q
      show (if q.1 = j then (q.1, x) else q).1 = q.1
      by_cases e : q.1 = j
      · rw [if_pos e]
      · rw [if_neg e]
    rw [this]; exact hn
  · rw [if_neg h, List.map_append]
    refine List.nodup_append.mpr ⟨hn, by simp, fun a ha b hb e => ?_⟩
    rw [List.mem_singleton.mp (show b ∈ [j] from hb)] at e
    subst e
    exact h (hasT_iff.mpr ha)
theorem w_Steps_init {rows : List Nat} (hl : rows.length < 1000000) {R : (List (Nat × (Nat × Nat)) × List Nat × List Nat) → Prop} (h : ∀ z, StepsOk rows z → R z) : W_Steps___init__ rows R := by
  refine forW_ind (fun pre (s : List Nat × List (Nat × (Nat × Nat)) × List Nat) => ∃ us, rows = us ++ rows.drop us.length ∧ us.length = pre.length ∧ StepsOk us (s.2.1, s.2.2, s.1)) ⟨[], rfl, rfl, ⟨KI.nil, List.nodup_nil, rfl, rfl, fun g hg => (by cases hg), List.Pairwise.nil, rfl⟩⟩ ?_ ?_
  · rintro pre ⟨i, x⟩ post ⟨gone, kept, found⟩ nx bk e ⟨us, hu, hul, S⟩ hn _
    have hget : (enumT rows)[pre.length]? = some (i, x) := by rw [e, List.getElem?_append_right (Nat.le_refl _), Nat.sub_self]; rfl
    rw [enumT_get] at hget
    obtain ⟨y, hy, ey⟩ := Option.map_eq_some_iff.mp hget
    obtain ⟨rfl, rfl⟩ := Prod.ext_iff.mp ey
    have hlt : pre.length < rows.length := (List.getElem?_eq_some_iff.mp hy).1
    have hus : us ++ [y] = rows.take (us.length + 1) := by
      have e1 : us = rows.take us.length := by
        conv => rhs; rw [hu]
        rw [List.take_append_of_le_length (Nat.le_refl _), List.take_length]
      have e2 : rows[us.length]'(by omega) = y := by
        have := (List.getElem?_eq_some_iff.mp hy).2
        simp only [hul]; exact this
      rw [List.take_succ_eq_append_getElem (by omega), e2, ← e1]
    have hnew : rows = (us ++ [y]) ++ rows.drop (us ++ [y]).length := by
      rw [hus, List.length_take, Nat.min_eq_left (by omega), List.take_append_drop]
    have hsl := S.len
    have hsk := S.kl
    have hi : (pre.length : Nat) = us.length := hul.symm
    show (pre.length < 100000000) ∧ _
    refine ⟨by omega, w_lowered S.ki fun z L => ?_⟩
    have hz := L.zero S.ki
    obtain ⟨D, hD, e1, e2⟩ := L.by_
    have hc : comb (us ++ [y]) z.2 = z.1 := by
      show comb (us ++ [y]) z.2 = z.1
      rw [e2, hi, comb_xor, comb_snoc, comb_pow_len, Nat.testBit_two_pow, decide_eq_true rfl, if_pos rfl, comb_snoc, testBit_big hD (Nat.le_refl _), if_neg (by simp), Nat.zero_xor, Nat.xor_zero, e1]
    have hzb : z.2.testBit us.length = true := by rw [e2, hi, Nat.testBit_xor, Nat.testBit_two_pow, decide_eq_true rfl, testBit_big hD (Nat.le_refl _)]; rfl
    have hzl : z.2 < 2 ^ (us.length + 1) := by
      rw [e2, hi]
      exact Nat.xor_lt_two_pow (Nat.pow_lt_pow_right (by decide) (Nat.lt_succ_self _)) (Nat.lt_of_lt_of_le hD (Nat.pow_le_pow_right (by decide) (Nat.le_succ _)))
    have hzz : bits z.2 = us.length + 1 := bits_of_bit hzb hzl
    have ll : (us ++ [y]).length = us.length + 1 := by simp
    by_cases q : z.1 = 0
    · rw [if_pos q]
      have hs := hz.mp q
      refine ⟨by simp only at hsl; omega, hn _ ⟨us ++ [y], hnew, by simp [hul], ?_⟩⟩
      refine ⟨⟨S.ki.up, fun v hv sv => ?_⟩, S.nd, S.kl, ?_, ?_, ?_, ?_⟩
      · rcases Span.snoc.mp sv with a | a
        · exact S.ki.top v hv a
        · refine S.ki.top v hv ?_
          have := a.xor hs
          rwa [Nat.xor_assoc, Nat.xor_self, Nat.xor_zero] at this
      · rw [fndP_snoc, if_pos hs, List.append_nil]; exact S.fnd
      · intro g hg
        rcases List.mem_append.mp hg with m | m
        · obtain ⟨a, b, c⟩ := S.gon g m
          exact ⟨a, by rw [comb_snoc, testBit_big c (Nat.le_refl _), b]; simp, Nat.lt_of_lt_of_le c (Nat.pow_le_pow_right (by decide) (by simp))⟩
        · rw [List.mem_singleton.mp m]
          exact ⟨fun z0 => by rw [z0, bits_zero] at hzz; omega, by rw [hc, q], by rw [ll]; exact hzl⟩
      · refine List.pairwise_append.mpr ⟨S.inc, List.pairwise_singleton _ _, fun a ha b hb => ?_⟩
        rw [List.mem_singleton.mp hb, hzz]
        exact Nat.lt_succ_of_le (bits_le.mpr (S.gon a ha).2.2)
      · simp only [List.length_append, List.length_singleton] at hsl ⊢; omega
    · rw [if_neg q]
      have hs : ¬ Span us y := fun z0 => q (hz.mpr z0)
      refine ⟨by simp only at hsk hsl; omega, by simp only at hsl; omega, hn _ ⟨us ++ [y], hnew, by simp [hul], ?_⟩⟩
      have hno := L.no
      refine ⟨⟨fun t l p hv => ?_, fun v hv sv => ?_⟩, keys_putT S.nd, ?_, ?_, ?_, S.inc, ?_⟩
      · rw [valT_putT] at hv
        by_cases e : bits z.1 = t
        · rw [if_pos e] at hv
          obtain ⟨rfl, rfl⟩ := Prod.ext_iff.mp (Option.some.inj hv)
          exact ⟨q, e, hc, by rw [ll]; exact hzl⟩
        · rw [if_neg e] at hv
          exact S.ki.up t l p hv
      · show hasT (putT kept (bits z.1) (z.1, z.2)) (bits v) = true
        rw [hasT_putT]
        have key : ∀ u, u ≠ 0 → Span us u → hasT kept (bits u) = true := S.ki.top
        rcases Span.snoc.mp sv with a | a
        · rw [key v hv a, Bool.or_true]
        · have a' : Span us (v ^^^ z.1) := by
            have := a.xor ⟨D, rfl⟩
            rw [e1]; rwa [Nat.xor_assoc] at this
          by_cases hu0 : v ^^^ z.1 = 0
          · rw [xor0 hu0, decide_eq_true rfl]; rfl
          · have hk := key _ hu0 a'
            have hne : bits (v ^^^ z.1) ≠ bits z.1 := fun e => by rw [e, hno] at hk; cases hk
            have hm : bits v = max (bits (v ^^^ z.1)) (bits z.1) := by
              rw [← bits_xor_max hne, Nat.xor_assoc, Nat.xor_self, Nat.xor_zero]
            rcases Nat.le_total (bits (v ^^^ z.1)) (bits z.1) with o | o
            · rw [hm, Nat.max_eq_right o, decide_eq_true rfl]; rfl
            · rw [hm, Nat.max_eq_left o, hk, Bool.or_true]
      · show (putT kept (bits z.1) (z.1, z.2)).length = (found ++ [pre.length]).length
        unfold putT
        rw [if_neg (by rw [hno]; simp), List.length_append, List.length_append]
        simp only at hsk
        rw [hsk]; rfl
      · show found ++ [pre.length] = _
        rw [fndP_snoc, if_neg hs, hi]
        have := S.fnd
        simp only at this
        rw [this]
      · intro g hg
        obtain ⟨a, b, c⟩ := S.gon g hg
        exact ⟨a, by rw [comb_snoc, testBit_big c (Nat.le_refl _), b]; simp, Nat.lt_of_lt_of_le c (Nat.pow_le_pow_right (by decide) (by simp))⟩
      · simp only [List.length_append, List.length_singleton] at hsl ⊢; omega
  · rintro ⟨gone, kept, found⟩ ⟨us, hu, hul, S⟩
    have : us = rows := by
      rw [enumT_len] at hul
      rw [hul, List.drop_length, List.append_nil] at hu
      exact hu.symm
    rw [this] at S
    exact h _ S
end My
namespace My
open Wk
/-- a mask that is even with all rows, and of the bits that no kept row has for its highest has bit alone -/
structure Crs (rows : List Nat) (kept : List (Nat × (Nat × Nat))) (bit m : Nat) : Prop where
  ev : ∀ v, Span rows v → par (v &&& m) = false
  own : ∀ b, hasT kept (b + 1) = false → (m.testBit b = true ↔ b = bit)
  lowz : ∀ j, j < bit → m.testBit j = false
  low : ∀ w, bit < w → (∀ t, hasT kept t = true → t ≤ w) → m < 2 ^ w
theorem and_xor (a b c : Nat) : (a ^^^ b) &&& c = (a &&& c) ^^^ (b &&& c) := Nat.eq_of_testBit_eq fun i => by
  rw [Nat.testBit_and, Nat.testBit_xor, Nat.testBit_xor, Nat.testBit_and, Nat.testBit_and]
  cases a.testBit i <;> cases b.testBit i <;> cases c.testBit i <;> rfl
theorem and_xor' (a b c : Nat) : a &&& (b ^^^ c) = (a &&& b) ^^^ (a &&& c) := by rw [Nat.and_comm, and_xor, Nat.and_comm b, Nat.and_comm c]
theorem and_pow {a k : Nat} : a &&& 2 ^ k = if a.testBit k = true then 2 ^ k else 0 := Nat.eq_of_testBit_eq fun i => by
  rw [Nat.testBit_and, Nat.testBit_two_pow]
  by_cases e : k = i
  · subst e
    by_cases q : a.testBit k = true
    · rw [if_pos q, q, Nat.testBit_two_pow]; simp
    · rw [if_neg q]; simp [q]
  · by_cases q : a.testBit k = true
    · rw [if_pos q, Nat.testBit_two_pow, decide_eq_false e]; simp
    · rw [if_neg q, decide_eq_false e]; simp
theorem w_crossing {rows : List Nat} {z : List (Nat × (Nat × Nat)) × List Nat × List Nat} (S : StepsOk rows z) {bit : Nat} (hb : bit < 100000000) (hbt : hasT z.1 (bit + 1) = false) (hk : z.1.length < 1000000) (ht : ∀ t, hasT z.1 t = true → t < 100000000) {R : Nat → Prop} (h : ∀ m, Crs rows z.1 bit m → R m) : W_Steps_crossing z bit R := by
  refine ⟨hb, ?_⟩
  rintro _ rfl
  refine ⟨hk, fun ys hp hs => ?_⟩
  have key : ∀ t, t ∈ ys ↔ hasT z.1 t = true := fun t => by rw [hp.mem_iff, hasT_iff]
  have nd : ys.Nodup := hp.nodup_iff.mpr S.nd
  refine forW_ind (fun pre (m : Nat) => (∀ t l p, t ∈ pre → valT z.1 t = some (l, p) → par (l &&& m) = false) ∧ (∀ b, m.testBit b = true → b = bit ∨ (b + 1) ∈ pre) ∧ m.testBit bit = true ∧ ∀ j, j < bit → m.testBit j = false) ⟨fun t l p ht => (by cases ht), fun b hb => .inl ?_, by rw [Nat.testBit_two_pow]; simp, fun j hj => by rw [Nat.testBit_two_pow, decide_eq_false (by omega)]⟩ ?_ ?_
  · rw [Nat.testBit_two_pow] at hb; exact (of_decide_eq_true hb).symm
  · rintro pre t post m nx bk e ⟨h1, h2, h3, h4⟩ hx _
    have tm : t ∈ ys := by rw [e]; exact List.mem_append_right _ (List.mem_cons_self ..)
    have tk := (key t).mp tm
    obtain ⟨⟨l, p⟩, hv⟩ : ∃ x, valT z.1 t = some x := by
      unfold hasT at tk
      cases hv : valT z.1 t with
      | none => rw [hv] at tk; cases tk
      | some x => exact ⟨x, rfl⟩
    obtain ⟨l0, lb, lc, lp⟩ := S.ki.ent t l p hv
    have tpos : 0 < t := by rw [← lb]; exact bits_pos l0
    have prelt : ∀ t' ∈ pre, t' < t := fun t' ht' => by
      rw [e, List.pairwise_append] at hs
      have a := hs.2.2 t' ht' t (List.mem_cons_self ..)
      rw [e, List.nodup_append] at nd
      have b := nd.2.2 t' ht' t (List.mem_cons_self ..)
      omega
    refine ⟨(l, p), hv, (l, p), hv, fun row1 erow => ?_⟩
    rw [show row1 = l from erow]
    refine w_even ?_
    have tlt : l.testBit (t - 1) = true := by rw [← lb]; exact bits_bit l0
    have mt : t ∈ pre ++ [t] := List.mem_append_right _ (List.mem_singleton_self _)
    by_cases q : par (l &&& m) = true
    · rw [q, if_neg (by simp)]
      refine ⟨tpos, by have := ht t tk; omega, ?_⟩
      rintro _ rfl
      have tge : bit ≤ t - 1 := by
        refine Nat.le_of_not_lt fun z0 => ?_
        have : l &&& m = 0 := Nat.eq_of_testBit_eq fun i => by
          rw [Nat.testBit_and, Nat.zero_testBit]
          by_cases o : i < bit
          · rw [h4 i o, Bool.and_false]
          · rw [testBit_big (lt_bits l) (by omega), Bool.false_and]
        rw [this, par_zero] at q; cases q
      refine hx _ ⟨fun t' l' p' ht' hv' => ?_, fun b hb' => ?_, ?_, fun j hj => by rw [Nat.testBit_xor, h4 j hj, Nat.testBit_two_pow, decide_eq_false (by omega)]; rfl⟩
      · rw [and_xor', par_xor, and_pow]
        rcases List.mem_append.mp ht' with g | g
        · obtain ⟨l0', lb', _, _⟩ := S.ki.ent t' l' p' hv'
          have := prelt t' g
          rw [h1 t' l' p' g hv', testBit_big (lt_bits l') (by omega), if_neg (by simp), par_zero]; rfl
        · rw [List.mem_singleton.mp g, hv] at hv'
          obtain ⟨rfl, rfl⟩ := Prod.ext_iff.mp (Option.some.inj hv')
          show xor (par (l &&& m)) (par (if l.testBit (t - 1) = true then 2 ^ (t - 1) else 0)) = false
          rw [q, tlt, if_pos rfl, par_two_pow]; rfl
      · rw [Nat.testBit_xor, Nat.testBit_two_pow] at hb'
        by_cases eb : t - 1 = b
        · right
          have : b + 1 = t := by omega
          rw [this]; exact mt
        · rw [decide_eq_false eb, Bool.xor_false] at hb'
          exact (h2 b hb').imp id fun g => List.mem_append_left _ g
      · rw [Nat.testBit_xor, h3, Nat.testBit_two_pow, decide_eq_false (fun eb => ?_)]; rfl
        have : bit + 1 = t := by omega
        rw [this, tk] at hbt; cases hbt
    · have q' : par (l &&& m) = false := by simpa using q
      rw [q', if_pos (by rfl)]
      refine hx _ ⟨fun t' l' p' ht' hv' => ?_, fun b hb' => (h2 b hb').imp id fun g => List.mem_append_left _ g, h3, h4⟩
      rcases List.mem_append.mp ht' with g | g
      · exact h1 t' l' p' g hv'
      · rw [List.mem_singleton.mp g, hv] at hv'
        obtain ⟨rfl, rfl⟩ := Prod.ext_iff.mp (Option.some.inj hv')
        exact q'
  · rintro m ⟨h1, h2, h3, h4⟩
    refine h m ⟨fun v => ?_, fun b hb' => ⟨fun hm => ?_, fun e => by subst e; exact h3⟩, h4, fun w hw hw2 => ?_⟩
    · -- each sum is taken down by what is kept
      induction hn : bits v using Nat.strongRecOn generalizing v with
      | ind n ih =>
        intro hs'
        by_cases v0 : v = 0
        · subst v0; rw [Nat.zero_and, par_zero]
        · have hk' := S.ki.top v v0 hs'
          obtain ⟨⟨l, p⟩, hv⟩ : ∃ x, valT z.1 (bits v) = some x := by
            unfold hasT at hk'
            cases hv : valT z.1 (bits v) with
            | none => rw [hv] at hk'; cases hk'
            | some x => exact ⟨x, rfl⟩
          obtain ⟨l0, lb, lc, lp⟩ := S.ki.ent _ l p hv
          have e : v = (v ^^^ l) ^^^ l := by rw [Nat.xor_assoc, Nat.xor_self, Nat.xor_zero]
          have := ih (bits (v ^^^ l)) (by rw [← hn]; exact bits_xor_eq lb.symm v0) _ rfl (hs'.xor ⟨p, lc⟩)
          rw [e, and_xor, par_xor, this, h1 _ l p ((key _).mpr hk') hv]; rfl
    · rcases h2 b hm with g | g
      · exact g
      · rw [(key _).mp g] at hb'; cases hb'
    · refine Nat.lt_pow_two_of_testBit _ fun j hj => ?_
      refine Bool.eq_false_iff.mpr fun hm => ?_
      rcases h2 j hm with g | g
      · omega
      · have := hw2 _ ((key _).mp g); omega
end My
namespace My
open Wk
theorem kept_has {kept : List (Nat × (Nat × Nat))} {t : Nat} (h : hasT kept t = true) : ∃ l p, valT kept t = some (l, p) := by
  unfold hasT at h
  cases hv : valT kept t with
  | none => rw [hv] at h; cases h
  | some x => exact ⟨x.1, x.2, rfl⟩
theorem Span.mem {rows : List Nat} {r : Nat} (hr : r ∈ rows) : Span rows r := by
  obtain ⟨us, vs, er⟩ := List.append_of_mem hr
  rw [er]
  have : ∀ (vs us : List Nat), Span us r → Span (us ++ vs) r := by
    intro vs
    induction vs with
    | nil => intro us h; rwa [List.append_nil]
    | cons v vs ih => intro us h; rw [show us ++ v :: vs = (us ++ [v]) ++ vs by simp]; exact ih _ (Span.snoc.mpr (.inl h))
  rw [show us ++ r :: vs = (us ++ [r]) ++ vs by simp]
  exact this vs _ (Span.snoc.mpr (.inr (by rw [Nat.xor_self]; exact Span.zero _)))
end My
namespace My
open Wk
/-- masks, each with a bit that no other one has -/
def Priv (zs : List (Nat × Nat)) : Prop := zs.Pairwise (fun p q => p.1.testBit q.2 = false ∧ q.1.testBit p.2 = false) ∧ ∀ p ∈ zs, p.1.testBit p.2 = true
end My
namespace My
open Wk
theorem sub_len : ∀ {l1 l2 : List Nat}, l1.Nodup → (∀ x ∈ l1, x ∈ l2) → l1.length ≤ l2.length
  | [], _, _, _ => Nat.zero_le _
  | x :: l1, l2, hn, h => by
    obtain ⟨h1, h2⟩ := List.nodup_cons.mp hn
    have hx := h x (List.mem_cons_self ..)
    have := sub_len (l2 := l2.erase x) h2 fun y hy => (List.mem_erase_of_ne fun e => by subst e; exact h1 hy).mpr (h y (List.mem_cons_of_mem _ hy))
    rw [List.length_erase_of_mem hx] at this
    have := List.length_pos_of_mem hx
    rw [List.length_cons]; omega
theorem filter_two (p : Nat → Bool) : ∀ l : List Nat, l.length = (l.filter p).length + (l.filter fun b => !p b).length
  | [] => rfl
  | x :: l => by
    have := filter_two p l
    rw [List.length_cons]
    cases h : p x with
    | true => rw [List.filter_cons_of_pos h, List.filter_cons_of_neg (by simp [h]), List.length_cons]; omega
    | false => rw [List.filter_cons_of_neg (by simp [h]), List.filter_cons_of_pos (by simp [h]), List.length_cons]; omega
theorem count_free {keys : List Nat} {w : Nat} (hn : keys.Nodup) (h : ∀ t ∈ keys, 1 ≤ t ∧ t ≤ w) : ((List.range w).filter fun b => decide (b + 1 ∉ keys)).length = w - keys.length := by
  have e1 : ((List.range w).filter fun b => decide (b + 1 ∉ keys)).length + ((List.range w).filter fun b => !decide (b + 1 ∉ keys)).length = w := by
    have := filter_two (fun b => decide (b + 1 ∉ keys)) (List.range w)
    rw [List.length_range] at this
    exact this.symm
  have e2 : ((List.range w).filter fun b => !decide (b + 1 ∉ keys)).length = keys.length := by
    refine Nat.le_antisymm ?_ ?_
    · rw [← List.length_map (f := fun b => b + 1)]
      refine sub_len ?_ fun x hx => ?_
      · refine List.pairwise_map.mpr (((List.nodup_range).filter _).imp fun h e => h (by omega))
      · obtain ⟨b, hb, rfl⟩ := List.mem_map.mp hx
        have := (List.mem_filter.mp hb).2
        simpa using this
    · rw [← List.length_map (as := keys) (f := fun t => t - 1)]
      refine sub_len ?_ fun x hx => ?_
      · refine List.pairwise_map.mpr (List.Pairwise.imp_of_mem (fun {a b} ha hb hne e => ?_) hn)
        have := h a ha
        have := h b hb
        omega
      · obtain ⟨t, ht, rfl⟩ := List.mem_map.mp hx
        have := h t ht
        refine List.mem_filter.mpr ⟨List.mem_range.mpr (by omega), ?_⟩
        rw [show t - 1 + 1 = t by omega]
        simpa using ht
  omega
theorem w_across {rows : List Nat} {w : Nat} (hl : rows.length < 1000000) (hw : w ≤ 1000) (hr : ∀ r ∈ rows, r < 2 ^ w) {R : List Nat → Prop}
    (h : ∀ zs : List (Nat × Nat), Priv zs → zs.length + (fndP rows).length = w → (∀ p ∈ zs, p.1 < 2 ^ w ∧ ∀ v, Span rows v → par (v &&& p.1) = false) → (∀ m, m < 2 ^ w → (∀ v, Span rows v → par (v &&& m) = false) → Span (zs.map (·.1)) m) → R (zs.map (·.1))) : W_across rows w R := by
  refine w_Steps_init hl fun z S => ?_
  have tw : ∀ t, hasT z.1 t = true → 1 ≤ t ∧ t ≤ w := fun t ht => by
    obtain ⟨⟨l, p⟩, hv⟩ : ∃ x, valT z.1 t = some x := by
      unfold hasT at ht
      cases hv : valT z.1 t with
      | none => rw [hv] at ht; cases ht
      | some x => exact ⟨x, rfl⟩
    obtain ⟨l0, lb, lc, lp⟩ := S.ki.ent t l p hv
    refine ⟨by rw [← lb]; exact bits_pos l0, ?_⟩
    rw [← lb]
    exact bits_le.mpr (by rw [← lc]; exact comb_lt hr)
  have kw : z.1.length ≤ w := by
    rw [← List.length_map (f := fun q : Nat × (Nat × Nat) => q.1), ← List.length_map (f := fun t => t - 1)]
    refine nodup_len (List.pairwise_map.mpr (List.Pairwise.imp_of_mem (fun {a b} ha hb hne e => ?_) S.nd)) fun x hx => ?_
    · have := tw a (hasT_iff.mpr ha)
      have := tw b (hasT_iff.mpr hb)
      omega
    · obtain ⟨t, ht, rfl⟩ := List.mem_map.mp hx
      have := tw t (hasT_iff.mpr ht)
      omega
  refine ⟨by omega, ?_⟩
  refine compW_rel (fun b o => if hasT z.1 (b + 1) = true then o = none else ∃ m, o = some m ∧ Crs rows z.1 b m) (fun b hb kk q => ?_) fun ys hy => ?_
  · have hb' := List.mem_range.mp hb
    by_cases c : hasT z.1 (b + 1) = true
    · rw [if_neg (fun e => e c)]
      exact q none (by rw [if_pos c])
    · rw [if_pos c]
      exact w_crossing S (by omega) (by simpa using c) (by omega) (fun t ht => by have := tw t ht; omega) fun m cm => q (some m) (by rw [if_neg c]; exact ⟨m, rfl, cm⟩)
  · have go : ∀ (xs : List Nat) (ys : List Nat), CR (fun b o => if hasT z.1 (b + 1) = true then o = none else ∃ m, o = some m ∧ Crs rows z.1 b m) xs ys → ∃ zs : List (Nat × Nat), ys = zs.map (·.1) ∧ zs.map (·.2) = (xs.filter fun b => decide (b + 1 ∉ z.1.map (·.1))) ∧ ∀ p ∈ zs, hasT z.1 (p.2 + 1) = false ∧ Crs rows z.1 p.2 p.1 := by
      intro xs
      induction xs with
      | nil => rintro ys rfl; exact ⟨[], rfl, rfl, fun p hp => by cases hp⟩
      | cons b xs ih =>
        rintro ys ⟨o, ys', ho, rfl, hc⟩
        obtain ⟨zs, rfl, e2, e3⟩ := ih ys' hc
        by_cases c : hasT z.1 (b + 1) = true
        · rw [if_pos c] at ho
          subst ho
          exact ⟨zs, rfl, by rw [e2, List.filter_cons_of_neg (by simpa using hasT_iff.mp c)], e3⟩
        · rw [if_neg c] at ho
          obtain ⟨m, rfl, cm⟩ := ho
          refine ⟨(m, b) :: zs, rfl, ?_, fun p hp => ?_⟩
          · have : b + 1 ∉ z.1.map (·.1) := fun e => c (hasT_iff.mpr e)
            rw [List.map_cons, e2, List.filter_cons_of_pos (by simpa using this)]
          · rcases List.mem_cons.mp hp with e | e
            · subst e; exact ⟨by simpa using c, cm⟩
            · exact e3 p e
    obtain ⟨zs, rfl, e2, e3⟩ := go _ _ hy
    have zl : zs.length + (fndP rows).length = w := by
      have a := congrArg List.length e2
      rw [List.length_map, count_free S.nd (fun t ht => tw t (hasT_iff.mpr ht)), List.length_map] at a
      have := S.kl
      rw [← S.fnd]; omega
    have nd2 : (zs.map (·.2)).Nodup := by rw [e2]; exact (List.nodup_range).filter _
    have lt2 : ∀ p ∈ zs, p.2 < w := fun p hp => by
      have : p.2 ∈ zs.map (·.2) := List.mem_map.mpr ⟨p, hp, rfl⟩
      rw [e2] at this
      exact List.mem_range.mp (List.mem_filter.mp this).1
    have evX : ∀ (a b : Nat), (∀ v, Span rows v → par (v &&& a) = false) → (∀ v, Span rows v → par (v &&& b) = false) → ∀ v, Span rows v → par (v &&& (a ^^^ b)) = false := fun a b h1 h2 v hv => by
      rw [and_xor', par_xor, h1 v hv, h2 v hv]; rfl
    have full : ∀ m, m < 2 ^ w → (∀ v, Span rows v → par (v &&& m) = false) → Span (zs.map (·.1)) m := fun m hm hev => by
      have build : ∀ xs : List (Nat × Nat), (∀ p ∈ xs, p ∈ zs) → (xs.map (·.2)).Nodup → ∃ X, Span (zs.map (·.1)) X ∧ (∀ v, Span rows v → par (v &&& X) = false) ∧ ∀ b, hasT z.1 (b + 1) = false → (X.testBit b = true ↔ m.testBit b = true ∧ b ∈ xs.map (·.2)) := by
        intro xs
        induction xs with
        | nil => exact fun _ _ => ⟨0, Span.zero _, fun v _ => by rw [Nat.and_zero, par_zero], fun b _ => Iff.intro (fun h => (by rw [Nat.zero_testBit] at h; cases h)) (fun h => (by cases h.2))⟩
        | cons p xs ih =>
          intro hx hn
          rw [List.map_cons, List.nodup_cons] at hn
          obtain ⟨X, h1, h2, h3⟩ := ih (fun q hq => hx q (List.mem_cons_of_mem _ hq)) hn.2
          have pm := hx p (List.mem_cons_self ..)
          have pc := e3 p pm
          by_cases q : m.testBit p.2 = true
          · refine ⟨X ^^^ p.1, h1.xor (Span.mem (List.mem_map.mpr ⟨p, pm, rfl⟩)), evX _ _ h2 pc.2.ev, fun b hb => ?_⟩
            rw [Nat.testBit_xor, List.map_cons, List.mem_cons]
            have o := pc.2.own b hb
            by_cases eb : b = p.2
            · subst eb
              have : X.testBit p.2 = false := Bool.eq_false_iff.mpr fun h => hn.1 ((h3 _ hb).mp h).2
              rw [this, o.mpr rfl]
              exact ⟨fun _ => ⟨q, .inl rfl⟩, fun _ => rfl⟩
            · have : p.1.testBit b = false := Bool.eq_false_iff.mpr fun h => eb (o.mp h)
              rw [this, Bool.xor_false, h3 b hb]
              exact ⟨fun h => ⟨h.1, .inr h.2⟩, fun h => ⟨h.1, h.2.resolve_left eb⟩⟩
          · refine ⟨X, h1, h2, fun b hb => ?_⟩
            rw [h3 b hb, List.map_cons, List.mem_cons]
            exact ⟨fun h => ⟨h.1, .inr h.2⟩, fun h => ⟨h.1, h.2.resolve_left fun e => q (by rw [← e]; exact h.1)⟩⟩
      obtain ⟨X, h1, h2, h3⟩ := build zs (fun _ h => h) nd2
      have e : m ^^^ X = 0 := by
        refine Nat.eq_of_testBit_eq fun i => ?_
        rw [Nat.zero_testBit]
        induction i using Nat.strongRecOn with
        | ind i ih =>
          refine Bool.eq_false_iff.mpr fun hb => ?_
          by_cases c : hasT z.1 (i + 1) = true
          · obtain ⟨l, p, hv⟩ := kept_has c
            obtain ⟨l0, lb, lc, lp⟩ := S.ki.ent _ l p hv
            have lt : l.testBit i = true := by have := bits_bit l0; rwa [lb, Nat.add_sub_cancel] at this
            have e4 : l &&& (m ^^^ X) = 2 ^ i := Nat.eq_of_testBit_eq fun j => by
              rw [Nat.testBit_and, Nat.testBit_two_pow]
              rcases Nat.lt_trichotomy j i with o | o | o
              · rw [ih j o, Bool.and_false, decide_eq_false (by omega)]
              · subst o
                rw [hb, lt, decide_eq_true rfl]; rfl
              · rw [testBit_big (lt_bits l) (by omega), Bool.false_and, decide_eq_false (by omega)]
            have := evX m X hev h2 l ⟨p, lc⟩
            rw [e4, par_two_pow] at this; cases this
          · have c' : hasT z.1 (i + 1) = false := by simpa using c
            rw [Nat.testBit_xor] at hb
            by_cases iw : i < w
            · have im : i ∈ zs.map (·.2) := by
                rw [e2]
                exact List.mem_filter.mpr ⟨List.mem_range.mpr iw, decide_eq_true fun z0 => c (hasT_iff.mpr z0)⟩
              have h3' := h3 i c'
              by_cases mi : m.testBit i = true
              · rw [mi, h3'.mpr ⟨mi, im⟩] at hb; cases hb
              · have xi : X.testBit i = false := Bool.eq_false_iff.mpr fun h => mi (h3'.mp h).1
                rw [xi] at hb
                exact mi (by simpa using hb)
            · rw [testBit_big hm (by omega)] at hb
              have := ((h3 i c').mp (by simpa using hb)).1
              rw [testBit_big hm (by omega)] at this; cases this
      rw [xor0 e]; exact h1
    refine h zs ⟨?_, fun p hp => ((e3 p hp).2.own p.2 (e3 p hp).1).mpr rfl⟩ zl (fun p hp => ⟨(e3 p hp).2.low w (lt2 p hp) fun t ht => (tw t ht).2, (e3 p hp).2.ev⟩) full
    refine List.Pairwise.imp_of_mem (fun {p q} hp hq hne => ?_) (List.pairwise_map.mp nd2)
    refine ⟨Bool.eq_false_iff.mpr fun e => ?_, Bool.eq_false_iff.mpr fun e => ?_⟩
    · exact hne (((e3 p hp).2.own q.2 (e3 q hq).1).mp e).symm
    · exact hne (((e3 q hq).2.own p.2 (e3 p hp).1).mp e)
end My
namespace My
open Wk PySem
theorem det_even (number1 : Nat) : Det (W_even number1) := by
  show Det (fun R => W_even number1 R)
  unfold W_even
  exact (Det.while_ (fun ⟨many1, number2⟩ => (Det.lf0a _)) (fun ⟨many1, number2⟩ => (Det.alleq (Det.alleq (Det.lf0rl _)))) (fun ⟨many1, number2⟩ => (Det.lf0a _)) _)
theorem det_Steps_lowered (kept1 : List (Nat × (Nat × Nat))) (row1 : Nat) (places1 : Nat) : Det (W_Steps_lowered kept1 row1 places1) := by
  show Det (fun R => W_Steps_lowered kept1 row1 places1 R)
  unfold W_Steps_lowered
  exact (Det.while_ (fun ⟨row2, places2⟩ => (Det.lf0a _)) (fun ⟨row2, places2⟩ => (Det.ex fun x3 => (Det.and fun _ => (Det.alleq (Det.alleq (Det.lf0rl _)))))) (fun ⟨row2, places2⟩ => (Det.lf0a _)) _)
theorem det_Steps_crossing (self1 : List (Nat × (Nat × Nat)) × List Nat × List Nat) (bit1 : Nat) : Det (W_Steps_crossing self1 bit1) := by
  show Det (fun R => W_Steps_crossing self1 bit1 R)
  unfold W_Steps_crossing
  exact (Det.and fun _ => (Det.alleq (Det.and fun _ => (Det.sorted fun ys1 => (Det.for_ (fun top1 mask2 => (Det.ex fun x2 => (Det.and fun _ => (Det.ex fun x3 => (Det.and fun _ => (Det.alleq (Det.call (det_even _) fun z1 => (Det.ite (Det.lf0rl _) (Det.and fun _ => (Det.and fun _ => (Det.alleq (Det.lf0rl _)))))))))))) (fun mask2 => (Det.lf0a _)) _ _)))))
theorem det_Steps___init__ (rows1 : List Nat) : Det (W_Steps___init__ rows1) := by
  show Det (fun R => W_Steps___init__ rows1 R)
  unfold W_Steps___init__
  exact (Det.for_ (fun it1 ⟨self_gone1, self_kept1, self_found1⟩ => (Det.and fun _ => (Det.call (det_Steps_lowered _ _ _) fun z1 => (Det.ite (Det.and fun _ => (Det.lf0rl _)) (Det.and fun _ => (Det.and fun _ => (Det.lf0rl _))))))) (fun ⟨self_gone1, self_kept1, self_found1⟩ => (Det.lf0a _)) _ _)
theorem det_across (rows1 : List Nat) (width1 : Nat) : Det (W_across rows1 width1) := by
  show Det (fun R => W_across rows1 width1 R)
  unfold W_across
  exact (Det.call (det_Steps___init__ _) fun z1 => (Det.and fun _ => (Det.comp_ (fun bit1 => (Det.ite (Det.call (det_Steps_crossing _ _) fun z2 => (Det.lf0r _)) (Det.lf0r _))) (fun ys1 => (Det.lf0a _)) _)))
end My
namespace My
open Wk
theorem fine_i {z : Int} : fineA (An.i z) := trivial
theorem w_is_whole {x : An} (hf : fineA x) {R : Bool → Prop} (h1 : ∀ z : Int, x = An.i z → R true) (h0 : (∀ z : Int, x ≠ An.i z) → R false) : W_is_whole x R := by
  show R (decide (_ ∧ _))
  by_cases h : ∃ z : Int, x = An.i z
  · rw [decide_eq_true ((isA_int x hf).mpr h)]
    obtain ⟨z, e⟩ := h
    exact h1 z e
  · rw [decide_eq_false (fun q => h ((isA_int x hf).mp q))]
    exact h0 fun z e => h ⟨z, e⟩
theorem w_is_mask {x : An} {w : Nat} (hf : fineA x) (hw : w < 100000000) {R : Bool → Prop} (h1 : okA x w → R true) (h0 : ¬ okA x w → R false) : W_is_mask x w R := by
  refine jnI (w_is_whole hf (fun z e => ?_) fun hn => ?_)
  · rw [if_pos rfl]
    refine ⟨z, e, hw, ?_⟩
    have hp : ((2 ^ w : Nat) : Int) = ((2 ^ w : Nat) : Int) := rfl
    by_cases h : ((0 : Nat) : Int) ≤ z ∧ z < ((2 ^ w : Nat) : Int)
    · rw [decide_eq_true h]
      refine h1 ⟨z.toNat, ?_, ?_⟩
      · rw [e, Int.toNat_of_nonneg (by have := h.1; omega)]
      · have := h.1; have := h.2; omega
    · rw [decide_eq_false h]
      refine h0 fun ⟨n, e2, hn⟩ => h ?_
      rw [e] at e2
      have e3 : z = (n : Int) := An.i.inj e2
      rw [e3]
      exact ⟨by omega, by omega⟩
  · rw [if_neg (by simp)]
    exact h0 fun ⟨n, e, _⟩ => hn _ e
theorem okA_nat {n w : Nat} : okA (An.i (n : Int)) w ↔ n < 2 ^ w := by
  constructor
  · rintro ⟨m, e, h⟩
    have e2 : (n : Int) = (m : Int) := An.i.inj e
    have : n = m := by omega
    rw [this]; exact h
  · exact fun h => ⟨n, rfl, h⟩
end My
namespace My
open Wk
theorem w_is_pairs {ps : List (Nat × Nat)} {most st inp : Nat} (hl : ps.length ≤ most) (hs : st < 100000000) (hi : inp < 100000000) (h : ∀ p ∈ ps, p.1 < 2 ^ st ∧ p.2 < 2 ^ inp) {R : Bool → Prop} (hR : R true) : W_is_pairs ps most st inp R := by
  unfold W_is_pairs
  rw [if_neg (by omega)]
  refine forW_unit (fun p hp nx bk hn => ?_) hR
  rw [if_neg (by simp)]
  refine jnI (w_is_mask fine_i hs (fun _ => ?_) fun q => absurd (okA_nat.mpr (h p hp).1) q)
  rw [if_pos rfl]
  refine w_is_mask fine_i hi (fun _ => ?_) fun q => absurd (okA_nat.mpr (h p hp).2) q
  show if (!true) = true then _ else _
  rw [if_neg (by simp)]; exact hn
theorem w_machine_init {M : Mach} (h : MOk M) {R : Mach → Prop} (hR : R M) : W_Machine___init__ M.1 M.2.1 M.2.2 R := by
  have h1 := h.i; have h2 := h.n; have h3 := h.o
  refine jnI (w_is_whole fine_i (fun z _ => ?_) fun q => absurd rfl (q _))
  rw [if_pos rfl, decide_eq_false (fun q => q ⟨Nat.zero_le _, h1⟩)]
  show if false = true then _ else _
  rw [if_neg (by simp)]
  refine jnI (w_is_pairs h2 (by omega) (by omega) h.mn ?_)
  rw [if_pos rfl]
  refine w_is_pairs h3 (by omega) (by omega) h.mo ?_
  show if (!true) = true then _ else _
  rw [if_neg (by simp)]; exact hR
theorem w_bit_of {p : Nat × Nat} {s r : Nat} {R : Nat → Prop} (h : R (bitf p s r).toNat) : W_bit_of p s r R := by
  refine w_even (w_even ?_)
  have e : decide ((!par (p.1 &&& s)) ≠ (!par (p.2 &&& r))) = bitf p s r := by
    unfold bitf
    cases par (p.1 &&& s) <;> cases par (p.2 &&& r) <;> decide
  rw [e]; exact h
theorem w_bits_by {ps : List (Nat × Nat)} {s r : Nat} (hl : ps.length ≤ 1000) {R : Nat → Prop} (h : R (bitsV ps s r)) : W_bits_by ps s r R := by
  refine w_bits (fun p => bitf p s r) (fun pre p post nx bk e hn => w_bit_of ?_) h
  have hp : pre.length < 1000000 := by rw [e, List.length_append] at hl; omega
  refine ⟨NShl_bit hp, ?_⟩
  rintro _ rfl
  rw [List.map_append] at hn
  have e2 := maskB_snoc (pre.map fun p => bitf p s r) (bitf p s r)
  rw [List.length_map] at e2
  rw [← e2]; exact hn
theorem w_need {M : Mach} {x : An} {w : Nat} {E : Prop} {R : Unit → Prop} (hf : fineA x) (hw : w < 100000000) (h1 : okA x w → R ()) (h0 : ¬ okA x w → E) : W_Machine_need M x w E R := by
  refine w_is_mask hf hw (fun q => ?_) fun q => ?_
  · rw [if_pos rfl]; exact h1 q
  · rw [if_neg (by simp)]; exact h0 q
/-- a turn -/
theorem w_step {M : Mach} (hM : MOk M) {x y : An} {E : Prop} {R : Nat × Nat → Prop} (fx : fineA x) (fy : fineA y) (h1 : ∀ s r : Nat, x = An.i (s : Int) → s < 2 ^ M.2.1.length → y = An.i (r : Int) → r < 2 ^ M.1 → R (outV M s r, nextV M s r)) (h0 : ¬ okA x M.2.1.length ∨ ¬ okA y M.1 → E) : W_Machine_step M x y E R := by
  have m1 := hM.i; have m2 := hM.n; have m3 := hM.o
  unfold W_Machine_step W_Machine_stores
  refine w_need fx (by omega) (fun ⟨s, ex, hs⟩ => ?_) fun q => h0 (.inl q)
  refine w_need fy (by omega) (fun ⟨r, ey, hr⟩ => ?_) fun q => h0 (.inr q)
  refine ⟨s, ex, r, ey, w_bits_by (by omega) ⟨s, ex, r, ey, w_bits_by (by omega) ?_⟩⟩
  exact h1 s r ex hs ey hr
theorem need_rows {M : Mach} (hM : MOk M) {E : Prop} {k : Unit → Prop} : ∀ {rows : List An}, (∀ r ∈ rows, fineA r) → ((∀ r ∈ rows, okA r M.1) → k ()) → ((∃ r ∈ rows, ¬ okA r M.1) → E) → forW rows () (fun row1 _ nx1 bk1 => W_Machine_need M row1 M.1 E fun z3 => nx1 ()) k
  | [], _, h1, _ => h1 (fun r hr => by cases hr)
  | r :: rows, hf, h1, h0 => by
    have m1 := hM.i
    show W_Machine_need M r M.1 E _
    refine w_need (hf r (List.mem_cons_self ..)) (by omega) (fun q => ?_) fun q => h0 ⟨r, List.mem_cons_self .., q⟩
    exact need_rows hM (fun x hx => hf x (List.mem_cons_of_mem _ hx)) (fun h => h1 fun x hx => (List.mem_cons.mp hx).elim (fun e => e ▸ q) (h x)) fun ⟨x, hx, hq⟩ => h0 ⟨x, List.mem_cons_of_mem _ hx, hq⟩
theorem rows_nat : ∀ {rows : List An} {w : Nat}, (∀ r ∈ rows, okA r w) → ∃ rs : List Nat, rows = rs.map anN ∧ ∀ r ∈ rs, r < 2 ^ w
  | [], _, _ => ⟨[], rfl, fun r hr => by cases hr⟩
  | r :: rows, w, h => by
    obtain ⟨n, e, hn⟩ := h r (List.mem_cons_self ..)
    obtain ⟨rs, e2, h2⟩ := rows_nat (rows := rows) fun x hx => h x (List.mem_cons_of_mem _ hx)
    exact ⟨n :: rs, by rw [e, e2]; rfl, fun x hx => (List.mem_cons.mp hx).elim (fun q => by rw [q]; exact hn) (h2 x)⟩
theorem map_anN_inj {rs qs : List Nat} (h : rs.map anN = qs.map anN) : rs = qs := by
  induction rs generalizing qs with
  | nil => cases qs with
    | nil => rfl
    | cons q qs => cases h
  | cons r rs ih =>
    cases qs with
    | nil => cases h
    | cons q qs =>
      rw [List.map_cons, List.map_cons] at h
      injection h with h1 h2
      have : (r : Int) = (q : Int) := An.i.inj h1
      rw [ih h2, show r = q by omega]
/-- a walk over rows -/
theorem w_walk {M : Mach} (hM : MOk M) {rows : List An} {x : An} {E : Prop} {R : List Nat × Nat → Prop} (hl : rows.length < 1000000) (fr : ∀ r ∈ rows, fineA r) (fx : fineA x)
    (h1 : ∀ (rs : List Nat) (s : Nat), rows = rs.map anN → (∀ r ∈ rs, r < 2 ^ M.1) → x = An.i (s : Int) → s < 2 ^ M.2.1.length → R (walkV M rs s)) (h0 : ¬ okA x M.2.1.length ∨ (∃ r ∈ rows, ¬ okA r M.1) → E) : W_Machine_walk M rows x E R := by
  have m1 := hM.i; have m2 := hM.n
  unfold W_Machine_walk W_Machine_stores
  refine w_need fx (by omega) (fun ⟨s, ex, hs⟩ => ?_) fun q => h0 (.inl q)
  refine need_rows hM fr (fun hr => ?_) fun q => h0 (.inr q)
  refine ⟨s, ex, ?_⟩
  obtain ⟨rs, er, hrs⟩ := rows_nat hr
  have fin := h1 rs s er hrs ex hs
  subst er
  rw [List.length_map] at hl
  refine forW_ind (fun pre (t : Nat × List Nat) => ∃ ps, pre = ps.map anN ∧ t = ((walkV M ps s).2, (walkV M ps s).1)) ⟨[], rfl, rfl⟩ (fun pre y post t nx bk e ⟨ps, ep, et⟩ hn _ => ?_) fun t ⟨ps, ep, et⟩ => ?_
  · subst ep et
    have hy : y ∈ rs.map anN := by rw [e]; simp
    obtain ⟨r, hr, ey⟩ := List.mem_map.mp hy
    have le : ps.length < rs.length := by
      have := congrArg List.length e
      rw [List.length_map, List.length_append, List.length_map, List.length_cons] at this; omega
    show W_Machine_step _ _ _ _ _
    refine w_step hM fine_i (by rw [← ey]; exact fine_i) (fun s' r' es hs' er' hr' => ?_) fun q => ?_
    · have es' : (((walkV M ps s).2 : Nat) : Int) = (s' : Int) := An.i.inj es
      have es2 : s' = (walkV M ps s).2 := by omega
      subst es2
      refine ⟨by show (walkV M ps s).1.length < 1000000; rw [walkV_len]; omega, hn _ ⟨ps ++ [r'], by rw [er', List.map_append]; rfl, ?_⟩⟩
      rw [walkV_snoc]
    · rcases q with q | q
      · exact absurd (okA_nat.mpr (walkV_lt hs)) q
      · rw [← ey] at q; exact absurd (okA_nat.mpr (hrs r hr)) q
  · subst et
    have : rs = ps := map_anN_inj ep
    subst this
    exact fin
theorem fine_nats (rs : List Nat) : ∀ r ∈ rs.map anN, fineA r := fun r hr => by
  obtain ⟨n, _, e⟩ := List.mem_map.mp hr
  rw [← e]; exact fine_i
/-- .. of numbers that are masks -/
theorem w_walkN {M : Mach} (hM : MOk M) {rs : List Nat} {s : Nat} {E : Prop} {R : List Nat × Nat → Prop} (hl : rs.length < 1000000) (hr : ∀ r ∈ rs, r < 2 ^ M.1) (hs : s < 2 ^ M.2.1.length) (h : R (walkV M rs s)) : W_Machine_walk M (rs.map anN) (An.i (s : Int)) E R := by
  refine w_walk hM (by rw [List.length_map]; exact hl) (fine_nats rs) fine_i (fun rs' s' e _ es _ => ?_) fun q => ?_
  · have e1 := map_anN_inj e
    have e2 : (s : Int) = (s' : Int) := An.i.inj es
    have e3 : s = s' := by omega
    subst e1 e3; exact h
  · rcases q with q | ⟨r, hr', q⟩
    · exact absurd (okA_nat.mpr hs) q
    · obtain ⟨n, hn, e⟩ := List.mem_map.mp hr'
      rw [← e] at q; exact absurd (okA_nat.mpr (hr n hn)) q
theorem w_stepN {M : Mach} (hM : MOk M) {s r : Nat} {E : Prop} {R : Nat × Nat → Prop} (hs : s < 2 ^ M.2.1.length) (hr : r < 2 ^ M.1) (h : R (outV M s r, nextV M s r)) : W_Machine_step M (An.i (s : Int)) (An.i (r : Int)) E R := by
  refine w_step hM fine_i fine_i (fun s' r' e1 _ e2 _ => ?_) fun q => ?_
  · have e3 : (s : Int) = (s' : Int) := An.i.inj e1
    have e4 : (r : Int) = (r' : Int) := An.i.inj e2
    have e5 : s = s' := by omega
    have e6 : r = r' := by omega
    subst e5 e6; exact h
  · rcases q with q | q
    · exact absurd (okA_nat.mpr hs) q
    · exact absurd (okA_nat.mpr hr) q
end My
namespace My
open Wk
def fineL : An → Prop
  | .o T => T ≠ "list"
  | .l xs => ∀ x ∈ xs, fineA x
  | _ => True
theorem need_rows2 {w : Nat} (hw : w ≤ 1000) {E : Prop} {k : Unit → Prop} : ∀ {rows : List An}, (∀ r ∈ rows, fineA r) → ((∀ r ∈ rows, okA r w) → k ()) → ((∃ r ∈ rows, ¬ okA r w) → E) → forW rows () (fun row1 _ nx1 bk1 => W_is_mask row1 w fun z1 => if z1 = true then (nx1 ()) else (E)) k
  | [], _, h1, _ => h1 (fun r hr => by cases hr)
  | r :: rows, hf, h1, h0 => by
    show W_is_mask r w _
    refine w_is_mask (hf r (List.mem_cons_self ..)) (by omega) (fun q => ?_) fun q => ?_
    · rw [if_pos rfl]
      exact need_rows2 hw (fun x hx => hf x (List.mem_cons_of_mem _ hx)) (fun h => h1 fun x hx => (List.mem_cons.mp hx).elim (fun e => e ▸ q) (h x)) fun ⟨x, hx, hq⟩ => h0 ⟨x, List.mem_cons_of_mem _ hx, hq⟩
    · rw [if_neg (by simp)]; exact h0 ⟨r, List.mem_cons_self .., q⟩
theorem isA_list (x : An) (h : fineL x) : isA "list" x = true ↔ ∃ xs, x = An.l xs := by
  cases x with
  | i z => exact ⟨fun q => by simp [isA, An.ty] at q, fun ⟨z, e⟩ => by cases e⟩
  | b z => exact ⟨fun q => by simp [isA, An.ty] at q, fun ⟨z, e⟩ => by cases e⟩
  | n => exact ⟨fun q => by simp [isA, An.ty] at q, fun ⟨z, e⟩ => by cases e⟩
  | s z => exact ⟨fun q => by simp [isA, An.ty] at q, fun ⟨z, e⟩ => by cases e⟩
  | o T =>
    have h : T ≠ "list" := h
    exact ⟨fun q => by simp [isA, An.ty, h] at q, fun ⟨z, e⟩ => by cases e⟩
  | l xs => exact ⟨fun _ => ⟨xs, rfl⟩, fun _ => by simp [isA, An.ty]⟩
  | t xs => exact ⟨fun q => by simp [isA, An.ty] at q, fun ⟨z, e⟩ => by cases e⟩
theorem fine_rows (ns : List Nat) : fineL (An.l (ns.map anN)) := fun x hx => fine_nats ns x hx
theorem flat_rep (n : Nat) : (List.replicate n [0]).flatten = List.replicate n (0 : Nat) := by
  induction n with
  | zero => rfl
  | succ n ih => rw [List.replicate_succ, List.flatten_cons, ih, List.replicate_succ]; rfl
end My
namespace My
open Wk
theorem w_masks {c : Int} {st n w : Nat} {d : Bool} (hn : n ≤ 64) (hw : w ≤ 16) {R : List Nat → Prop} (h : ∀ l : List Nat, l.length = n → (∀ x ∈ l, x < 2 ^ w) → R l) : W_masks c st n w d R := by
  have hm : n * w ≤ 1024 := Nat.mul_le_mul hn hw
  refine ⟨.inl (by omega), by omega, ?_⟩
  rintro _ rfl
  refine ⟨by omega, forW_ind (fun pre (s : List Nat × Nat) => s.1.length = pre.length ∧ ∀ x ∈ s.1, x < 2 ^ w) ⟨rfl, fun x hx => by cases hx⟩ (fun pre k post s nx bk e hs hnx _ => ?_) fun s hs => ?_⟩
  · obtain ⟨found, left⟩ := s
    obtain ⟨h1, h2⟩ := hs
    have h1 : found.length = pre.length := h1
    have hl : pre.length < n := by
      have := congrArg List.length e
      rw [List.length_range, List.length_append, List.length_cons] at this; omega
    have snoc : ∀ y, y < 2 ^ w → (found ++ [y]).length = (pre ++ [k]).length ∧ ∀ x ∈ found ++ [y], x < 2 ^ w := fun y hy => by
      refine ⟨by rw [List.length_append, List.length_append, h1]; rfl, fun x hx => ?_⟩
      rcases List.mem_append.mp hx with q | q
      · exact h2 x q
      · rw [List.mem_singleton.mp q]; exact hy
    show if d = true then _ else _
    by_cases hd : d = true
    · rw [if_pos hd]
      refine ⟨by omega, by omega, by omega, NDiv_pow (by omega), ?_⟩
      rintro _ rfl
      exact hnx _ (snoc _ (Nat.mod_lt _ (Nat.two_pow_pos w)))
    · rw [if_neg hd]
      refine w_mix ⟨by omega, by omega, hnx _ (snoc _ (Nat.mod_lt _ (Nat.two_pow_pos w)))⟩
  · refine h _ ?_ hs.2
    rw [hs.1, List.length_range]
theorem and_lt {a b w : Nat} (h : a < 2 ^ w) : a &&& b < 2 ^ w := Nat.lt_of_le_of_lt Nat.and_le_left h
theorem w_thinned {l : List Nat} {c : Int} {st way w : Nat} (hl : l.length ≤ 16) (hw : l.length ≤ w) (hm : ∀ x ∈ l, x < 2 ^ w) {R : List Nat → Prop} (h : ∀ l' : List Nat, l'.length = l.length → (∀ x ∈ l', x < 2 ^ w) → R l') : W_thinned l c st way R := by
  refine forW_enum (fun pre (s : List Nat) => s.length = pre.length ∧ ∀ x ∈ s, x < 2 ^ w) ⟨rfl, fun x hx => by cases hx⟩ (fun pre p post s nx bk e hs hnx => ?_) fun s hs => h s hs.1 hs.2
  obtain ⟨h1, h2⟩ := hs
  have hlen : pre.length < l.length := by rw [e, List.length_append, List.length_cons]; omega
  have hp : p < 2 ^ w := hm p (by rw [e]; simp)
  have fin : ∀ y, y < 2 ^ w → s.length < 1000000 ∧ nx (s ++ [y]) := fun y hy => by
    refine ⟨by omega, hnx _ ⟨by rw [List.length_append, List.length_append, h1]; rfl, fun x hx => ?_⟩⟩
    rcases List.mem_append.mp hx with q | q
    · exact h2 x q
    · rw [List.mem_singleton.mp q]; exact hy
  have s3 : ∀ y, y < 2 ^ w → jn (fun kk => if way = 3 then (∃ x7, [43690, 21845][pre.length % 2]? = some x7 ∧ ∀ mask7 : Nat, mask7 = y &&& x7 → kk mask7) else (kk y)) fun mask6 => (s.length < 1000000) ∧ nx (s ++ [mask6]) := fun y hy => by
    refine jnI ?_
    by_cases q : way = 3
    · rw [if_pos q]
      rcases Nat.mod_two_eq_zero_or_one pre.length with f | f
      · rw [f]; refine ⟨_, rfl, ?_⟩; rintro _ rfl; exact fin _ (and_lt hy)
      · rw [f]; refine ⟨_, rfl, ?_⟩; rintro _ rfl; exact fin _ (and_lt hy)
    · rw [if_neg q]; exact fin _ hy
  have s2 : ∀ y, y < 2 ^ w → jn (fun kk => if (way = 2) ∧ (0 < pre.length) then ((1 ≤ pre.length) ∧ (pre.length - 1 < 100000000) ∧ ∀ mask5 : Nat, mask5 = 2 ^ (pre.length - 1) → kk mask5) else (kk y)) fun mask4 => jn (fun kk => if way = 3 then (∃ x7, [43690, 21845][pre.length % 2]? = some x7 ∧ ∀ mask7 : Nat, mask7 = mask4 &&& x7 → kk mask7) else (kk mask4)) fun mask6 => (s.length < 1000000) ∧ nx (s ++ [mask6]) := fun y hy => by
    refine jnI ?_
    by_cases q : (way = 2) ∧ (0 < pre.length)
    · rw [if_pos q]
      have q2 := q.2
      refine ⟨by omega, by omega, ?_⟩
      rintro _ rfl
      exact s3 _ (Nat.pow_lt_pow_right (by decide) (by omega))
    · rw [if_neg q]; exact s3 _ hy
  refine jnI ?_
  show if way = 1 then _ else _
  by_cases q : way = 1
  · rw [if_pos q]
    refine w_mix ?_
    rintro _ rfl
    exact s2 _ (and_lt hp)
  · rw [if_neg q]; exact s2 _ hp
theorem comp_and {l : List Nat} {w : Nat} (hl : l.length ≤ 16) (hm : ∀ x ∈ l, x < 2 ^ w) {bd : Nat × Nat → (Option Nat → Prop) → Prop} {K : List Nat → Prop} (hb : ∀ it kk, (∀ y, kk (some (it.2 &&& y))) → bd it kk) (h : ∀ l' : List Nat, l'.length = l.length → (∀ x ∈ l', x < 2 ^ w) → K l') : (enumT l).length < 1000000 ∧ compW (enumT l) bd K := by
  refine ⟨by rw [enumT_len]; omega, compW_rel (fun it o => ∃ y, o = some (it.2 &&& y)) (fun it hit kk hk => hb it kk fun y => hk _ ⟨y, rfl⟩) fun ys hys => ?_⟩
  have key : ∀ (xs : List (Nat × Nat)) (ys : List Nat), CR (fun (it : Nat × Nat) (o : Option Nat) => ∃ y, o = some (it.2 &&& y)) xs ys → (∀ x ∈ xs, x.2 < 2 ^ w) → ys.length = xs.length ∧ ∀ x ∈ ys, x < 2 ^ w := by
    intro xs
    induction xs with
    | nil => rintro ys rfl _; exact ⟨rfl, fun x hx => by cases hx⟩
    | cons x xs ih =>
      rintro ys ⟨o, ys', ⟨y, eo⟩, ey, hc⟩ hx
      obtain ⟨a, b⟩ := ih ys' hc fun z hz => hx z (List.mem_cons_of_mem _ hz)
      subst eo ey
      refine ⟨by show (_ :: ys').length = _; rw [List.length_cons, a]; rfl, fun z hz => ?_⟩
      have hz' : z = x.2 &&& y ∨ z ∈ ys' := List.mem_cons.mp hz
      rcases hz' with q | q
      · rw [q]; exact and_lt (hx x (List.mem_cons_self ..))
      · exact b z q
  obtain ⟨a, b⟩ := key _ _ hys fun x hx => hm _ (by rw [← enumT_snd l]; exact List.mem_map_of_mem hx)
  exact h ys (by rw [a, enumT_len]) b
theorem zip_ok {n w v : Nat} {a b : List Nat} (ha : a.length = n) (hb : b.length = n) (h1 : ∀ x ∈ a, x < 2 ^ w) (h2 : ∀ x ∈ b, x < 2 ^ v) : (a.zip b).length = n ∧ ∀ p ∈ a.zip b, p.1 < 2 ^ w ∧ p.2 < 2 ^ v := by
  refine ⟨by rw [List.length_zip, ha, hb, Nat.min_self], fun p hp => ?_⟩
  obtain ⟨x, y⟩ := p
  have := List.of_mem_zip hp
  exact ⟨h1 _ this.1, h2 _ this.2⟩
/-- a drawn machine -/
structure Drawn (most : Nat) (M : Mach) : Prop extends MOk M where
  n16 : M.2.1.length ≤ 16
theorem w_lmachine {s : List Int} {st most : Nat} (hmost : most ≤ 16) {R : Mach → Prop} (h : ∀ M, Drawn most M → R M) : W_machine s st most R := by
  refine w_cell ⟨by omega, ?_⟩
  rintro _ rfl
  rintro stores he
  have hst : stores ≤ 16 := by
    rw [he]
    have a : ∀ z : Int, modN z (most + 1) < most + 1 := fun z => modN_lt (by omega)
    have b : ∀ z : Int, modN z 17 < 17 := fun z => modN_lt (by decide)
    have a1 := a (cellV s st / ((2 : Nat) : Int))
    have b1 := b (cellV s st / ((512 : Nat) : Int))
    by_cases q : modN (cellV s st / ((64 : Nat) : Int)) 8 = 5
    · rw [if_pos q]; omega
    · rw [if_neg q]; omega
  clear he
  refine w_mix ?_
  rintro inp0 hi0
  refine w_mix ?_
  rintro out0 ho0
  have rest : ∀ inp out, inp ≤ 6 → out ≤ 6 → ∀ digits1 : Bool, digits1 = decide ((modN (cellV s st) 2) = 0) → W_mix (cellV s st) 3 fun z6 => ∀ way1 : Nat, way1 = z6 % 5 → W_cell s (st + 1) fun z7 => W_masks z7 100 stores stores digits1 fun z8 => W_cell s (st + 2) fun z9 => W_masks z9 140 stores inp digits1 fun z10 => jn (fun kk => if ¬ (digits1 = true) then (W_cell s (st + 1) fun z11 => W_thinned z8 z11 180 way1 fun z12 => if 0 < way1 then (((enumT z10).length < 1000000) ∧ compW (enumT z10) (fun it1 kk => W_cell s (st + 2) fun z13 => W_mix z13 (220 + it1.1) fun z14 => kk (some (it1.2 &&& z14))) fun ys1 => kk (z12, ys1)) else (kk (z12, z10))) else (kk (z8, z10))) fun (one1, other1) => W_cell s (st + 3) fun z15 => W_masks z15 260 out stores digits1 fun z16 => W_cell s (st + 4) fun z17 => W_masks z17 280 out inp digits1 fun z18 => jn (fun kk => if (¬ (digits1 = true)) ∧ (1 < way1) then (((enumT z16).length < 1000000) ∧ compW (enumT z16) (fun it2 kk => W_cell s (st + 3) fun z19 => W_mix z19 (300 + it2.1) fun z20 => kk (some (it2.2 &&& z20))) fun ys2 => kk ys2) else (kk z16)) fun shown1 => jn (fun kk => if (¬ (digits1 = true)) ∧ (2 < way1) then ((z18.length < 1000000) ∧ compW z18 (fun mask3 kk => kk (some 0)) fun ys3 => kk ys3) else (kk z18)) fun straight1 => R (inp, one1.zip other1, shown1.zip straight1) := by
    intro inp out hi ho d _
    refine w_mix ?_
    intro way _
    refine w_cell (w_masks (by omega) hst fun z8 l8 m8 => w_cell (w_masks (by omega) (by omega) fun z10 l10 m10 => jnI ?_))
    have fin : ∀ one other : List Nat, one.length = stores → (∀ x ∈ one, x < 2 ^ stores) → other.length = stores → (∀ x ∈ other, x < 2 ^ inp) → W_cell s (st + 3) fun z15 => W_masks z15 260 out stores d fun z16 => W_cell s (st + 4) fun z17 => W_masks z17 280 out inp d fun z18 => jn (fun kk => if (¬ (d = true)) ∧ (1 < way) then (((enumT z16).length < 1000000) ∧ compW (enumT z16) (fun it2 kk => W_cell s (st + 3) fun z19 => W_mix z19 (300 + it2.1) fun z20 => kk (some (it2.2 &&& z20))) fun ys2 => kk ys2) else (kk z16)) fun shown1 => jn (fun kk => if (¬ (d = true)) ∧ (2 < way) then ((z18.length < 1000000) ∧ compW z18 (fun mask3 kk => kk (some 0)) fun ys3 => kk ys3) else (kk z18)) fun straight1 => R (inp, one.zip other, shown1.zip straight1) := by
      intro one other l1 m1 l2 m2
      refine w_cell (w_masks (by omega) hst fun z16 l16 m16 => w_cell (w_masks (by omega) (by omega) fun z18 l18 m18 => jnI ?_))
      have end2 : ∀ shown : List Nat, shown.length = out → (∀ x ∈ shown, x < 2 ^ stores) → jn (fun kk => if (¬ (d = true)) ∧ (2 < way) then ((z18.length < 1000000) ∧ compW z18 (fun mask3 kk => kk (some 0)) fun ys3 => kk ys3) else (kk z18)) fun straight1 => R (inp, one.zip other, shown.zip straight1) := by
        intro shown l3 m3
        refine jnI ?_
        have end3 : ∀ str : List Nat, str.length = out → (∀ x ∈ str, x < 2 ^ inp) → R (inp, one.zip other, shown.zip str) := by
          intro str l4 m4
          obtain ⟨a1, a2⟩ := zip_ok l1 l2 m1 m2
          obtain ⟨b1, b2⟩ := zip_ok l3 l4 m3 m4
          exact h _ { i := hi, n := by show (one.zip other).length ≤ 120; omega, o := by show (shown.zip str).length ≤ 6; omega, mn := by show ∀ p ∈ one.zip other, p.1 < 2 ^ (one.zip other).length ∧ p.2 < 2 ^ inp; rw [a1]; exact a2, mo := by show ∀ p ∈ shown.zip str, p.1 < 2 ^ (one.zip other).length ∧ p.2 < 2 ^ inp; rw [a1]; exact b2, n16 := by show (one.zip other).length ≤ 16; omega }
        by_cases q : (¬ (d = true)) ∧ (2 < way)
        · rw [if_pos q]
          refine ⟨by omega, compW_map (fun _ => 0) (fun x _ kk hk => hk) (end3 _ (by rw [List.length_map, l18]) fun x hx => ?_)⟩
          obtain ⟨_, _, e⟩ := List.mem_map.mp hx
          rw [← e]; exact Nat.two_pow_pos _
        · rw [if_neg q]; exact end3 _ l18 m18
      by_cases q : (¬ (d = true)) ∧ (1 < way)
      · rw [if_pos q]
        exact comp_and (by omega) m16 (fun it kk hk => w_cell (w_mix (hk _))) fun l' a b => end2 l' (by omega) b
      · rw [if_neg q]; exact end2 _ l16 m16
    by_cases q : ¬ (d = true)
    · rw [if_pos q]
      refine w_cell (w_thinned (by omega) (by omega) m8 fun z12 l12 m12 => ?_)
      by_cases q2 : 0 < way
      · rw [if_pos q2]
        exact comp_and (by omega) m10 (fun it kk hk => w_cell (w_mix (hk _))) fun l' a b => fin _ _ (by omega) m12 (by omega) b
      · rw [if_neg q2]; exact fin _ _ (by omega) m12 l10 m10
    · rw [if_neg q]; exact fin _ _ l8 m8 l10 m10
  refine jnI ?_
  by_cases q : modN (cellV s st / ((64 : Nat) : Int)) 8 = 6
  · rw [if_pos q]
    refine w_mix ?_
    intro i3 hi3
    refine w_mix ?_
    intro o3 ho3
    exact rest i3 o3 (by omega) (by omega)
  · rw [if_neg q]; exact rest inp0 out0 (by omega) (by omega)
end My
namespace My
open Wk
theorem w_back {M : Mach} (hM : MOk M) {x : An} {E : Prop} {R : Nat × Nat → Prop} (fx : fineA x) (h1 : ∀ m : Nat, x = An.i (m : Int) → m < 2 ^ M.2.1.length → R (backV M m)) (h0 : ¬ okA x M.2.1.length → E) : W_Machine_back M x E R := by
  have m2 := hM.n
  unfold W_Machine_back W_Machine_stores
  refine w_need fx (by omega) (fun ⟨m, ex, hm⟩ => ?_) fun q => h0 q
  refine ⟨m, ex, w_bits_of (k := M.2.1.length) (by omega) hm ?_⟩
  refine forW_fold (fun (t : Nat × Nat) p => (t.1 ^^^ (M.2.1.getD p (0, 0)).1, t.2 ^^^ (M.2.1.getD p (0, 0)).2)) (fun p hp s nx bk hn => ?_) ?_
  · obtain ⟨hp1, _⟩ := mem_bl.mp hp
    have e : M.2.1[p]? = some (M.2.1.getD p (0, 0)) := by rw [List.getD_eq_getElem?_getD, List.getElem?_eq_getElem hp1]; rfl
    refine ⟨_, e, _, e, ?_⟩
    rintro _ rfl
    refine ⟨_, e, _, e, ?_⟩
    rintro _ rfl
    exact hn
  · have q := h1 m ex hm
    rw [back_fold M.2.1 m _ (Nat.le_refl _), List.take_length]
    exact q
theorem w_backN {M : Mach} (hM : MOk M) {m : Nat} {E : Prop} {R : Nat × Nat → Prop} (hm : m < 2 ^ M.2.1.length) (h : R (backV M m)) : W_Machine_back M (An.i (m : Int)) E R :=
  w_back hM fine_i (fun m' e _ => by
    have e2 : (m : Int) = (m' : Int) := An.i.inj e
    have e3 : m = m' := by omega
    subst e3; exact h) fun q => absurd (okA_nat.mpr hm) q
end My
namespace My
open Wk
theorem w_oddm {n : Nat} {R : Nat → Prop} (h : R (par n).toNat) : W_odd n R := by
  refine whileW_ind (fun s => xor (decide (s.1 % 2 = 1)) (par s.2) = par n) (fun s => s.2) (by simp) ?_
  rintro ⟨m, k⟩ nx (h1 : xor (decide (m % 2 = 1)) (par k) = par n) hn
  show if decide (0 < k) = true then _ else _
  by_cases hp : 0 < k
  · rw [if_pos (decide_eq_true hp)]
    rintro _ rfl _ rfl
    refine hn _ ?_ (by show k / 2 < k; omega)
    show xor (decide ((m + k % 2) % 2 = 1)) (par (k / 2)) = par n
    rw [← h1, par_step k, Nat.testBit_zero]
    rcases Nat.mod_two_eq_zero_or_one k with e | e <;> rcases Nat.mod_two_eq_zero_or_one m with f | f
    · rw [e, show (m + 0) % 2 = 0 by omega, f]; simp
    · rw [e, show (m + 0) % 2 = 1 by omega, f]; simp
    · rw [e, show (m + 1) % 2 = 1 by omega, f]; simp
    · rw [e, show (m + 1) % 2 = 0 by omega, f]; simp
  · rw [if_neg (by simpa using hp)]
    have : k = 0 := by omega
    subst this
    rw [par_zero] at h1
    show R (m % 2)
    have e : (par n).toNat = m % 2 := by
      rw [← h1]
      rcases Nat.mod_two_eq_zero_or_one m with f | f <;> rw [f] <;> rfl
    rw [← e]; exact h
theorem w_lbits {ps : List (Nat × Nat)} {s r : Nat} (hl : ps.length ≤ 1000) {R : Nat → Prop} (h : R (bitsV ps s r)) : W_bits ps s r R := by
  have sum : ∀ p : Nat × Nat, ((par (p.1 &&& s)).toNat + (par (p.2 &&& r)).toNat) % 2 = (bitf p s r).toNat := fun p => by
    unfold bitf; cases par (p.1 &&& s) <;> cases par (p.2 &&& r) <;> rfl
  refine w_bits (fun p => bitf p s r) (fun pre p post nx bk e hn => w_oddm (w_oddm ?_)) h
  have hp : pre.length < 1000000 := by rw [e, List.length_append] at hl; omega
  rw [sum p]
  refine ⟨by show pre.length < 100000000; omega, .inl (by cases bitf p s r <;> decide), ?_⟩
  rintro _ rfl
  rw [List.map_append] at hn
  have e2 := maskB_snoc (pre.map fun p => bitf p s r) (bitf p s r)
  rw [List.length_map, Nat.shiftLeft_eq] at e2
  rw [← e2]; exact hn
end My
namespace My
open Wk
theorem NShl_lt {a k w : Nat} (h : a < 2 ^ w) (hk : w + k < 100000000) : NShl a k := by
  unfold NShl
  by_cases q : a = 0
  · subst q; rw [Nat.log2_zero]; omega
  · have := (Nat.log2_lt q).mpr h
    omega
theorem par_two (y : Nat) : par (2 * y) = par y := by
  rw [par_step, Nat.testBit_zero, decide_eq_false (by omega), show 2 * y / 2 = y by omega]; simp
theorem par_shl (x : Nat) : ∀ m, par (x <<< m) = par x
  | 0 => rfl
  | m + 1 => by
    have e : x <<< (m + 1) = 2 * (x <<< m) := by rw [Nat.shiftLeft_eq, Nat.shiftLeft_eq, Nat.pow_succ, ← Nat.mul_assoc, Nat.mul_comm]
    rw [e, par_two, par_shl x m]
theorem par_pow_and (k s : Nat) : par (2 ^ k &&& s) = s.testBit k := by
  by_cases r : s.testBit k = true
  · have : 2 ^ k &&& s = 2 ^ k := Nat.eq_of_testBit_eq fun i => by
      rw [Nat.testBit_and, Nat.testBit_two_pow]
      by_cases o : k = i
      · subst o; rw [r]; simp
      · rw [decide_eq_false o]; rfl
    rw [this, par_two_pow, r]
  · have : 2 ^ k &&& s = 0 := Nat.eq_of_testBit_eq fun i => by
      rw [Nat.testBit_and, Nat.testBit_two_pow, Nat.zero_testBit]
      by_cases o : k = i
      · subst o; rw [decide_eq_true rfl]; simpa using r
      · rw [decide_eq_false o]; rfl
    rw [this, par_zero]; simpa using r
/-- two masks in two parts -/
theorem par_split {A B C D m : Nat} (hB : B < 2 ^ m) (hC : C < 2 ^ m) : par (((A <<< m) ||| B) &&& (C + D * 2 ^ m)) = xor (par (B &&& C)) (par (A &&& D)) := by
  have bit1 : ∀ j, ((A <<< m) ||| B).testBit j = if j < m then B.testBit j else A.testBit (j - m) := fun j => by
    rw [Nat.testBit_or, Nat.testBit_shiftLeft]
    by_cases q : j < m
    · rw [if_pos q, decide_eq_false (by omega)]; simp
    · rw [if_neg q, decide_eq_true (by omega), testBit_big hB (by omega)]; simp
  have bit2 : ∀ j, (C + D * 2 ^ m).testBit j = if j < m then C.testBit j else D.testBit (j - m) := fun j => by
    rw [Nat.add_comm, Nat.mul_comm, Nat.testBit_two_pow_mul_add D hC]
  have e : ((A <<< m) ||| B) &&& (C + D * 2 ^ m) = (B &&& C) ^^^ ((A &&& D) <<< m) := Nat.eq_of_testBit_eq fun j => by
    rw [Nat.testBit_and, bit1, bit2, Nat.testBit_xor, Nat.testBit_and, Nat.testBit_shiftLeft, Nat.testBit_and]
    by_cases q : j < m
    · rw [if_pos q, if_pos q, decide_eq_false (by omega)]; simp
    · rw [if_neg q, if_neg q, decide_eq_true (by omega), testBit_big hB (by omega)]; simp
  rw [e, par_xor, par_shl]
/-- the mask of all turns' bits on which a sum of the last state's bits hangs -/
def cmV (M : Mach) : Nat → Nat → Nat
  | _, 0 => 0
  | later, T + 1 => ((backV M later).2 <<< (T * M.1)) ||| cmV M (backV M later).1 T
theorem cm_lt {M : Mach} (hM : MOk M) : ∀ (T later : Nat), cmV M later T < 2 ^ (T * M.1)
  | 0, later => by show 0 < 2 ^ _; exact Nat.two_pow_pos _
  | T + 1, later => by
    have h := (back_lt hM later).2
    refine Nat.or_lt_two_pow ?_ ?_
    · rw [Nat.shiftLeft_eq, Nat.add_mul, Nat.one_mul, Nat.add_comm (T * M.1), Nat.pow_add]
      exact Nat.mul_lt_mul_of_pos_right h (Nat.two_pow_pos _)
    · exact Nat.lt_of_lt_of_le (cm_lt hM T _) (Nat.pow_le_pow_right (by decide) (Nat.mul_le_mul_right _ (by omega)))
def joinV (rows : List Nat) (i : Nat) : Nat := rows.foldr (fun r t => t * 2 ^ i + r) 0
theorem join_snoc (i r : Nat) : ∀ rows : List Nat, joinV (rows ++ [r]) i = joinV rows i + r * 2 ^ (rows.length * i)
  | [] => by show 0 * 2 ^ i + r = 0 + r * 2 ^ (0 * i); rw [Nat.zero_mul, Nat.zero_mul, Nat.pow_zero]; omega
  | q :: rows => by
    show joinV (rows ++ [r]) i * 2 ^ i + q = (joinV rows i * 2 ^ i + q) + r * 2 ^ ((rows.length + 1) * i)
    rw [join_snoc i r rows, Nat.add_mul, Nat.add_mul rows.length 1 i, Nat.one_mul, Nat.pow_add, Nat.mul_assoc]; omega
theorem join_lt {i : Nat} : ∀ {rows : List Nat}, (∀ r ∈ rows, r < 2 ^ i) → joinV rows i < 2 ^ (rows.length * i)
  | [], _ => Nat.two_pow_pos _
  | q :: rows, h => by
    have h1 := join_lt (rows := rows) fun r hr => h r (List.mem_cons_of_mem _ hr)
    have h2 := h q (List.mem_cons_self ..)
    show joinV rows i * 2 ^ i + q < 2 ^ ((rows.length + 1) * i)
    rw [Nat.add_mul, Nat.one_mul, Nat.pow_add]
    have : (joinV rows i + 1) * 2 ^ i ≤ 2 ^ (rows.length * i) * 2 ^ i := Nat.mul_le_mul_right _ h1
    rw [Nat.add_mul, Nat.one_mul] at this; omega
theorem join_pos {i : Nat} : ∀ {rows : List Nat}, 0 < joinV rows i ↔ ∃ r ∈ rows, 0 < r
  | [] => ⟨fun h => absurd h (Nat.lt_irrefl _), fun ⟨r, hr, _⟩ => by cases hr⟩
  | q :: rows => by
    show 0 < joinV rows i * 2 ^ i + q ↔ _
    have hp := Nat.two_pow_pos i
    constructor
    · intro h
      by_cases z : 0 < q
      · exact ⟨q, List.mem_cons_self .., z⟩
      · have : 0 < joinV rows i := Nat.pos_of_ne_zero fun e => by rw [e, Nat.zero_mul] at h; omega
        obtain ⟨r, hr, h2⟩ := join_pos.mp this
        exact ⟨r, List.mem_cons_of_mem _ hr, h2⟩
    · rintro ⟨r, hr, h⟩
      rcases List.mem_cons.mp hr with e | e
      · subst e; omega
      · have := Nat.mul_pos ((join_pos (i := i)).mpr ⟨r, e, h⟩) hp
        omega
/-- the last state's sum under a mask -/
theorem check_law {M : Mach} (hM : MOk M) : ∀ (n : Nat) (rows : List Nat) (later : Nat), rows.length = n → (∀ r ∈ rows, r < 2 ^ M.1) → later < 2 ^ M.2.1.length → par (cmV M later n &&& joinV rows M.1) = par (later &&& (walkV M rows 0).2)
  | 0, rows, later, hl, _, _ => by
    have : rows = [] := List.length_eq_zero_iff.mp hl
    subst this
    show par (0 &&& 0) = par (later &&& 0)
    rw [Nat.and_zero, Nat.and_zero]
  | n + 1, rows, later, hl, hr, hla => by
    have hne : rows ≠ [] := fun z => by rw [z] at hl; cases hl
    obtain ⟨rs, r, e⟩ : ∃ rs r, rows = rs ++ [r] := ⟨rows.dropLast, rows.getLast hne, (List.dropLast_concat_getLast hne).symm⟩
    subst e
    rw [List.length_append, List.length_singleton] at hl
    have hl' : rs.length = n := by omega
    have hrs : ∀ x ∈ rs, x < 2 ^ M.1 := fun x hx => hr x (List.mem_append_left _ hx)
    rw [walkV_snoc, join_snoc, hl']
    show par ((((backV M later).2 <<< (n * M.1)) ||| cmV M (backV M later).1 n) &&& _) = par (later &&& bitsV M.2.1 _ r)
    rw [par_split (cm_lt hM n _) (by rw [← hl']; exact join_lt hrs), back_law M.2.1 hla, check_law hM n rs _ hl' hrs (back_lt hM later).1]
    rfl
/-- turns are linear -/
theorem next_lin (ps : List (Nat × Nat)) (s t r q : Nat) : bitsV ps (s ^^^ t) (r ^^^ q) = bitsV ps s r ^^^ bitsV ps t q := Nat.eq_of_testBit_eq fun j => by
  have ax : ∀ c a b : Nat, c &&& (a ^^^ b) = (c &&& a) ^^^ (c &&& b) := fun c a b => Nat.eq_of_testBit_eq fun i => by
    rw [Nat.testBit_and, Nat.testBit_xor, Nat.testBit_xor, Nat.testBit_and, Nat.testBit_and]
    cases a.testBit i <;> cases b.testBit i <;> cases c.testBit i <;> rfl
  rw [Nat.testBit_xor, bitsV_bit, bitsV_bit, bitsV_bit]
  have e : ∀ p : Nat × Nat, bitf p (s ^^^ t) (r ^^^ q) = xor (bitf p s r) (bitf p t q) := fun p => by
    unfold bitf
    rw [ax, ax, par_xor, par_xor]
    cases par (p.1 &&& s) <;> cases par (p.1 &&& t) <;> cases par (p.2 &&& r) <;> cases par (p.2 &&& q) <;> rfl
  rw [e]
  cases decide (j < ps.length) <;> simp
/-- the state alone -/
def stV (M : Mach) (rows : List Nat) (s : Nat) : Nat := rows.foldl (fun s r => nextV M s r) s
theorem walk_st (M : Mach) : ∀ (rows : List Nat) (t : List Nat × Nat), (rows.foldl (fun t r => (t.1 ++ [outV M t.2 r], nextV M t.2 r)) t).2 = stV M rows t.2
  | [], t => rfl
  | r :: rows, t => by
    rw [List.foldl_cons, walk_st M rows]; rfl
theorem walkV_st (M : Mach) (rows : List Nat) (s : Nat) : (walkV M rows s).2 = stV M rows s := walk_st M rows ([], s)
theorem st_lin (M : Mach) : ∀ (rs qs : List Nat) (s t : Nat), rs.length = qs.length → stV M ((rs.zip qs).map fun p => p.1 ^^^ p.2) (s ^^^ t) = stV M rs s ^^^ stV M qs t
  | [], [], s, t, _ => rfl
  | r :: rs, q :: qs, s, t, h => by
    show stV M ((rs.zip qs).map fun p => p.1 ^^^ p.2) (nextV M (s ^^^ t) (r ^^^ q)) = _
    rw [show nextV M (s ^^^ t) (r ^^^ q) = nextV M s r ^^^ nextV M t q from next_lin M.2.1 s t r q]
    exact st_lin M rs qs _ _ (by simpa using h)
  | [], _ :: _, _, _, h => by cases h
  | _ :: _, [], _, _, h => by cases h
end My
namespace My
open Wk
def okT (x : An) : Prop := ∃ n : Nat, x = An.i (n : Int) ∧ n ≤ 20
theorem w_need_turns {x : An} (fx : fineA x) {E : Prop} {R : Unit → Prop} (h1 : ∀ n : Nat, x = An.i (n : Int) → n ≤ 20 → R ()) (h0 : ¬ okT x → E) : W_need_turns x E R := by
  refine jnI (w_is_whole fx (fun y ex => ?_) fun hn => ?_)
  · rw [if_pos rfl]
    refine ⟨y, ex, ?_⟩
    by_cases q : ((0 : Nat) : Int) ≤ y ∧ y ≤ ((20 : Nat) : Int)
    · rw [decide_eq_false (fun z => z q)]
      show if false = true then _ else _
      rw [if_neg (by simp)]
      have ey : x = An.i ((y.toNat : Nat) : Int) := by rw [ex, Int.toNat_of_nonneg (by have := q.1; omega)]
      exact h1 _ ey (by have := q.2; omega)
    · rw [decide_eq_true q]
      show if true = true then _ else _
      rw [if_pos rfl]
      refine h0 fun ⟨n, e, hn⟩ => q ?_
      rw [ex] at e
      have : y = (n : Int) := An.i.inj e
      rw [this]; exact ⟨by omega, by omega⟩
  · rw [if_neg (by simp)]
    show if true = true then _ else _
    rw [if_pos rfl]
    exact h0 fun ⟨n, e, _⟩ => hn _ e
def okR (x : An) (i : Nat) : Prop := ∃ ns : List Nat, x = An.l (ns.map anN) ∧ ns.length ≤ 20 ∧ ∀ r ∈ ns, r < 2 ^ i
theorem w_need_handed {M : Mach} (hM : MOk M) {x : An} (fx : fineL x) {E : Prop} {R : Unit → Prop} (h1 : ∀ ns : List Nat, x = An.l (ns.map anN) → ns.length ≤ 20 → (∀ r ∈ ns, r < 2 ^ M.1) → R ()) (h0 : ¬ okR x M.1 → E) : W_need_handed M x E R := by
  have m1 := hM.i
  refine jnI ?_
  by_cases q : isA "list" x = true
  · rw [if_neg (fun z => z q)]
    obtain ⟨xs, ex⟩ := (isA_list x fx).mp q
    refine ⟨xs, ex, ?_⟩
    by_cases q2 : 20 < xs.length
    · rw [decide_eq_true q2]
      show if true = true then _ else _
      rw [if_pos rfl]
      refine h0 fun ⟨ns, e, hn, _⟩ => ?_
      rw [ex] at e
      have := congrArg List.length (An.l.inj e)
      rw [List.length_map] at this; omega
    · rw [decide_eq_false q2]
      show if false = true then _ else _
      rw [if_neg (by simp)]
      refine ⟨xs, ex, need_rows2 (by omega) (by subst ex; exact fx) (fun hr => ?_) fun ⟨r, hr, hq⟩ => ?_⟩
      · obtain ⟨rs, er, hrs⟩ := rows_nat hr
        refine h1 rs (by rw [ex, er]) ?_ hrs
        have := congrArg List.length er
        rw [List.length_map] at this; omega
      · refine h0 fun ⟨ns, e, _, hn⟩ => hq ?_
        rw [ex] at e
        rw [An.l.inj e] at hr
        obtain ⟨n, hn2, e2⟩ := List.mem_map.mp hr
        rw [← e2]; exact okA_nat.mpr (hn n hn2)
  · rw [if_pos q]
    show if true = true then _ else _
    rw [if_pos rfl]
    exact h0 fun ⟨ns, e, _⟩ => q ((isA_list x fx).mpr ⟨_, e⟩)
def cmList (M : Mach) (T : Nat) : List Nat := (List.range M.2.1.length).map fun k => cmV M (2 ^ k) T
theorem w_check_masks {M : Mach} (hM : MOk M) {x : An} (fx : fineA x) {E : Prop} {R : List Nat → Prop} (h1 : ∀ n : Nat, x = An.i (n : Int) → n ≤ 20 → R (cmList M n)) (h0 : ¬ okT x → E) : W_check_masks M x E R := by
  have m1 := hM.i; have m2 := hM.n
  refine w_need_turns fx (fun T ex hT => ?_) h0
  have fin := h1 T ex hT
  refine ⟨T, ex, ?_⟩
  show M.2.1.length < 1000000 ∧ _
  refine ⟨by omega, forW_ind (fun pre (s : List Nat) => s = (List.range pre.length).map fun k => cmV M (2 ^ k) T) rfl (fun pre k post s nx bk e hs hn _ => ?_) fun s hs => ?_⟩
  · subst hs
    have hk : k = pre.length ∧ k < M.2.1.length := by
      have e0 : (List.range M.2.1.length)[pre.length]? = some k := by rw [e, List.getElem?_append_right (Nat.le_refl _), Nat.sub_self]; rfl
      have hlt : pre.length < M.2.1.length := by
        have := congrArg List.length e
        rw [List.length_range, List.length_append, List.length_cons] at this; omega
      rw [List.getElem?_range hlt] at e0
      have := Option.some.inj e0
      omega
    obtain ⟨hk, hkl⟩ := hk
    refine ⟨by omega, ?_⟩
    rintro _ rfl
    refine ⟨by omega, forW_ind (fun pr (t : Nat × Nat) => t.1 < 2 ^ M.2.1.length ∧ t.2 ||| cmV M t.1 (T - pr.length) = cmV M (2 ^ k) T) ⟨Nat.pow_lt_pow_right (by decide) hkl, by show 0 ||| cmV M (2 ^ k) (T - 0) = _; rw [Nat.zero_or]; rfl⟩ (fun pr t post2 st nx2 bk2 e2 hst hn2 _ => ?_) fun st hst => ?_⟩
    · obtain ⟨later, mask⟩ := st
      obtain ⟨(g1 : later < _), (g2 : mask ||| cmV M later (T - pr.length) = _)⟩ := hst
      have ht : t = T - 1 - pr.length ∧ pr.length < T := by
        have hlt : pr.length < T := by
          have := congrArg List.length e2
          rw [List.length_reverse, List.length_range, List.length_append, List.length_cons] at this; omega
        have e0 : ((List.range T).reverse)[pr.length]? = some t := by rw [e2, List.getElem?_append_right (Nat.le_refl _), Nat.sub_self]; rfl
        rw [List.getElem?_reverse (by rw [List.length_range]; exact hlt), List.length_range, List.getElem?_range (by omega)] at e0
        exact ⟨(Option.some.inj e0).symm, hlt⟩
      obtain ⟨ht, hlt⟩ := ht
      refine w_backN hM g1 ?_
      obtain ⟨b1, b2⟩ := back_lt hM later
      have tm : t * M.1 ≤ 20 * 6 := Nat.mul_le_mul (by omega) m1
      refine ⟨.inl (by omega), NShl_lt (w := 6) (Nat.lt_of_lt_of_le b2 (Nat.pow_le_pow_right (by decide) m1)) (by omega), ?_⟩
      rintro _ rfl
      refine hn2 _ ⟨b1, ?_⟩
      show (mask ||| (backV M later).2 <<< (t * M.1)) ||| cmV M (backV M later).1 (T - (pr ++ [t]).length) = _
      have e3 : T - pr.length = (T - (pr ++ [t]).length) + 1 := by
        rw [List.length_append]; show T - pr.length = T - (pr.length + 1) + 1; omega
      have e4 : T - (pr ++ [t]).length = t := by
        rw [List.length_append]; show T - (pr.length + 1) = t; omega
      rw [e3, e4] at g2
      rw [e4, Nat.or_assoc]
      exact g2
    · obtain ⟨later, mask⟩ := st
      obtain ⟨_, (g2 : mask ||| cmV M later (T - ((List.range T).reverse).length) = _)⟩ := hst
      rw [List.length_reverse, List.length_range, Nat.sub_self] at g2
      have g3 : mask = cmV M (2 ^ k) T := by rw [← g2]; show mask = mask ||| 0; rw [Nat.or_zero]
      refine ⟨by rw [List.length_map, List.length_range]; omega, hn _ ?_⟩
      show _ ++ [mask] = _
      rw [g3, List.length_append]
      show _ = (List.range (pre.length + 1)).map _
      rw [List.range_succ, List.map_append, hk]; rfl
  · subst hs
    rw [List.length_range]; exact fin
theorem w_check_masksN {M : Mach} (hM : MOk M) {T : Nat} (hT : T ≤ 20) {E : Prop} {R : List Nat → Prop} (h : R (cmList M T)) : W_check_masks M (An.i (T : Int)) E R :=
  w_check_masks hM fine_i (fun n e _ => by
    have e2 : (T : Int) = (n : Int) := An.i.inj e
    have e3 : T = n := by omega
    subst e3; exact h) fun q => absurd ⟨T, rfl, hT⟩ q
theorem w_missed {M : Mach} (hM : MOk M) {x : An} (fx : fineL x) {E : Prop} {R : Bool → Prop} (h1 : ∀ ns : List Nat, x = An.l (ns.map anN) → ns.length ≤ 20 → (∀ r ∈ ns, r < 2 ^ M.1) → R (decide (stV M ns 0 = 0 ∧ 0 < joinV ns M.1))) (h0 : ¬ okR x M.1 → E) : W_missed M x E R := by
  refine w_need_handed hM fx (fun ns ex hl hr => ?_) h0
  have fin := h1 ns ex hl hr
  refine ⟨ns, ex, jnI (w_walkN hM (by omega) hr (Nat.two_pow_pos _) ?_)⟩
  show if (walkV M ns 0).2 = 0 then _ else _
  rw [walkV_st]
  by_cases q : stV M ns 0 = 0
  · rw [if_pos q]
    refine ⟨by show 1 + ns.length < 1000000; omega, by rw [List.length_append]; show 0 < 1 + ns.length; omega, ?_⟩
    have e : (0 < maxT ([0] ++ ns)) ↔ 0 < joinV ns M.1 := by
      rw [join_pos]
      constructor
      · intro h
        have hm : maxT ([0] ++ ns) ∈ [0] ++ ns := maxT_mem (by rw [List.length_append]; show 0 < 1 + ns.length; omega)
        rcases List.mem_append.mp hm with g | g
        · rw [List.mem_singleton.mp g] at h; exact absurd h (Nat.lt_irrefl _)
        · exact ⟨_, g, h⟩
      · rintro ⟨r, hr', h⟩
        exact Nat.lt_of_lt_of_le h (maxT_le (List.mem_append_right _ hr'))
    have e2 : decide (0 < maxT ([0] ++ ns)) = decide (stV M ns 0 = 0 ∧ 0 < joinV ns M.1) := decide_eq_decide.mpr ⟨fun h => ⟨q, e.mp h⟩, fun h => e.mpr h.2⟩
    rw [e2]; exact fin
  · rw [if_neg q]
    rw [decide_eq_false (fun z => q z.1)] at fin
    exact fin
theorem w_lcheck {M : Mach} (hM : MOk M) {rs : List Nat} {R : Nat → Prop} (h : R (stV M rs 0)) : W_check M rs R := by
  have m2 := hM.n
  exact forW_fold (fun s r => nextV M s r) (fun r _ s nx bk hn => w_lbits (by omega) hn) h
theorem w_joined {M : Mach} (hM : MOk M) {rs : List Nat} {R : Nat → Prop} (h : R (joinV rs M.1)) : W_joined rs M.1 R := by
  have m1 := hM.i
  refine forW_fold (fun t r => t * 2 ^ M.1 + r) (fun r _ t nx bk hn => ⟨by omega, .inr (Nat.lt_of_le_of_lt (Nat.pow_le_pow_right (by decide) m1) (by decide)), ?_⟩) ?_
  · rintro _ rfl; exact hn
  · rw [List.foldl_reverse]; exact h
end My
namespace My
open Wk
/-- sums of sums -/
theorem Span.comb_in {vs : List Nat} : ∀ {rs : List Nat} (S : Nat), (∀ r ∈ rs, Span vs r) → Span vs (comb rs S)
  | [], S, _ => Span.zero vs
  | r :: rs, S, h => by
    have a := Span.comb_in (rs := rs) (S / 2) fun x hx => h x (List.mem_cons_of_mem _ hx)
    show Span vs ((if S.testBit 0 = true then r else 0) ^^^ _)
    by_cases q : S.testBit 0 = true
    · rw [if_pos q]; exact (h r (List.mem_cons_self ..)).xor a
    · rw [if_neg q, Nat.zero_xor]; exact a
theorem Span.sub {vs ws : List Nat} {v : Nat} (h : ∀ r ∈ ws, Span vs r) : Span ws v → Span vs v := fun ⟨S, e⟩ => by rw [← e]; exact Span.comb_in S h
end My
namespace My
open Wk
/-! free rows, ranks -/
def Ind (vs : List Nat) : Prop := ∀ j, j < vs.length → ¬ Span (vs.take j) (vs.getD j 0)
theorem comb_take : ∀ (vs : List Nat) (k S : Nat), bits S ≤ k → comb vs S = comb (vs.take k) S
  | [], k, S, _ => by rw [List.take_nil]
  | v :: vs, 0, S, hb => by
    have : S = 0 := bits_eq_zero.mp (by omega)
    subst this; rw [comb_zero]; rfl
  | v :: vs, k + 1, S, hb => by
    show (if S.testBit 0 = true then v else 0) ^^^ comb vs (S / 2) = (if S.testBit 0 = true then v else 0) ^^^ comb (vs.take k) (S / 2)
    rw [comb_take vs k (S / 2) (bits_le.mpr (by have := bits_le.mp hb; rw [Nat.pow_succ] at this; omega))]
theorem Ind.inj {vs : List Nat} (h : Ind vs) {S : Nat} (hS : S < 2 ^ vs.length) (h0 : comb vs S = 0) : S = 0 := by
  refine Classical.byContradiction fun z => ?_
  have hp := bits_pos z
  have hb := bits_le.mpr hS
  have kb : S.testBit (bits S - 1) = true := bits_bit z
  have lt : bits S - 1 < vs.length := by omega
  refine h _ lt ⟨S, ?_⟩
  rw [comb_take vs (bits S - 1 + 1) S (by omega)] at h0
  have e2 : vs.take (bits S - 1 + 1) = vs.take (bits S - 1) ++ [vs[bits S - 1]] := List.take_succ_eq_append_getElem lt
  rw [e2, comb_snoc, show (vs.take (bits S - 1)).length = bits S - 1 by rw [List.length_take]; omega, if_pos kb] at h0
  rw [List.getD_eq_getElem?_getD, List.getElem?_eq_getElem lt]
  exact xor0 h0
theorem Ind.snoc {vs : List Nat} {v : Nat} (h : Ind vs) (hv : ¬ Span vs v) : Ind (vs ++ [v]) := fun j hj => by
  rw [List.length_append, List.length_singleton] at hj
  by_cases q : j = vs.length
  · subst q
    have e1 : (vs ++ [v]).take vs.length = vs := by rw [List.take_append_of_le_length (Nat.le_refl _), List.take_length]
    have e2 : (vs ++ [v]).getD vs.length 0 = v := by rw [List.getD_eq_getElem?_getD, List.getElem?_append_right (Nat.le_refl _), Nat.sub_self]; rfl
    rw [e1, e2]; exact hv
  · rw [List.take_append_of_le_length (by omega), List.getD_eq_getElem?_getD, List.getElem?_append_left (by omega), ← List.getD_eq_getElem?_getD]
    exact h j (by omega)
theorem Ind.nil : Ind [] := fun j hj => absurd hj (Nat.not_lt_zero j)
/-- free rows that are sums of some rows are no more than these -/
theorem Ind.len {vs ys : List Nat} (h : Ind vs) (hs : ∀ v ∈ vs, Span ys v) : vs.length ≤ ys.length := by
  refine Nat.le_of_not_lt fun hlt => ?_
  have ex : ∀ j, ∃ b, b < 2 ^ ys.length ∧ comb ys b = (vs.getD j 0) := fun j => by
    by_cases q : j < vs.length
    · have e : vs.getD j 0 = vs[j] := by rw [List.getD_eq_getElem?_getD, List.getElem?_eq_getElem q]; rfl
      rw [e]; exact (hs _ (List.getElem_mem q)).low
    · rw [List.getD_eq_getElem?_getD, List.getElem?_eq_none (by omega)]
      exact ⟨0, Nat.two_pow_pos _, comb_zero _⟩
  obtain ⟨f, hf⟩ := Classical.axiomOfChoice ex
  obtain ⟨j, hj, hsp⟩ := some_sum (n := ys.length) (vs := (List.range (ys.length + 1)).map f) (by rw [List.length_map, List.length_range]) (fun v hv => by
    obtain ⟨i, _, e⟩ := List.mem_map.mp hv
    rw [← e]; exact (hf i).1)
  refine h j (by omega) ?_
  have e1 : ((List.range (ys.length + 1)).map f).getD j 0 = f j := by rw [List.getD_eq_getElem?_getD, List.getElem?_map, List.getElem?_range (by omega)]; rfl
  rw [e1] at hsp
  obtain ⟨S, e2⟩ := hsp
  refine ⟨S, ?_⟩
  have e3 : vs.take j = (((List.range (ys.length + 1)).map f).take j).map (comb ys) := by
    refine List.ext_getElem (by rw [List.length_map, List.length_take, List.length_take, List.length_map, List.length_range]; omega) fun i h1 h2 => ?_
    rw [List.length_take] at h1
    have : i < vs.length := by omega
    have e := (hf i).2
    rw [List.getD_eq_getElem?_getD, List.getElem?_eq_getElem this] at e
    simp only [List.getElem_take, List.getElem_map, List.getElem_range]
    exact e.symm
  rw [e3, comb_map (comb ys) (comb_zero ys) (comb_xor ys), e2, (hf j).2]
/-- r free rows that span the same -/
def IsRank (s : List Nat) (r : Nat) : Prop := ∃ L, Ind L ∧ L.length = r ∧ (∀ v, Span L v ↔ Span s v)
theorem IsRank.uniq {s : List Nat} {r q : Nat} : IsRank s r → IsRank s q → r = q := fun ⟨L, h1, h2, h3⟩ ⟨K, k1, k2, k3⟩ => by
  have a := h1.len (ys := K) fun v hv => (k3 v).mpr ((h3 v).mp (Span.mem hv))
  have b := k1.len (ys := L) fun v hv => (h3 v).mpr ((k3 v).mp (Span.mem hv))
  omega
theorem span_snoc_in {s : List Nat} {r v : Nat} (h : Span s r) : Span (s ++ [r]) v ↔ Span s v := by
  rw [Span.snoc]
  exact ⟨fun q => q.elim id fun z => by
    have := z.xor h
    rwa [Nat.xor_assoc, Nat.xor_self, Nat.xor_zero] at this, .inl⟩
theorem isRank_snoc_in {s : List Nat} {r k : Nat} (h : Span s r) (q : IsRank s k) : IsRank (s ++ [r]) k := let ⟨L, a, b, c⟩ := q; ⟨L, a, b, fun v => (c v).trans (span_snoc_in h).symm⟩
theorem isRank_snoc_out {s : List Nat} {r k : Nat} (h : ¬ Span s r) (q : IsRank s k) : IsRank (s ++ [r]) (k + 1) := let ⟨L, a, b, c⟩ := q; ⟨L ++ [r], a.snoc (fun z => h ((c r).mp z)), by rw [List.length_append, b]; rfl, fun v => by rw [Span.snoc, Span.snoc, c, c]⟩
theorem isRank_fnd : ∀ (n : Nat) (s : List Nat), s.length = n → IsRank s (fndP s).length
  | 0, s, hl => by
    have : s = [] := List.length_eq_zero_iff.mp hl
    subst this
    exact ⟨[], Ind.nil, rfl, fun _ => Iff.rfl⟩
  | n + 1, s, hl => by
    have hne : s ≠ [] := fun z => by rw [z] at hl; cases hl
    obtain ⟨rs, r, e⟩ : ∃ rs r, s = rs ++ [r] := ⟨s.dropLast, s.getLast hne, (List.dropLast_concat_getLast hne).symm⟩
    subst e
    rw [List.length_append, List.length_singleton] at hl
    have ih := isRank_fnd n rs (by omega)
    rw [fndP_snoc, List.length_append]
    by_cases q : Span rs r
    · rw [if_pos q]; exact isRank_snoc_in q ih
    · rw [if_neg q]; exact isRank_snoc_out q ih
theorem fnd_of {s L : List Nat} (h : Ind L) (hs : ∀ v, Span L v ↔ Span s v) : (fndP s).length = L.length := (isRank_fnd _ s rfl).uniq ⟨L, h, rfl, hs⟩
theorem comb_bits (w : Nat) : ∀ (vs : List Nat) (S : Nat), (comb vs S).testBit w = dot S (fun j => (vs.getD j 0).testBit w) vs.length := by
  intro vs
  suffices h : ∀ k, k ≤ vs.length → ∀ S, (comb (vs.take k) S).testBit w = dot S (fun j => (vs.getD j 0).testBit w) k by
    intro S
    have := h vs.length (Nat.le_refl _) S
    rwa [List.take_length] at this
  intro k
  induction k with
  | zero => intro _ S; show (0 : Nat).testBit w = false; rw [Nat.zero_testBit]
  | succ k ih =>
    intro hk S
    have e2 : vs.take (k + 1) = vs.take k ++ [vs[k]'(by omega)] := List.take_succ_eq_append_getElem (by omega)
    have el : (vs.take k).length = k := by rw [List.length_take]; omega
    have eg : vs.getD k 0 = vs[k]'(by omega) := by rw [List.getD_eq_getElem?_getD, List.getElem?_eq_getElem (by omega)]; rfl
    rw [e2, comb_snoc, el, Nat.testBit_xor, ih (by omega)]
    show _ = xor (dot S _ k) (S.testBit k && (vs.getD k 0).testBit w)
    congr 1
    rw [eg]
    by_cases q : S.testBit k = true
    · rw [if_pos q, q]; simp
    · rw [if_neg q, Nat.zero_testBit]
      have : S.testBit k = false := by simpa using q
      rw [this]; rfl
theorem dot_turn {S : Nat} {f : Nat → Bool} {T : Nat} {g : Nat → Bool} : ∀ {m : Nat}, (∀ t, t < m → S.testBit t = g t) → (∀ t, t < m → T.testBit t = f t) → dot S f m = dot T g m
  | 0, _, _ => rfl
  | m + 1, h, k => by
    show xor (dot S f m) (S.testBit m && f m) = xor (dot T g m) (T.testBit m && g m)
    rw [dot_turn (fun t ht => h t (by omega)) (fun t ht => k t (by omega)), h m (by omega), k m (by omega), Bool.and_comm]
def mkM (n : Nat) (f : Nat → Bool) : Nat := maskB ((List.range n).map f)
theorem mkM_lt (n : Nat) (f : Nat → Bool) : mkM n f < 2 ^ n := by
  have := maskB_lt ((List.range n).map f)
  rwa [List.length_map, List.length_range] at this
theorem mkM_bit {n : Nat} (f : Nat → Bool) {j : Nat} (h : j < n) : (mkM n f).testBit j = f j := by
  unfold mkM
  rw [maskB_bit, List.getD_eq_getElem?_getD, List.getElem?_map, List.getElem?_range h]; rfl
/-- the rank of the rows is not above that of the columns -/
theorem rank_le {c s : List Nat} {n w r q : Nat} (hc : c.length = n) (hs : s.length = w) (cw : ∀ x ∈ c, x < 2 ^ w) (sn : ∀ x ∈ s, x < 2 ^ n) (h : ∀ k j, k < n → j < w → (s.getD j 0).testBit k = (c.getD k 0).testBit j) (hr : IsRank c r) (hq : IsRank s q) : r ≤ q := by
  obtain ⟨K, k1, k2, k3⟩ := hr
  obtain ⟨L, l1, l2, l3⟩ := hq
  have ex : ∀ j, ∃ x, x < 2 ^ L.length ∧ comb L x = s.getD j 0 := fun j => by
    by_cases g : j < s.length
    · have e : s.getD j 0 = s[j] := by rw [List.getD_eq_getElem?_getD, List.getElem?_eq_getElem g]; rfl
      rw [e]; exact ((l3 _).mpr (Span.mem (List.getElem_mem g))).low
    · rw [List.getD_eq_getElem?_getD, List.getElem?_eq_none (by omega)]
      exact ⟨0, Nat.two_pow_pos _, comb_zero _⟩
  obtain ⟨f, hf⟩ := Classical.axiomOfChoice ex
  have yl : ((List.range L.length).map fun t => mkM w fun j => (f j).testBit t).length = L.length := by rw [List.length_map, List.length_range]
  have yg : ∀ t, t < L.length → ((List.range L.length).map fun t => mkM w fun j => (f j).testBit t).getD t 0 = mkM w fun j => (f j).testBit t := fun t ht => by
    rw [List.getD_eq_getElem?_getD, List.getElem?_map, List.getElem?_range ht]; rfl
  have yw : ∀ x ∈ ((List.range L.length).map fun t => mkM w fun j => (f j).testBit t), x < 2 ^ w := fun x hx => by
    obtain ⟨t, _, e⟩ := List.mem_map.mp hx
    rw [← e]; exact mkM_lt _ _
  have cin : ∀ x ∈ c, Span ((List.range L.length).map fun t => mkM w fun j => (f j).testBit t) x := fun x hx => by
    obtain ⟨k, hk, ek⟩ := List.getElem_of_mem hx
    have xe : c.getD k 0 = x := by rw [List.getD_eq_getElem?_getD, List.getElem?_eq_getElem hk]; exact ek
    refine ⟨mkM L.length fun t => (L.getD t 0).testBit k, Nat.eq_of_testBit_eq fun j => ?_⟩
    by_cases g : j < w
    · have e := h k j (by omega) g
      rw [xe, ← (hf j).2, comb_bits] at e
      rw [← e, comb_bits, yl]
      exact dot_turn (fun t ht => mkM_bit _ ht) fun t ht => by rw [yg t ht, mkM_bit _ g]
    · rw [testBit_big (comb_lt yw) (by omega), testBit_big (cw x hx) (by omega)]
  have := k1.len fun v hv => Span.sub cin ((k3 v).mp (Span.mem hv))
  rw [yl] at this
  omega
theorem rank_eq {c s : List Nat} {n w : Nat} (hc : c.length = n) (hs : s.length = w) (cw : ∀ x ∈ c, x < 2 ^ w) (sn : ∀ x ∈ s, x < 2 ^ n) (h : ∀ k j, k < n → j < w → (s.getD j 0).testBit k = (c.getD k 0).testBit j) : (fndP c).length = (fndP s).length :=
  Nat.le_antisymm (rank_le hc hs cw sn h (isRank_fnd _ _ rfl) (isRank_fnd _ _ rfl)) (rank_le hs hc sn cw (fun k j hk hj => (h j k hj hk).symm) (isRank_fnd _ _ rfl) (isRank_fnd _ _ rfl))
/-- masks with bits of their own are free -/
theorem priv_ind {zs : List (Nat × Nat)} (h : Priv zs) : Ind (zs.map (·.1)) := fun j hj ⟨S, e⟩ => by
  rw [List.length_map] at hj
  have eg : (zs.map (·.1)).getD j 0 = zs[j].1 := by rw [List.getD_eq_getElem?_getD, List.getElem?_map, List.getElem?_eq_getElem hj]; rfl
  rw [eg] at e
  have b := h.2 zs[j] (List.getElem_mem hj)
  rw [← e, comb_bits] at b
  have z : dot S (fun i => (((zs.map fun p : Nat × Nat => p.1).take j).getD i 0).testBit zs[j].2) ((zs.map fun p : Nat × Nat => p.1).take j).length = dot S (fun _ => false) ((zs.map fun p : Nat × Nat => p.1).take j).length := dot_congr fun i hi => by
    rw [List.length_take, List.length_map] at hi
    have hi2 : i < zs.length := by omega
    rw [List.getD_eq_getElem?_getD, List.getElem?_take_of_lt (by omega), List.getElem?_map, List.getElem?_eq_getElem hi2]
    exact (List.pairwise_iff_getElem.mp h.1 i j hi2 hj (by omega)).1
  rw [z, dot_false] at b; cases b
end My
namespace My
open Wk
/-- each with a bit that no later one has -/
def Tri (ps : List (Nat × Nat)) : Prop := ps.Pairwise (fun p q : Nat × Nat => q.1.testBit p.2 = false) ∧ ∀ p ∈ ps, p.1.testBit p.2 = true ∧ bits p.1 = p.2 + 1
theorem lt_bit {x y b : Nat} (h1 : x.testBit b = false) (h2 : y.testBit b = true) (h3 : ∀ j, b < j → x.testBit j = y.testBit j) : x < y := by
  have e : x / 2 ^ (b + 1) = y / 2 ^ (b + 1) := Nat.eq_of_testBit_eq fun j => by
    rw [← Nat.shiftRight_eq_div_pow, ← Nat.shiftRight_eq_div_pow, Nat.testBit_shiftRight, Nat.testBit_shiftRight]; exact h3 _ (by omega)
  rw [Nat.pow_succ, ← Nat.div_div_eq_div_mul, ← Nat.div_div_eq_div_mul] at e
  rw [Nat.testBit_eq_decide_div_mod_eq] at h1 h2
  have h1 := of_decide_eq_false h1
  have h2 := of_decide_eq_true h2
  have : x / 2 ^ b < y / 2 ^ b := by omega
  exact Nat.lt_of_not_le fun z => by
    have := Nat.div_le_div_right (c := 2 ^ b) z
    omega
theorem min_top {x y : Nat} (hy : y ≠ 0) : min x (x ^^^ y) = if x.testBit (bits y - 1) = true then x ^^^ y else x := by
  have hb := bits_bit hy
  have up : ∀ j, bits y - 1 < j → (x ^^^ y).testBit j = x.testBit j := fun j hj => by
    rw [Nat.testBit_xor, testBit_big (lt_bits y) (by omega), Bool.xor_false]
  by_cases q : x.testBit (bits y - 1) = true
  · rw [if_pos q]
    have : x ^^^ y < x := lt_bit (b := bits y - 1) (by rw [Nat.testBit_xor, q, hb]; rfl) q up
    omega
  · rw [if_neg q]
    have q' : x.testBit (bits y - 1) = false := by simpa using q
    have : x < x ^^^ y := lt_bit (b := bits y - 1) q' (by rw [Nat.testBit_xor, q', hb]; rfl) fun j hj => (up j hj).symm
    omega
theorem w_lrk {ms : List Nat} (hl : ms.length < 1000000) {R : Nat → Prop} (h : R (fndP ms).length) : W_Lrank ms R := by
  refine forW_ind (fun pre (left : List Nat) => ∃ ps : List (Nat × Nat), left = ps.map (·.1) ∧ Tri ps ∧ Ind left ∧ left.length ≤ pre.length ∧ ∀ v, Span left v ↔ Span pre v) ⟨[], rfl, ⟨List.Pairwise.nil, fun p hp => by cases hp⟩, Ind.nil, Nat.le_refl _, fun _ => Iff.rfl⟩ ?_ ?_
  · rintro pre m post left nx bk e ⟨ps, rfl, tri, ind, ll, hsp⟩ hn _
    have pl : pre.length < 1000000 := by rw [e, List.length_append] at hl; omega
    refine forW_ind (xs := ps.map (·.1)) (fun pr (x : Nat) => Span pr (x ^^^ m) ∧ ∃ qs ts, ps = qs ++ ts ∧ pr = qs.map (·.1) ∧ ∀ q ∈ qs, x.testBit q.2 = false) ⟨by rw [Nat.xor_self]; exact Span.zero _, [], ps, rfl, rfl, fun q hq => by cases hq⟩ ?_ ?_
    · rintro pr one po x nx2 bk2 e2 ⟨h1, qs, ts, e3, e4, h2⟩ hn2 _
      subst e4
      have e5 : ts.map (·.1) = one :: po := by
        rw [e3, List.map_append] at e2
        exact List.append_cancel_left e2
      obtain ⟨q0, ts', e6⟩ : ∃ q0 ts', ts = q0 :: ts' := by
        cases ts with
        | nil => cases e5
        | cons a b => exact ⟨a, b, rfl⟩
      subst e6
      rw [List.map_cons] at e5
      injection e5 with e7 e8
      have qm : q0 ∈ ps := by rw [e3]; simp
      obtain ⟨b1, b2⟩ := tri.2 q0 qm
      have one0 : one ≠ 0 := fun z => by rw [e7, z, bits_zero] at b2; omega
      rintro _ rfl
      rw [min_top one0]
      have bo : bits one - 1 = q0.2 := by rw [← e7, b2]; omega
      rw [bo]
      have late : ∀ q ∈ qs, one.testBit q.2 = false := fun q hq => by
        have := tri.1
        rw [e3, List.pairwise_append] at this
        rw [← e7]; exact this.2.2 q hq q0 (List.mem_cons_self ..)
      refine hn2 _ ⟨?_, qs ++ [q0], ts', by rw [e3]; simp, by rw [List.map_append, ← e7]; rfl, fun q hq => ?_⟩
      · refine Span.snoc.mpr ?_
        by_cases c : x.testBit q0.2 = true
        · rw [if_pos c]
          right
          have : x ^^^ one ^^^ m ^^^ one = x ^^^ m := by
            rw [Nat.xor_assoc x one m, Nat.xor_comm one m, ← Nat.xor_assoc x m one, Nat.xor_assoc (x ^^^ m), Nat.xor_self, Nat.xor_zero]
          rw [this]; exact h1
        · rw [if_neg c]; exact .inl h1
      · rcases List.mem_append.mp hq with g | g
        · by_cases c : x.testBit q0.2 = true
          · rw [if_pos c, Nat.testBit_xor, h2 q g, late q g]; rfl
          · rw [if_neg c]; exact h2 q g
        · rw [List.mem_singleton.mp g]
          by_cases c : x.testBit q0.2 = true
          · rw [if_pos c, Nat.testBit_xor, c, ← e7, b1]; rfl
          · rw [if_neg c]; simpa using c
    · rintro x ⟨h1, qs, ts, e3, e4, h2⟩
      have hl2 : ps.length = qs.length := by
        have := congrArg List.length e4
        rwa [List.length_map, List.length_map] at this
      have ts0 : ts = [] := List.length_eq_zero_iff.mp (by have := congrArg List.length e3; rw [List.length_append] at this; omega)
      subst ts0
      rw [List.append_nil] at e3
      subst e3
      -- what is clear of all the bits and a sum is nothing
      have clear : ∀ (us : List (Nat × Nat)), Tri us → ∀ v, (∀ q ∈ us, v.testBit q.2 = false) → Span (us.map (·.1)) v → v = 0 := by
        intro us
        induction us with
        | nil => intro _ v _ hv; exact Span.nil.mp hv
        | cons u us ih =>
          intro tr v hv ⟨S, eS⟩
          have tr' : Tri us := ⟨(List.pairwise_cons.mp tr.1).2, fun p hp => tr.2 p (List.mem_cons_of_mem _ hp)⟩
          have eS' : (if S.testBit 0 = true then u.1 else 0) ^^^ comb (us.map (·.1)) (S / 2) = v := eS
          have cb : (comb (us.map (·.1)) (S / 2)).testBit u.2 = false := by
            rw [comb_bits]
            rw [dot_congr (g := fun _ => false) fun i hi => ?_, dot_false]
            rw [List.length_map] at hi
            rw [List.getD_eq_getElem?_getD, List.getElem?_map, List.getElem?_eq_getElem hi]
            exact (List.pairwise_cons.mp tr.1).1 _ (List.getElem_mem hi)
          have s0 : ¬ S.testBit 0 = true := fun c => by
            rw [if_pos c] at eS'
            have := hv u (List.mem_cons_self ..)
            rw [← eS', Nat.testBit_xor, cb, (tr.2 u (List.mem_cons_self ..)).1] at this
            cases this
          rw [if_neg s0, Nat.zero_xor] at eS'
          exact ih tr' v (fun q hq => hv q (List.mem_cons_of_mem _ hq)) ⟨_, eS'⟩
      have iff : x = 0 ↔ Span pre m := by
        constructor
        · intro z
          rw [z, Nat.zero_xor] at h1
          exact (hsp m).mp h1
        · intro z
          have h3 := h1.xor ((hsp m).mpr z)
          rw [Nat.xor_assoc, Nat.xor_self, Nat.xor_zero] at h3
          exact clear _ tri x h2 h3
      have spx : ∀ v, Span (ps.map (·.1) ++ [x]) v ↔ Span (pre ++ [m]) v := fun v => by
        rw [Span.snoc, Span.snoc, hsp, hsp]
        have h4 := (hsp _).mp h1
        constructor
        · rintro (a | a)
          · exact .inl a
          · right
            have := a.xor h4
            rwa [Nat.xor_assoc v x, ← Nat.xor_assoc x x m, Nat.xor_self, Nat.zero_xor] at this
        · rintro (a | a)
          · exact .inl a
          · right
            have := a.xor h4
            rwa [Nat.xor_assoc v m, Nat.xor_comm x m, ← Nat.xor_assoc m m x, Nat.xor_self, Nat.zero_xor] at this
      show if 0 < x then _ else _
      by_cases q : 0 < x
      · rw [if_pos q]
        rw [List.length_map] at ll ⊢
        have nsp : ¬ Span (ps.map (·.1)) x := fun z => by
          have := clear _ tri x h2 z
          omega
        refine ⟨by omega, hn _ ⟨ps ++ [(x, bits x - 1)], by rw [List.map_append]; rfl, ⟨List.pairwise_append.mpr ⟨tri.1, List.pairwise_singleton _ _, fun a ha b hb => by rw [List.mem_singleton.mp hb]; exact h2 a ha⟩, fun p hp => ?_⟩, ind.snoc nsp, by rw [List.length_append, List.length_append, List.length_map]; exact Nat.succ_le_succ ll, spx⟩⟩
        rcases List.mem_append.mp hp with g | g
        · exact tri.2 p g
        · rw [List.mem_singleton.mp g]
          have := bits_pos (n := x) (by omega)
          exact ⟨bits_bit (by omega), by show bits x = bits x - 1 + 1; omega⟩
      · rw [if_neg q]
        have x0 : x = 0 := by omega
        refine hn _ ⟨ps, rfl, tri, ind, by rw [List.length_append]; omega, fun v => ?_⟩
        rw [hsp v]
        exact (span_snoc_in (iff.mp x0)).symm
  · rintro left ⟨ps, rfl, tri, ind, ll, hsp⟩
    rw [fnd_of ind hsp] at h
    exact h
end My
namespace My
open Wk
theorem w_rank {rows : List Nat} (hl : rows.length < 1000000) {R : Nat → Prop} (h : R (fndP rows).length) : W_rank rows R := w_Steps_init hl fun z S => by rw [S.fnd]; exact h
def rowsIn (m T i : Nat) : List Nat := (List.range T).map fun t => (m >>> (t * i)) % 2 ^ i
theorem rowsIn_len (m T i : Nat) : (rowsIn m T i).length = T := by unfold rowsIn; rw [List.length_map, List.length_range]
theorem rowsIn_lt (m T i : Nat) : ∀ r ∈ rowsIn m T i, r < 2 ^ i := fun r hr => by
  obtain ⟨t, _, e⟩ := List.mem_map.mp (show r ∈ List.map _ _ from hr)
  rw [← e]; exact Nat.mod_lt _ (Nat.two_pow_pos i)
theorem rowsIn_succ (m T i : Nat) : rowsIn m (T + 1) i = m % 2 ^ i :: rowsIn (m >>> i) T i := by
  unfold rowsIn
  rw [List.range_succ_eq_map, List.map_cons, List.map_map, Nat.zero_mul]
  show (m >>> 0) % 2 ^ i :: _ = _
  congr 1
  refine List.map_congr_left fun t _ => ?_
  show (m >>> ((t + 1) * i)) % 2 ^ i = ((m >>> i) >>> (t * i)) % 2 ^ i
  rw [← Nat.shiftRight_add, Nat.add_mul, Nat.one_mul, Nat.add_comm (t * i)]
theorem join_rows (i : Nat) : ∀ (T m : Nat), m < 2 ^ (T * i) → joinV (rowsIn m T i) i = m
  | 0, m, h => by
    rw [Nat.zero_mul, Nat.pow_zero] at h
    show 0 = m; omega
  | T + 1, m, h => by
    rw [rowsIn_succ]
    show joinV (rowsIn (m >>> i) T i) i * 2 ^ i + m % 2 ^ i = m
    rw [join_rows i T (m >>> i) ?_, Nat.shiftRight_eq_div_pow, Nat.mul_comm]
    · exact Nat.div_add_mod m (2 ^ i)
    · rw [Nat.shiftRight_eq_div_pow]
      rw [Nat.add_mul, Nat.one_mul, Nat.pow_add] at h
      exact Nat.div_lt_of_lt_mul (by rw [Nat.mul_comm]; exact h)
theorem w_rows_in {m T i : Nat} (hT : T ≤ 1000) (hi : i ≤ 6) {R : List Nat → Prop} (h : R (rowsIn m T i)) : W_rows_in m T i R := by
  refine ⟨by omega, forW_ind (fun pre (s : Nat × List Nat) => s = (m >>> (pre.length * i), rowsIn m pre.length i)) (by rw [List.length_nil, Nat.zero_mul]; rfl) (fun pre t post s nx bk e hs hn _ => ?_) fun s hs => ?_⟩
  · subst hs
    have hlt : pre.length < T := by
      have := congrArg List.length e
      rw [List.length_range, List.length_append, List.length_cons] at this; omega
    refine ⟨by omega, NDiv_pow (by omega), by rw [rowsIn_len]; omega, hn _ ?_⟩
    have e1 : (m >>> (pre.length * i)) / 2 ^ i = m >>> ((pre ++ [t]).length * i) := by
      rw [← Nat.shiftRight_eq_div_pow, ← Nat.shiftRight_add, List.length_append, List.length_singleton, Nat.add_mul, Nat.one_mul]
    have e2 : rowsIn m pre.length i ++ [(m >>> (pre.length * i)) % 2 ^ i] = rowsIn m (pre ++ [t]).length i := by
      unfold rowsIn
      rw [List.length_append, List.length_singleton, List.range_succ, List.map_append]; rfl
    rw [e1, e2]
  · subst hs
    show R (rowsIn m (List.range T).length i)
    rw [List.length_range]; exact h
theorem w_parted {m T i : Nat} (hT : T ≤ 1000) (hi : i ≤ 6) {R : List Nat → Prop} (h : R (rowsIn m T i)) : W_parted m T i R := by
  refine ⟨by omega, compW_map (fun t => (m >>> (t * i)) % 2 ^ i) (fun t ht kk hk => ?_) h⟩
  have ht := List.mem_range.mp ht
  refine ⟨.inl (by omega), by omega, Nat.two_pow_pos _, ?_⟩
  rw [Nat.and_two_pow_sub_one_eq_mod]; exact hk
/-! what is missed -/
theorem cm_mem {M : Mach} {T k : Nat} (hk : k < M.2.1.length) : cmV M (2 ^ k) T ∈ cmList M T := List.mem_map.mpr ⟨k, List.mem_range.mpr hk, rfl⟩
theorem cm_len (M : Mach) (T : Nat) : (cmList M T).length = M.2.1.length := by unfold cmList; rw [List.length_map, List.length_range]
theorem cml_lt {M : Mach} (hM : MOk M) (T : Nat) : ∀ x ∈ cmList M T, x < 2 ^ (T * M.1) := fun x hx => by
  obtain ⟨k, _, e⟩ := List.mem_map.mp (show x ∈ List.map _ _ from hx)
  rw [← e]; exact cm_lt hM T _
theorem st_bit {M : Mach} (hM : MOk M) {T k : Nat} {rows : List Nat} (hk : k < M.2.1.length) (hl : rows.length = T) (hr : ∀ r ∈ rows, r < 2 ^ M.1) : (stV M rows 0).testBit k = par (cmV M (2 ^ k) T &&& joinV rows M.1) := by
  rw [check_law hM T rows (2 ^ k) hl hr (Nat.pow_lt_pow_right (by decide) hk), par_pow_and, walkV_st]
theorem st_lt0 {M : Mach} {rows : List Nat} : stV M rows 0 < 2 ^ M.2.1.length := by rw [← walkV_st]; exact walkV_lt (Nat.two_pow_pos _)
theorem span_even {cs : List Nat} {x : Nat} : (∀ v, Span cs v → par (v &&& x) = false) ↔ ∀ c ∈ cs, par (c &&& x) = false := by
  refine ⟨fun h c hc => h c (Span.mem hc), fun h => ?_⟩
  have go : ∀ (cs : List Nat) (S : Nat), (∀ c ∈ cs, par (c &&& x) = false) → par (comb cs S &&& x) = false := by
    intro cs
    induction cs with
    | nil => intro S _; show par (0 &&& x) = false; rw [Nat.zero_and, par_zero]
    | cons c cs ih =>
      intro S hc
      show par (((if S.testBit 0 = true then c else 0) ^^^ comb cs (S / 2)) &&& x) = false
      rw [and_xor, par_xor, ih _ fun y hy => hc y (List.mem_cons_of_mem _ hy)]
      by_cases q : S.testBit 0 = true
      · rw [if_pos q, hc c (List.mem_cons_self ..)]; rfl
      · rw [if_neg q, Nat.zero_and, par_zero]; rfl
  exact fun v ⟨S, e⟩ => by rw [← e]; exact go cs S h
theorem kernel {M : Mach} (hM : MOk M) {T : Nat} {rows : List Nat} (hl : rows.length = T) (hr : ∀ r ∈ rows, r < 2 ^ M.1) : stV M rows 0 = 0 ↔ ∀ v, Span (cmList M T) v → par (v &&& joinV rows M.1) = false := by
  rw [span_even]
  constructor
  · intro z c hc
    obtain ⟨k, hk, e⟩ := List.mem_map.mp (show c ∈ List.map _ _ from hc)
    rw [← e]
    show par (cmV M (2 ^ k) T &&& _) = false
    rw [← st_bit hM (List.mem_range.mp hk) hl hr, z, Nat.zero_testBit]
  · intro h
    refine Nat.eq_of_testBit_eq fun k => ?_
    rw [Nat.zero_testBit]
    by_cases q : k < M.2.1.length
    · rw [st_bit hM q hl hr]; exact h _ (cm_mem q)
    · exact testBit_big st_lt0 (by omega)
theorem kernelX {M : Mach} (hM : MOk M) {T x : Nat} (hx : x < 2 ^ (T * M.1)) : stV M (rowsIn x T M.1) 0 = 0 ↔ ∀ v, Span (cmList M T) v → par (v &&& x) = false := by
  rw [kernel hM (rowsIn_len ..) (rowsIn_lt _ _ _), join_rows _ _ _ hx]
structure GoodZ (M : Mach) (T : Nat) (zs : List (Nat × Nat)) : Prop where
  pr : Priv zs
  ln : zs.length + (fndP (cmList M T)).length = T * M.1
  lt : ∀ p ∈ zs, p.1 < 2 ^ (T * M.1) ∧ ∀ v, Span (cmList M T) v → par (v &&& p.1) = false
  fu : ∀ m, m < 2 ^ (T * M.1) → (∀ v, Span (cmList M T) v → par (v &&& m) = false) → Span (zs.map (·.1)) m
def toldV (M : Mach) (T : Nat) (zs : List (Nat × Nat)) : List (List Nat) := (zs.map (·.1)).map fun m => rowsIn m T M.1
theorem w_turns_widthN {M : Mach} (hM : MOk M) {T : Nat} (hT : T ≤ 20) {E : Prop} {R : Nat → Prop} (h : R (T * M.1)) : W_turns_width M (An.i (T : Int)) E R := by
  have m1 := hM.i
  refine w_need_turns fine_i (fun n e _ => ?_) fun q => absurd ⟨T, rfl, hT⟩ q
  have e2 : (T : Int) = (n : Int) := An.i.inj e
  have e3 : T = n := by omega
  subst e3
  exact ⟨T, rfl, .inl (by omega), h⟩
theorem w_mb {M : Mach} (hM : MOk M) {T : Nat} (hT : T ≤ 20) : (∀ (E : Prop) (R : List (List Nat) → Prop), W_missed_base M (An.i (T : Int)) E R) ∨ ∃ zs, GoodZ M T zs ∧ ∀ (E : Prop) (R : List (List Nat) → Prop), R (toldV M T zs) → W_missed_base M (An.i (T : Int)) E R := by
  have m1 := hM.i; have m2 := hM.n
  have hw : T * M.1 ≤ 20 * 6 := Nat.mul_le_mul hT m1
  have cl := cm_len M T
  have pre : ∀ (E : Prop) (R : List (List Nat) → Prop), (W_across (cmList M T) (T * M.1) fun z3 => (z3.length < 1000000) ∧ compW z3 (fun mask1 kk => ∃ y1 : Nat, An.i (T : Int) = An.i ((y1 : Nat) : Int) ∧ W_rows_in mask1 y1 M.1 fun z4 => kk (some z4)) fun ys1 => R ys1) → W_missed_base M (An.i (T : Int)) E R := fun E R h => w_turns_widthN hM hT (w_check_masksN hM hT h)
  have fin : ∀ (ms : List Nat) (R : List (List Nat) → Prop), R (ms.map fun m => rowsIn m T M.1) → compW ms (fun mask1 kk => ∃ y1 : Nat, An.i (T : Int) = An.i ((y1 : Nat) : Int) ∧ W_rows_in mask1 y1 M.1 fun z4 => kk (some z4)) fun ys1 => R ys1 := fun ms R h => compW_map (fun m => rowsIn m T M.1) (fun m _ kk hk => ⟨T, rfl, w_rows_in (by omega) m1 hk⟩) h
  rcases Det.tells' (det_across (cmList M T) (T * M.1)) (P := fun z => ∃ zs, z = zs.map (·.1) ∧ GoodZ M T zs) (fun R h => w_across (by omega) (by omega) (cml_lt hM T) fun zs a b c d => h _ ⟨zs, rfl, a, b, c, d⟩) with a | ⟨z, ⟨zs, ez, g⟩, a⟩
  · exact .inl fun E R => pre E R (a _)
  · refine .inr ⟨zs, g, fun E R h => pre E R (a _ ?_)⟩
    subst ez
    have := g.ln
    exact ⟨by rw [List.length_map]; omega, fin _ _ h⟩
theorem w_turns_bad {M : Mach} {x : An} (fx : fineA x) (hx : ¬ okT x) {E : Prop} {R : Nat → Prop} (h : E) : W_turns_width M x E R := w_need_turns fx (fun n e hn => absurd ⟨n, e, hn⟩ hx) fun _ => h
theorem w_refused {M : Mach} {x : An} (fx : fineA x) (hx : ¬ okT x) {way : Nat} {R : Bool → Prop} (h : R true) : W_refused M x way R := by
  refine jnI ?_
  by_cases q : way = 0
  · rw [if_pos q]; exact w_turns_bad fx hx h
  · rw [if_neg q]; exact w_turns_bad fx hx h
theorem w_lis_mask {m w : Nat} (hw : w < 100000000) (h : m < 2 ^ w) {R : Bool → Prop} (hR : R true) : W_Lis_mask m w R := by
  refine jnI ⟨hw, ?_⟩
  rw [decide_eq_true ⟨Nat.zero_le _, h⟩]; exact hR
theorem w_is_list {ms : List Nat} {w : Nat} (hw : w < 100000000) (hl : ms.length < 1000000) (h : ∀ m ∈ ms, m < 2 ^ w) {R : Bool → Prop} (hR : R true) : W_is_list ms w R := by
  refine jnI ⟨hl, compW_fm (fun _ => none) (fun x hx kk hk => w_lis_mask hw (h x hx) (by rw [if_pos rfl]; exact hk)) ?_⟩
  have e0 : ms.filterMap (fun _ => (none : Option Nat)) = [] := by simp
  rw [e0, decide_eq_true rfl]; exact hR
def singV (M : Mach) (T : Nat) : List Nat := (List.range (T * M.1)).map fun k => stV M (rowsIn (2 ^ k) T M.1) 0
theorem sing_len (M : Mach) (T : Nat) : (singV M T).length = T * M.1 := by unfold singV; rw [List.length_map, List.length_range]
theorem sing_rank {M : Mach} (hM : MOk M) (T : Nat) : (fndP (cmList M T)).length = (fndP (singV M T)).length := by
  refine rank_eq (cm_len M T) (sing_len M T) (cml_lt hM T) (fun x hx => ?_) fun k j hk hj => ?_
  · obtain ⟨k, _, e⟩ := List.mem_map.mp (show x ∈ List.map _ _ from hx)
    rw [← e]; exact st_lt0
  · have e1 : (singV M T).getD j 0 = stV M (rowsIn (2 ^ j) T M.1) 0 := by unfold singV; rw [List.getD_eq_getElem?_getD, List.getElem?_map, List.getElem?_range hj]; rfl
    have e2 : (cmList M T).getD k 0 = cmV M (2 ^ k) T := by unfold cmList; rw [List.getD_eq_getElem?_getD, List.getElem?_map, List.getElem?_range hk]; rfl
    rw [e1, e2, st_bit hM hk (rowsIn_len ..) (rowsIn_lt _ _ _), join_rows _ _ _ (Nat.pow_lt_pow_right (by decide) hj), Nat.and_comm, par_pow_and]
theorem w_singles {M : Mach} (hM : MOk M) {T : Nat} (hT : T ≤ 20) {R : List Nat → Prop} (h : R (singV M T)) : W_single_checks M T R := by
  have m1 := hM.i
  have hw : T * M.1 ≤ 20 * 6 := Nat.mul_le_mul hT m1
  refine ⟨.inl (by omega), by omega, forW_ind (fun pre (s : List Nat) => s = (List.range pre.length).map fun k => stV M (rowsIn (2 ^ k) T M.1) 0) rfl (fun pre k post s nx bk e hs hn _ => ?_) fun s hs => ?_⟩
  · subst hs
    have hlt : pre.length < T * M.1 := by
      have := congrArg List.length e
      rw [List.length_range, List.length_append, List.length_cons] at this; omega
    have e0 : (List.range (T * M.1))[pre.length]? = some k := by rw [e, List.getElem?_append_right (Nat.le_refl _), Nat.sub_self]; rfl
    rw [List.getElem?_range hlt] at e0
    have hk := (Option.some.inj e0).symm
    subst hk
    refine ⟨by omega, w_parted (by omega) m1 (w_lcheck hM ⟨by rw [List.length_map, List.length_range]; omega, hn _ ?_⟩)⟩
    rw [List.length_append, List.length_singleton, List.range_succ, List.map_append]; rfl
  · subst hs
    rw [List.length_range]; exact h
theorem told_mem {M : Mach} {T : Nat} {zs : List (Nat × Nat)} {rows : List Nat} (h : rows ∈ toldV M T zs) : ∃ p ∈ zs, rows = rowsIn p.1 T M.1 := by
  obtain ⟨m, hm, e⟩ := List.mem_map.mp (show rows ∈ List.map _ _ from h)
  obtain ⟨p, hp, e2⟩ := List.mem_map.mp hm
  exact ⟨p, hp, by rw [← e, ← e2]⟩
theorem w_told_right {M : Mach} (hM : MOk M) {T : Nat} (hT : T ≤ 20) {zs : List (Nat × Nat)} (g : GoodZ M T zs) {R : Bool → Prop} (h : R true) : W_told_right M M T (toldV M T zs) R := by
  have m1 := hM.i
  have hw : T * M.1 ≤ 20 * 6 := Nat.mul_le_mul hT m1
  have ln := g.ln
  have tl : (toldV M T zs).length = zs.length := by unfold toldV; rw [List.length_map, List.length_map]
  refine forW_unit (fun rows hr nx bk hn => ?_) ⟨by omega, ?_⟩
  · obtain ⟨p, hp, e⟩ := told_mem hr
    subst e
    obtain ⟨plt, pev⟩ := g.lt p hp
    have z0 : stV M (rowsIn p.1 T M.1) 0 = 0 := (kernelX hM plt).mpr pev
    refine jnI (w_is_list (by omega) (by rw [rowsIn_len]; omega) (rowsIn_lt _ _ _) ?_)
    rw [if_pos rfl, if_neg (fun q => q (rowsIn_len ..))]
    refine w_lcheck hM ?_
    rw [decide_eq_false (fun q => q z0)]
    show if false = true then _ else _
    rw [if_neg (by simp)]
    refine w_missed hM (fine_rows _) (fun ns e _ _ => ?_) fun q => absurd ⟨_, rfl, by rw [rowsIn_len]; exact hT, rowsIn_lt _ _ _⟩ q
    have e1 : rowsIn p.1 T M.1 = ns := map_anN_inj (An.l.inj e)
    subst e1
    have pos : 0 < joinV (rowsIn p.1 T M.1) M.1 := by
      rw [join_rows _ _ _ plt]
      refine Nat.pos_of_ne_zero fun z => ?_
      have := g.pr.2 p hp
      rw [z, Nat.zero_testBit] at this; cases this
    rw [decide_eq_true ⟨z0, pos⟩, if_neg (fun q => q rfl)]; exact hn
  · refine compW_map (fun rows => joinV rows M.1) (fun rows _ kk hk => w_joined hM hk) ?_
    have e : (toldV M T zs).map (fun rows => joinV rows M.1) = zs.map (·.1) := by
      unfold toldV
      rw [List.map_map, List.map_map]
      refine List.map_congr_left fun p hp => join_rows _ _ _ (g.lt p hp).1
    rw [e]
    refine w_lrk (by rw [List.length_map]; omega) ?_
    rw [fnd_of (priv_ind g.pr) (fun _ => Iff.rfl), List.length_map, if_neg (fun q => q tl.symm)]
    refine ⟨.inl (by omega), w_singles hM hT (w_lrk (by rw [sing_len]; omega) ?_)⟩
    have sr := sing_rank hM T
    refine ⟨by omega, ?_⟩
    rw [decide_eq_true (by omega)]; exact h
theorem w_missed_shareN {M : Mach} (hM : MOk M) {T : Nat} (hT : T ≤ 20) {zs : List (Nat × Nat)} (g : GoodZ M T zs) {E : Prop} {R : Nat × Nat → Prop} (h : R (2 ^ zs.length - 1, 2 ^ (T * M.1) - 1)) : W_missed_share M (An.i (T : Int)) E R := by
  have m1 := hM.i; have m2 := hM.n
  have hw : T * M.1 ≤ 20 * 6 := Nat.mul_le_mul hT m1
  have ln := g.ln
  have cl := cm_len M T
  refine w_turns_widthN hM hT (w_check_masksN hM hT (w_rank (by omega) ⟨by omega, ?_⟩))
  rintro _ rfl
  have e : T * M.1 - (fndP (cmList M T)).length = zs.length := by omega
  rw [e]
  exact ⟨by omega, Nat.two_pow_pos _, by omega, Nat.two_pow_pos _, h⟩
theorem fold_count (p : Nat → Bool) : ∀ (l : List Nat) (a : Nat), l.foldl (fun a x => a + (p x).toNat) a = a + (l.filter p).length
  | [], a => rfl
  | x :: l, a => by
    rw [List.foldl_cons, fold_count p l]
    cases q : p x
    · rw [List.filter_cons_of_neg (by simp [q])]; rfl
    · rw [List.filter_cons_of_pos q, List.length_cons]
      show a + 1 + _ = _
      omega
theorem count_kernel {M : Mach} (hM : MOk M) {T : Nat} {zs : List (Nat × Nat)} (g : GoodZ M T zs) : ((List.range (2 ^ (T * M.1))).filter fun x => decide (stV M (rowsIn x T M.1) 0 = 0)).length = 2 ^ zs.length := by
  have zl : (zs.map (·.1)).length = zs.length := List.length_map _
  have ind := priv_ind g.pr
  have nd : ((List.range (2 ^ zs.length)).map (comb (zs.map (·.1)))).Nodup := by
    refine List.pairwise_map.mpr (List.Pairwise.imp_of_mem (fun {a b} ha hb hne e => hne ?_) List.nodup_range)
    have ha' := List.mem_range.mp ha
    have hb' := List.mem_range.mp hb
    exact xor0 (ind.inj (by rw [zl]; exact Nat.xor_lt_two_pow ha' hb') (by rw [comb_xor, e, Nat.xor_self]))
  have ln : ((List.range (2 ^ zs.length)).map (comb (zs.map (·.1)))).length = 2 ^ zs.length := by rw [List.length_map, List.length_range]
  have zlt : ∀ x ∈ zs.map (·.1), x < 2 ^ (T * M.1) := fun x hx => by
    obtain ⟨p, hp, e⟩ := List.mem_map.mp hx
    rw [← e]; exact (g.lt p hp).1
  have zev : ∀ x, Span (zs.map (·.1)) x → ∀ v, Span (cmList M T) v → par (v &&& x) = false := fun x hx v hv => by
    rw [Nat.and_comm]
    refine span_even.mpr (fun c hc => ?_) x hx
    obtain ⟨p, hp, e⟩ := List.mem_map.mp hc
    rw [← e, Nat.and_comm]; exact (g.lt p hp).2 v hv
  refine Nat.le_antisymm ?_ ?_
  · rw [← ln]
    refine sub_len (List.nodup_range.filter _) fun x hx => ?_
    obtain ⟨h1, h2⟩ := List.mem_filter.mp hx
    have h1 := List.mem_range.mp h1
    obtain ⟨S, hS, e⟩ := (g.fu x h1 ((kernelX hM h1).mp (of_decide_eq_true h2))).low
    rw [zl] at hS
    exact List.mem_map.mpr ⟨S, List.mem_range.mpr hS, e⟩
  · rw [← ln]
    refine sub_len nd fun x hx => ?_
    obtain ⟨S, hS, e⟩ := List.mem_map.mp hx
    have xl : x < 2 ^ (T * M.1) := by rw [← e]; exact comb_lt zlt
    exact List.mem_filter.mpr ⟨List.mem_range.mpr xl, decide_eq_true ((kernelX hM xl).mpr (zev x ⟨S, e⟩))⟩
theorem w_walkedAll {M : Mach} (hM : MOk M) {T : Nat} (hT : T ≤ 20) (h9 : T * M.1 < 9) {zs : List (Nat × Nat)} (g : GoodZ M T zs) {R : Bool → Prop} (h : R true) : W_all_walked M T (2 ^ zs.length - 1) R := by
  have m1 := hM.i
  have p9 : 2 ^ (T * M.1) ≤ 2 ^ 9 := Nat.pow_le_pow_right (by decide) (by omega)
  have p9' : (2 : Nat) ^ 9 = 512 := by decide
  refine ⟨.inl (by omega), by omega, by omega, by decide, forW_fold (fun a x => a + (decide (stV M (rowsIn x T M.1) 0 = 0)).toNat) (fun x _ a nx bk hn => w_parted (by omega) m1 (w_lcheck hM ?_)) ?_⟩
  · rintro _ rfl; exact hn
  · have z0 : stV M (rowsIn 0 T M.1) 0 = 0 := (kernelX hM (Nat.two_pow_pos _)).mpr fun v _ => by rw [Nat.and_zero, par_zero]
    have er : List.range (2 ^ (T * M.1)) = 0 :: List.range' 1 (2 ^ (T * M.1) - 1) := by
      rw [List.range_eq_range']
      have := Nat.two_pow_pos (T * M.1)
      conv => lhs; rw [show 2 ^ (T * M.1) = (2 ^ (T * M.1) - 1) + 1 by omega]
      rw [List.range'_succ]
    have ck := count_kernel hM g
    rw [er, List.filter_cons_of_pos (p := fun x => decide (stV M (rowsIn x T M.1) 0 = 0)) (decide_eq_true z0), List.length_cons] at ck
    rw [fold_count, decide_eq_true (by omega)]; exact h
theorem w_law {s : List Int} (hl : s.length ≤ 63) {R : Bool → Prop} (h : R true) : W_law s R := by
  refine w_lmachine (by decide) fun M hD => w_machine_init hD.toMOk (w_cell (w_cell ?_))
  have hM := hD.toMOk
  have m1 := hM.i; have m2 := hM.n
  have hx4 : ∃ x4, [4, 21][modN (cellV s 5) 2]? = some x4 ∧ 0 < x4 ∧ x4 ≤ 21 := by
    have c : modN (cellV s 5) 2 < 2 := modN_lt (by decide)
    rcases (by omega : modN (cellV s 5) 2 = 0 ∨ modN (cellV s 5) 2 = 1) with q | q
    · rw [q]; exact ⟨_, rfl, by decide, by decide⟩
    · rw [q]; exact ⟨_, rfl, by decide, by decide⟩
  obtain ⟨x4, e4, p4, l4⟩ := hx4
  refine ⟨x4, e4, p4, ?_⟩
  rintro T hT
  have hT : T ≤ 20 := by
    have : T < x4 := by rw [hT]; exact modN_lt p4
    omega
  have hw : T * M.1 ≤ 20 * 6 := Nat.mul_le_mul hT m1
  rcases w_mb hM hT with a | ⟨zs, g, a⟩
  · exact a _ _
  · have ln := g.ln
    have tl : (toldV M T zs).length = zs.length := by unfold toldV; rw [List.length_map, List.length_map]
    refine a _ _ (w_told_right hM hT g ?_)
    rw [if_pos rfl]
    refine ⟨by omega, Nat.two_pow_pos _, ?_⟩
    rintro _ rfl
    refine w_missed_shareN hM hT g ⟨.inl (by omega), by omega, Nat.two_pow_pos _, ?_⟩
    rw [if_neg (fun q => q (by rw [tl]))]
    refine jnI ⟨.inl (by omega), ?_⟩
    have fin : (if false = true then R false else (((toldV M T zs).length < 1000000) ∧ compW (toldV M T zs) (fun rows_here1 kk => kk (some rows_here1)) fun ys1 => (∀ x ∈ toldV M T zs, x.length + (toldV M T zs).length < 1000000) ∧ forW [(An.i (-1)), (An.i ((21 : Nat) : Int)), (An.b true), An.n] () (fun thing1 _ nx2 bk1 => jn (fun kk => W_refused M thing1 0 fun z9 => if z9 = true then (W_refused M thing1 1 fun z10 => kk (!z10)) else (kk true)) fun b2 => if b2 = true then (R false) else (nx2 ())) fun _ => W_missed_base M (An.i ((T : Nat) : Int)) False fun z11 => R (decide (z11 = ys1)))) := by
      rw [if_neg (by simp)]
      refine ⟨by omega, compW_map (fun x => x) (fun x _ kk hk => hk) ⟨fun x hx => ?_, forW_unit (fun x hx nx bk hn => jnI ?_) (a _ _ ?_)⟩⟩
      · obtain ⟨p, _, e⟩ := told_mem hx
        rw [e, rowsIn_len, tl]; omega
      · have fin : fineA x → ¬ okT x → W_refused M x 0 fun z9 => if z9 = true then (W_refused M x 1 fun z10 => if (!z10) = true then (R false) else (nx ())) else (if true = true then (R false) else (nx ())) := fun fx bx => w_refused fx bx (by
          rw [if_pos rfl]
          refine w_refused fx bx ?_
          rw [if_neg (by simp)]; exact hn)
        have neg : ∀ z : Int, z < 0 → ¬ okT (An.i z) := fun z hz ⟨n, e, _⟩ => by
          have : z = (n : Int) := An.i.inj e
          omega
        have hx' : x = An.i (-1) ∨ x = An.i ((21 : Nat) : Int) ∨ x = An.b true ∨ x = An.n := by simpa using hx
        rcases hx' with e | e | e | e <;> subst e
        · exact fin fine_i (neg _ (by decide))
        · exact fin fine_i fun ⟨n, e, hn⟩ => by
            have : ((21 : Nat) : Int) = (n : Int) := An.i.inj e
            omega
        · exact fin trivial fun ⟨n, e, _⟩ => by cases e
        · exact fin trivial fun ⟨n, e, _⟩ => by cases e
      · rw [List.map_id']
        show R (decide (toldV M T zs = toldV M T zs))
        rw [decide_eq_true rfl]; exact h
    by_cases q : T * M.1 < 9
    · rw [if_pos q]
      rw [tl] at fin ⊢
      exact w_walkedAll hM hT q g fin
    · rw [if_neg q]; exact fin
end My
namespace My
open PySem L2 Wk
theorem all_mk {l : PySem.W.OpenLaw} {w : World} {K : PySem.W.Frag} {h : Heap} {mg : Str → Option Value} {fa f_is_whole f_is_mask f_even f_bits_of f_Steps_lowered f_Steps_crossing f_Steps___init__ f_rank f_across f_is_pairs f_bit_of f_bits_by f_Machine___init__ f_Machine_stores f_Machine_need f_Machine_step f_Machine_walk f_Machine_after f_Machine_back f_need_turns f_need_handed f_check_masks f_missed f_turns_width f_missed_share f_rows_in f_missed_base f_cell f_mix f_masks f_thinned f_machine f_odd f_bits f_Lis_mask f_is_list f_check f_joined f_parted f_Lrank f_single_checks f_told_right f_all_walked f_refused f_law C_Machine C_Steps C_BadMask C_BadRow C_WireError : Addr} (X : K.In h) (G : h.Ns mainGlobals mg) (hfa : mg "law" = some (.ref fa))
    {oc_is_whole kV_is_whole dc_is_whole pm_is_whole cd_is_whole ct_is_whole : Value} {od_is_whole an_is_whole : Option Addr} {sl_is_whole : Array (Option Value)} {oc_is_mask kV_is_mask dc_is_mask pm_is_mask cd_is_mask ct_is_mask : Value} {od_is_mask an_is_mask : Option Addr} {sl_is_mask : Array (Option Value)} {oc_even kV_even dc_even pm_even cd_even ct_even : Value} {od_even an_even : Option Addr} {sl_even : Array (Option Value)} {oc_bits_of kV_bits_of dc_bits_of pm_bits_of cd_bits_of ct_bits_of : Value} {od_bits_of an_bits_of : Option Addr} {sl_bits_of : Array (Option Value)} {oc_Steps_lowered kV_Steps_lowered dc_Steps_lowered pm_Steps_lowered cd_Steps_lowered ct_Steps_lowered : Value} {od_Steps_lowered an_Steps_lowered : Option Addr} {sl_Steps_lowered : Array (Option Value)} {oc_Steps_crossing kV_Steps_crossing dc_Steps_crossing pm_Steps_crossing cd_Steps_crossing ct_Steps_crossing : Value} {od_Steps_crossing an_Steps_crossing : Option Addr} {sl_Steps_crossing : Array (Option Value)} {oc_Steps___init__ kV_Steps___init__ dc_Steps___init__ pm_Steps___init__ cd_Steps___init__ ct_Steps___init__ : Value} {od_Steps___init__ an_Steps___init__ : Option Addr} {sl_Steps___init__ : Array (Option Value)} {oc_rank kV_rank dc_rank pm_rank cd_rank ct_rank : Value} {od_rank an_rank : Option Addr} {sl_rank : Array (Option Value)} {oc_across kV_across dc_across pm_across cd_across ct_across : Value} {od_across an_across : Option Addr} {sl_across : Array (Option Value)} {oc_is_pairs kV_is_pairs dc_is_pairs pm_is_pairs cd_is_pairs ct_is_pairs : Value} {od_is_pairs an_is_pairs : Option Addr} {sl_is_pairs : Array (Option Value)} {oc_bit_of kV_bit_of dc_bit_of pm_bit_of cd_bit_of ct_bit_of : Value} {od_bit_of an_bit_of : Option Addr} {sl_bit_of : Array (Option Value)} {oc_bits_by kV_bits_by dc_bits_by pm_bits_by cd_bits_by ct_bits_by : Value} {od_bits_by an_bits_by : Option Addr} {sl_bits_by : Array (Option Value)} {oc_Machine___init__ kV_Machine___init__ dc_Machine___init__ pm_Machine___init__ cd_Machine___init__ ct_Machine___init__ : Value} {od_Machine___init__ an_Machine___init__ : Option Addr} {sl_Machine___init__ : Array (Option Value)} {oc_Machine_stores kV_Machine_stores dc_Machine_stores pm_Machine_stores cd_Machine_stores ct_Machine_stores : Value} {od_Machine_stores an_Machine_stores : Option Addr} {sl_Machine_stores : Array (Option Value)} {oc_Machine_need kV_Machine_need dc_Machine_need pm_Machine_need cd_Machine_need ct_Machine_need : Value} {od_Machine_need an_Machine_need : Option Addr} {sl_Machine_need : Array (Option Value)} {oc_Machine_step kV_Machine_step dc_Machine_step pm_Machine_step cd_Machine_step ct_Machine_step : Value} {od_Machine_step an_Machine_step : Option Addr} {sl_Machine_step : Array (Option Value)} {oc_Machine_walk kV_Machine_walk dc_Machine_walk pm_Machine_walk cd_Machine_walk ct_Machine_walk : Value} {od_Machine_walk an_Machine_walk : Option Addr} {sl_Machine_walk : Array (Option Value)} {oc_Machine_after kV_Machine_after dc_Machine_after pm_Machine_after cd_Machine_after ct_Machine_after : Value} {od_Machine_after an_Machine_after : Option Addr} {sl_Machine_after : Array (Option Value)} {oc_Machine_back kV_Machine_back dc_Machine_back pm_Machine_back cd_Machine_back ct_Machine_back : Value} {od_Machine_back an_Machine_back : Option Addr} {sl_Machine_back : Array (Option Value)} {oc_need_turns kV_need_turns dc_need_turns pm_need_turns cd_need_turns ct_need_turns : Value} {od_need_turns an_need_turns : Option Addr} {sl_need_turns : Array (Option Value)} {oc_need_handed kV_need_handed dc_need_handed pm_need_handed cd_need_handed ct_need_handed : Value} {od_need_handed an_need_handed : Option Addr} {sl_need_handed : Array (Option Value)} {oc_check_masks kV_check_masks dc_check_masks pm_check_masks cd_check_masks ct_check_masks : Value} {od_check_masks an_check_masks : Option Addr} {sl_check_masks : Array (Option Value)} {oc_missed kV_missed dc_missed pm_missed cd_missed ct_missed : Value} {od_missed an_missed : Option Addr} {sl_missed : Array (Option Value)} {oc_turns_width kV_turns_width dc_turns_width pm_turns_width cd_turns_width ct_turns_width : Value} {od_turns_width an_turns_width : Option Addr} {sl_turns_width : Array (Option Value)} {oc_missed_share kV_missed_share dc_missed_share pm_missed_share cd_missed_share ct_missed_share : Value} {od_missed_share an_missed_share : Option Addr} {sl_missed_share : Array (Option Value)} {oc_rows_in kV_rows_in dc_rows_in pm_rows_in cd_rows_in ct_rows_in : Value} {od_rows_in an_rows_in : Option Addr} {sl_rows_in : Array (Option Value)} {oc_missed_base kV_missed_base dc_missed_base pm_missed_base cd_missed_base ct_missed_base : Value} {od_missed_base an_missed_base : Option Addr} {sl_missed_base : Array (Option Value)} {oc_cell kV_cell dc_cell pm_cell cd_cell ct_cell : Value} {od_cell an_cell : Option Addr} {sl_cell : Array (Option Value)} {oc_mix kV_mix dc_mix pm_mix cd_mix ct_mix : Value} {od_mix an_mix : Option Addr} {sl_mix : Array (Option Value)} {oc_masks kV_masks dc_masks pm_masks cd_masks ct_masks : Value} {od_masks an_masks : Option Addr} {sl_masks : Array (Option Value)} {oc_thinned kV_thinned dc_thinned pm_thinned cd_thinned ct_thinned : Value} {od_thinned an_thinned : Option Addr} {sl_thinned : Array (Option Value)} {oc_machine kV_machine dc_machine pm_machine cd_machine ct_machine : Value} {od_machine an_machine : Option Addr} {sl_machine : Array (Option Value)} {oc_odd kV_odd dc_odd pm_odd cd_odd ct_odd : Value} {od_odd an_odd : Option Addr} {sl_odd : Array (Option Value)} {oc_bits kV_bits dc_bits pm_bits cd_bits ct_bits : Value} {od_bits an_bits : Option Addr} {sl_bits : Array (Option Value)} {oc_Lis_mask kV_Lis_mask dc_Lis_mask pm_Lis_mask cd_Lis_mask ct_Lis_mask : Value} {od_Lis_mask an_Lis_mask : Option Addr} {sl_Lis_mask : Array (Option Value)} {oc_is_list kV_is_list dc_is_list pm_is_list cd_is_list ct_is_list : Value} {od_is_list an_is_list : Option Addr} {sl_is_list : Array (Option Value)} {oc_check kV_check dc_check pm_check cd_check ct_check : Value} {od_check an_check : Option Addr} {sl_check : Array (Option Value)} {oc_joined kV_joined dc_joined pm_joined cd_joined ct_joined : Value} {od_joined an_joined : Option Addr} {sl_joined : Array (Option Value)} {oc_parted kV_parted dc_parted pm_parted cd_parted ct_parted : Value} {od_parted an_parted : Option Addr} {sl_parted : Array (Option Value)} {oc_Lrank kV_Lrank dc_Lrank pm_Lrank cd_Lrank ct_Lrank : Value} {od_Lrank an_Lrank : Option Addr} {sl_Lrank : Array (Option Value)} {oc_single_checks kV_single_checks dc_single_checks pm_single_checks cd_single_checks ct_single_checks : Value} {od_single_checks an_single_checks : Option Addr} {sl_single_checks : Array (Option Value)} {oc_told_right kV_told_right dc_told_right pm_told_right cd_told_right ct_told_right : Value} {od_told_right an_told_right : Option Addr} {sl_told_right : Array (Option Value)} {oc_all_walked kV_all_walked dc_all_walked pm_all_walked cd_all_walked ct_all_walked : Value} {od_all_walked an_all_walked : Option Addr} {sl_all_walked : Array (Option Value)} {oc_refused kV_refused dc_refused pm_refused cd_refused ct_refused : Value} {od_refused an_refused : Option Addr} {sl_refused : Array (Option Value)} {oc_law kV_law dc_law pm_law cd_law ct_law : Value} {od_law an_law : Option Addr} {sl_law : Array (Option Value)}
    (aC_Machine : PySem.W.nsIn K mainGlobals "Machine" = some (some (.ref C_Machine))) (pg_Machine : PySem.W.plainGet K C_Machine Str.empty = true) (hd_Machine : PySem.W.hasDictIn K C_Machine = true) (po_Machine : PySem.W.plainOver K C_Machine = true) (sa_Machine : PySem.W.findIn K (.ref C_Machine) "__setattr__" = some (some (.builtin "object.__setattr__"))) (mk_Machine : PySem.W.makesIn K C_Machine = true) (kc_Machine : PySem.W.keepIn K (.ref C_Machine) = true)
    (na_Machine_inputs : PySem.W.findIn K (.ref C_Machine) "inputs" = some none)
    (na_Machine_nexts : PySem.W.findIn K (.ref C_Machine) "nexts" = some none)
    (na_Machine_outs : PySem.W.findIn K (.ref C_Machine) "outs" = some none)
    (aC_Steps : PySem.W.nsIn K mainGlobals "Steps" = some (some (.ref C_Steps))) (pg_Steps : PySem.W.plainGet K C_Steps Str.empty = true) (hd_Steps : PySem.W.hasDictIn K C_Steps = true) (po_Steps : PySem.W.plainOver K C_Steps = true) (sa_Steps : PySem.W.findIn K (.ref C_Steps) "__setattr__" = some (some (.builtin "object.__setattr__"))) (mk_Steps : PySem.W.makesIn K C_Steps = true) (kc_Steps : PySem.W.keepIn K (.ref C_Steps) = true)
    (na_Steps_kept : PySem.W.findIn K (.ref C_Steps) "kept" = some none)
    (na_Steps_found : PySem.W.findIn K (.ref C_Steps) "found" = some none)
    (na_Steps_gone : PySem.W.findIn K (.ref C_Steps) "gone" = some none)
    (aC_BadMask : PySem.W.nsIn K mainGlobals "BadMask" = some (some (.ref C_BadMask))) (xX_BadMask : PySem.W.excIn K C_BadMask [.type "ValueError", .type "Exception", .type "BaseException", .type "object"] "ValueError.__new__" = true) (kX_BadMask : PySem.W.keepIn K (.ref C_BadMask) = true) (bX_BadMask : PySem.W.subIn K (.ref C_BadMask) (.type "BaseException") = some true) (tX_BadMask : PySem.W.typeIn K (.ref C_BadMask) = some (.type "type")) (iX_BadMask : PySem.W.isClsIn K C_BadMask = true)
    (aC_BadRow : PySem.W.nsIn K mainGlobals "BadRow" = some (some (.ref C_BadRow))) (xX_BadRow : PySem.W.excIn K C_BadRow [.type "ValueError", .type "Exception", .type "BaseException", .type "object"] "ValueError.__new__" = true) (kX_BadRow : PySem.W.keepIn K (.ref C_BadRow) = true) (bX_BadRow : PySem.W.subIn K (.ref C_BadRow) (.type "BaseException") = some true) (tX_BadRow : PySem.W.typeIn K (.ref C_BadRow) = some (.type "type")) (iX_BadRow : PySem.W.isClsIn K C_BadRow = true)
    (aC_WireError : PySem.W.nsIn K mainGlobals "WireError" = some (some (.ref C_WireError))) (xX_WireError : PySem.W.excIn K C_WireError [.type "ValueError", .type "Exception", .type "BaseException", .type "object"] "ValueError.__new__" = true) (kX_WireError : PySem.W.keepIn K (.ref C_WireError) = true) (bX_WireError : PySem.W.subIn K (.ref C_WireError) (.type "BaseException") = some true) (tX_WireError : PySem.W.typeIn K (.ref C_WireError) = some (.type "type")) (iX_WireError : PySem.W.isClsIn K C_WireError = true)
    {t_MOST_INPUTS : Tok} (u_MOST_INPUTS : PySem.W.nsIn K mainGlobals "MOST_INPUTS" = some (some (.int 6 t_MOST_INPUTS)))
    {t_MOST_OUTS : Tok} (u_MOST_OUTS : PySem.W.nsIn K mainGlobals "MOST_OUTS" = some (some (.int 6 t_MOST_OUTS)))
    {t_MOST_STORES : Tok} (u_MOST_STORES : PySem.W.nsIn K mainGlobals "MOST_STORES" = some (some (.int 120 t_MOST_STORES)))
    {t_MOST_TURNS : Tok} (u_MOST_TURNS : PySem.W.nsIn K mainGlobals "MOST_TURNS" = some (some (.int 20 t_MOST_TURNS)))
    (sX_BadRow_BadRow : PySem.W.subIn K (.ref C_BadRow) (.ref C_BadRow) = some true)
    (a_is_whole : PySem.W.nsIn K mainGlobals "is_whole" = some (some (.ref f_is_whole)))
    (l_is_whole : K.lookup f_is_whole = some ⟨oc_is_whole, od_is_whole, .func (PySem.W.fnOf "is_whole" "is_whole" (defArgs s_is_whole) (defBody s_is_whole) (defScope s_is_whole) .none kV_is_whole dc_is_whole pm_is_whole an_is_whole cd_is_whole ct_is_whole), sl_is_whole⟩) (c_is_whole : PySem.W.codeIn K cd_is_whole "is_whole" = true) (k_is_whole : PySem.W.keepIn K (.ref f_is_whole) = true)
    (a_is_mask : PySem.W.nsIn K mainGlobals "is_mask" = some (some (.ref f_is_mask)))
    (l_is_mask : K.lookup f_is_mask = some ⟨oc_is_mask, od_is_mask, .func (PySem.W.fnOf "is_mask" "is_mask" (defArgs s_is_mask) (defBody s_is_mask) (defScope s_is_mask) .none kV_is_mask dc_is_mask pm_is_mask an_is_mask cd_is_mask ct_is_mask), sl_is_mask⟩) (c_is_mask : PySem.W.codeIn K cd_is_mask "is_mask" = true) (k_is_mask : PySem.W.keepIn K (.ref f_is_mask) = true)
    (a_even : PySem.W.nsIn K mainGlobals "even" = some (some (.ref f_even)))
    (l_even : K.lookup f_even = some ⟨oc_even, od_even, .func (PySem.W.fnOf "even" "even" (defArgs s_even) (defBody s_even) (defScope s_even) .none kV_even dc_even pm_even an_even cd_even ct_even), sl_even⟩) (c_even : PySem.W.codeIn K cd_even "even" = true) (k_even : PySem.W.keepIn K (.ref f_even) = true)
    (a_bits_of : PySem.W.nsIn K mainGlobals "bits_of" = some (some (.ref f_bits_of)))
    (l_bits_of : K.lookup f_bits_of = some ⟨oc_bits_of, od_bits_of, .func (PySem.W.fnOf "bits_of" "bits_of" (defArgs s_bits_of) (defBody s_bits_of) (defScope s_bits_of) .none kV_bits_of dc_bits_of pm_bits_of an_bits_of cd_bits_of ct_bits_of), sl_bits_of⟩) (c_bits_of : PySem.W.codeIn K cd_bits_of "bits_of" = true) (k_bits_of : PySem.W.keepIn K (.ref f_bits_of) = true)
    (a_Steps_lowered : PySem.W.findIn K (.ref C_Steps) "lowered" = some (some (.ref f_Steps_lowered))) (i_Steps_lowered : PySem.W.isFn K (.ref f_Steps_lowered) = true)
    (l_Steps_lowered : K.lookup f_Steps_lowered = some ⟨oc_Steps_lowered, od_Steps_lowered, .func (PySem.W.fnOf "lowered" "Steps.lowered" (defArgs s_Steps_lowered) (defBody s_Steps_lowered) (defScope s_Steps_lowered) .none kV_Steps_lowered dc_Steps_lowered pm_Steps_lowered an_Steps_lowered cd_Steps_lowered ct_Steps_lowered), sl_Steps_lowered⟩) (c_Steps_lowered : PySem.W.codeIn K cd_Steps_lowered "Steps.lowered" = true) (k_Steps_lowered : PySem.W.keepIn K (.ref f_Steps_lowered) = true)
    (a_Steps_crossing : PySem.W.findIn K (.ref C_Steps) "crossing" = some (some (.ref f_Steps_crossing))) (i_Steps_crossing : PySem.W.isFn K (.ref f_Steps_crossing) = true)
    (l_Steps_crossing : K.lookup f_Steps_crossing = some ⟨oc_Steps_crossing, od_Steps_crossing, .func (PySem.W.fnOf "crossing" "Steps.crossing" (defArgs s_Steps_crossing) (defBody s_Steps_crossing) (defScope s_Steps_crossing) .none kV_Steps_crossing dc_Steps_crossing pm_Steps_crossing an_Steps_crossing cd_Steps_crossing ct_Steps_crossing), sl_Steps_crossing⟩) (c_Steps_crossing : PySem.W.codeIn K cd_Steps_crossing "Steps.crossing" = true) (k_Steps_crossing : PySem.W.keepIn K (.ref f_Steps_crossing) = true)
    (a_Steps___init__ : PySem.W.findIn K (.ref C_Steps) "__init__" = some (some (.ref f_Steps___init__))) (i_Steps___init__ : PySem.W.isFn K (.ref f_Steps___init__) = true)
    (l_Steps___init__ : K.lookup f_Steps___init__ = some ⟨oc_Steps___init__, od_Steps___init__, .func (PySem.W.fnOf "__init__" "Steps.__init__" (defArgs s_Steps___init__) (defBody s_Steps___init__) (defScope s_Steps___init__) .none kV_Steps___init__ dc_Steps___init__ pm_Steps___init__ an_Steps___init__ cd_Steps___init__ ct_Steps___init__), sl_Steps___init__⟩) (c_Steps___init__ : PySem.W.codeIn K cd_Steps___init__ "Steps.__init__" = true) (k_Steps___init__ : PySem.W.keepIn K (.ref f_Steps___init__) = true)
    (a_rank : PySem.W.nsIn K mainGlobals "rank" = some (some (.ref f_rank)))
    (l_rank : K.lookup f_rank = some ⟨oc_rank, od_rank, .func (PySem.W.fnOf "rank" "rank" (defArgs s_rank) (defBody s_rank) (defScope s_rank) .none kV_rank dc_rank pm_rank an_rank cd_rank ct_rank), sl_rank⟩) (c_rank : PySem.W.codeIn K cd_rank "rank" = true) (k_rank : PySem.W.keepIn K (.ref f_rank) = true)
    (a_across : PySem.W.nsIn K mainGlobals "across" = some (some (.ref f_across)))
    (l_across : K.lookup f_across = some ⟨oc_across, od_across, .func (PySem.W.fnOf "across" "across" (defArgs s_across) (defBody s_across) (defScope s_across) .none kV_across dc_across pm_across an_across cd_across ct_across), sl_across⟩) (c_across : PySem.W.codeIn K cd_across "across" = true) (k_across : PySem.W.keepIn K (.ref f_across) = true)
    (a_is_pairs : PySem.W.nsIn K mainGlobals "is_pairs" = some (some (.ref f_is_pairs)))
    (l_is_pairs : K.lookup f_is_pairs = some ⟨oc_is_pairs, od_is_pairs, .func (PySem.W.fnOf "is_pairs" "is_pairs" (defArgs s_is_pairs) (defBody s_is_pairs) (defScope s_is_pairs) .none kV_is_pairs dc_is_pairs pm_is_pairs an_is_pairs cd_is_pairs ct_is_pairs), sl_is_pairs⟩) (c_is_pairs : PySem.W.codeIn K cd_is_pairs "is_pairs" = true) (k_is_pairs : PySem.W.keepIn K (.ref f_is_pairs) = true)
    (a_bit_of : PySem.W.nsIn K mainGlobals "bit_of" = some (some (.ref f_bit_of)))
    (l_bit_of : K.lookup f_bit_of = some ⟨oc_bit_of, od_bit_of, .func (PySem.W.fnOf "bit_of" "bit_of" (defArgs s_bit_of) (defBody s_bit_of) (defScope s_bit_of) .none kV_bit_of dc_bit_of pm_bit_of an_bit_of cd_bit_of ct_bit_of), sl_bit_of⟩) (c_bit_of : PySem.W.codeIn K cd_bit_of "bit_of" = true) (k_bit_of : PySem.W.keepIn K (.ref f_bit_of) = true)
    (a_bits_by : PySem.W.nsIn K mainGlobals "bits_by" = some (some (.ref f_bits_by)))
    (l_bits_by : K.lookup f_bits_by = some ⟨oc_bits_by, od_bits_by, .func (PySem.W.fnOf "bits_by" "bits_by" (defArgs s_bits_by) (defBody s_bits_by) (defScope s_bits_by) .none kV_bits_by dc_bits_by pm_bits_by an_bits_by cd_bits_by ct_bits_by), sl_bits_by⟩) (c_bits_by : PySem.W.codeIn K cd_bits_by "bits_by" = true) (k_bits_by : PySem.W.keepIn K (.ref f_bits_by) = true)
    (a_Machine___init__ : PySem.W.findIn K (.ref C_Machine) "__init__" = some (some (.ref f_Machine___init__))) (i_Machine___init__ : PySem.W.isFn K (.ref f_Machine___init__) = true)
    (l_Machine___init__ : K.lookup f_Machine___init__ = some ⟨oc_Machine___init__, od_Machine___init__, .func (PySem.W.fnOf "__init__" "Machine.__init__" (defArgs s_Machine___init__) (defBody s_Machine___init__) (defScope s_Machine___init__) .none kV_Machine___init__ dc_Machine___init__ pm_Machine___init__ an_Machine___init__ cd_Machine___init__ ct_Machine___init__), sl_Machine___init__⟩) (c_Machine___init__ : PySem.W.codeIn K cd_Machine___init__ "Machine.__init__" = true) (k_Machine___init__ : PySem.W.keepIn K (.ref f_Machine___init__) = true)
    (a_Machine_stores : PySem.W.findIn K (.ref C_Machine) "stores" = some (some (.ref f_Machine_stores))) (i_Machine_stores : PySem.W.isFn K (.ref f_Machine_stores) = true)
    (l_Machine_stores : K.lookup f_Machine_stores = some ⟨oc_Machine_stores, od_Machine_stores, .func (PySem.W.fnOf "stores" "Machine.stores" (defArgs s_Machine_stores) (defBody s_Machine_stores) (defScope s_Machine_stores) .none kV_Machine_stores dc_Machine_stores pm_Machine_stores an_Machine_stores cd_Machine_stores ct_Machine_stores), sl_Machine_stores⟩) (c_Machine_stores : PySem.W.codeIn K cd_Machine_stores "Machine.stores" = true) (k_Machine_stores : PySem.W.keepIn K (.ref f_Machine_stores) = true)
    (a_Machine_need : PySem.W.findIn K (.ref C_Machine) "need" = some (some (.ref f_Machine_need))) (i_Machine_need : PySem.W.isFn K (.ref f_Machine_need) = true)
    (l_Machine_need : K.lookup f_Machine_need = some ⟨oc_Machine_need, od_Machine_need, .func (PySem.W.fnOf "need" "Machine.need" (defArgs s_Machine_need) (defBody s_Machine_need) (defScope s_Machine_need) .none kV_Machine_need dc_Machine_need pm_Machine_need an_Machine_need cd_Machine_need ct_Machine_need), sl_Machine_need⟩) (c_Machine_need : PySem.W.codeIn K cd_Machine_need "Machine.need" = true) (k_Machine_need : PySem.W.keepIn K (.ref f_Machine_need) = true)
    (a_Machine_step : PySem.W.findIn K (.ref C_Machine) "step" = some (some (.ref f_Machine_step))) (i_Machine_step : PySem.W.isFn K (.ref f_Machine_step) = true)
    (l_Machine_step : K.lookup f_Machine_step = some ⟨oc_Machine_step, od_Machine_step, .func (PySem.W.fnOf "step" "Machine.step" (defArgs s_Machine_step) (defBody s_Machine_step) (defScope s_Machine_step) .none kV_Machine_step dc_Machine_step pm_Machine_step an_Machine_step cd_Machine_step ct_Machine_step), sl_Machine_step⟩) (c_Machine_step : PySem.W.codeIn K cd_Machine_step "Machine.step" = true) (k_Machine_step : PySem.W.keepIn K (.ref f_Machine_step) = true)
    (a_Machine_walk : PySem.W.findIn K (.ref C_Machine) "walk" = some (some (.ref f_Machine_walk))) (i_Machine_walk : PySem.W.isFn K (.ref f_Machine_walk) = true)
    (l_Machine_walk : K.lookup f_Machine_walk = some ⟨oc_Machine_walk, od_Machine_walk, .func (PySem.W.fnOf "walk" "Machine.walk" (defArgs s_Machine_walk) (defBody s_Machine_walk) (defScope s_Machine_walk) .none kV_Machine_walk dc_Machine_walk pm_Machine_walk an_Machine_walk cd_Machine_walk ct_Machine_walk), sl_Machine_walk⟩) (c_Machine_walk : PySem.W.codeIn K cd_Machine_walk "Machine.walk" = true) (k_Machine_walk : PySem.W.keepIn K (.ref f_Machine_walk) = true)
    (a_Machine_after : PySem.W.findIn K (.ref C_Machine) "after" = some (some (.ref f_Machine_after))) (i_Machine_after : PySem.W.isFn K (.ref f_Machine_after) = true)
    {dT_Machine_after : Addr} {da_Machine_after : Value} {db_Machine_after : Option Addr} {dn_Machine_after : Nat} {ds_Machine_after : Array (Option Value)} {dt0_Machine_after : Tok}
    (l_Machine_after : K.lookup f_Machine_after = some ⟨oc_Machine_after, od_Machine_after, .func (PySem.W.fnOf "after" "Machine.after" (defArgs s_Machine_after) (defBody s_Machine_after) (defScope s_Machine_after) (.ref dT_Machine_after) kV_Machine_after dc_Machine_after pm_Machine_after an_Machine_after cd_Machine_after ct_Machine_after), sl_Machine_after⟩) (d_Machine_after : K.lookup dT_Machine_after = some ⟨da_Machine_after, db_Machine_after, .seq #[.int 0 dt0_Machine_after] dn_Machine_after, ds_Machine_after⟩) (c_Machine_after : PySem.W.codeIn K cd_Machine_after "Machine.after" = true) (k_Machine_after : PySem.W.keepIn K (.ref f_Machine_after) = true)
    (a_Machine_back : PySem.W.findIn K (.ref C_Machine) "back" = some (some (.ref f_Machine_back))) (i_Machine_back : PySem.W.isFn K (.ref f_Machine_back) = true)
    (l_Machine_back : K.lookup f_Machine_back = some ⟨oc_Machine_back, od_Machine_back, .func (PySem.W.fnOf "back" "Machine.back" (defArgs s_Machine_back) (defBody s_Machine_back) (defScope s_Machine_back) .none kV_Machine_back dc_Machine_back pm_Machine_back an_Machine_back cd_Machine_back ct_Machine_back), sl_Machine_back⟩) (c_Machine_back : PySem.W.codeIn K cd_Machine_back "Machine.back" = true) (k_Machine_back : PySem.W.keepIn K (.ref f_Machine_back) = true)
    (a_need_turns : PySem.W.nsIn K mainGlobals "need_turns" = some (some (.ref f_need_turns)))
    (l_need_turns : K.lookup f_need_turns = some ⟨oc_need_turns, od_need_turns, .func (PySem.W.fnOf "need_turns" "need_turns" (defArgs s_need_turns) (defBody s_need_turns) (defScope s_need_turns) .none kV_need_turns dc_need_turns pm_need_turns an_need_turns cd_need_turns ct_need_turns), sl_need_turns⟩) (c_need_turns : PySem.W.codeIn K cd_need_turns "need_turns" = true) (k_need_turns : PySem.W.keepIn K (.ref f_need_turns) = true)
    (a_need_handed : PySem.W.nsIn K mainGlobals "need_handed" = some (some (.ref f_need_handed)))
    (l_need_handed : K.lookup f_need_handed = some ⟨oc_need_handed, od_need_handed, .func (PySem.W.fnOf "need_handed" "need_handed" (defArgs s_need_handed) (defBody s_need_handed) (defScope s_need_handed) .none kV_need_handed dc_need_handed pm_need_handed an_need_handed cd_need_handed ct_need_handed), sl_need_handed⟩) (c_need_handed : PySem.W.codeIn K cd_need_handed "need_handed" = true) (k_need_handed : PySem.W.keepIn K (.ref f_need_handed) = true)
    (a_check_masks : PySem.W.nsIn K mainGlobals "check_masks" = some (some (.ref f_check_masks)))
    (l_check_masks : K.lookup f_check_masks = some ⟨oc_check_masks, od_check_masks, .func (PySem.W.fnOf "check_masks" "check_masks" (defArgs s_check_masks) (defBody s_check_masks) (defScope s_check_masks) .none kV_check_masks dc_check_masks pm_check_masks an_check_masks cd_check_masks ct_check_masks), sl_check_masks⟩) (c_check_masks : PySem.W.codeIn K cd_check_masks "check_masks" = true) (k_check_masks : PySem.W.keepIn K (.ref f_check_masks) = true)
    (a_missed : PySem.W.nsIn K mainGlobals "missed" = some (some (.ref f_missed)))
    (l_missed : K.lookup f_missed = some ⟨oc_missed, od_missed, .func (PySem.W.fnOf "missed" "missed" (defArgs s_missed) (defBody s_missed) (defScope s_missed) .none kV_missed dc_missed pm_missed an_missed cd_missed ct_missed), sl_missed⟩) (c_missed : PySem.W.codeIn K cd_missed "missed" = true) (k_missed : PySem.W.keepIn K (.ref f_missed) = true)
    (a_turns_width : PySem.W.nsIn K mainGlobals "turns_width" = some (some (.ref f_turns_width)))
    (l_turns_width : K.lookup f_turns_width = some ⟨oc_turns_width, od_turns_width, .func (PySem.W.fnOf "turns_width" "turns_width" (defArgs s_turns_width) (defBody s_turns_width) (defScope s_turns_width) .none kV_turns_width dc_turns_width pm_turns_width an_turns_width cd_turns_width ct_turns_width), sl_turns_width⟩) (c_turns_width : PySem.W.codeIn K cd_turns_width "turns_width" = true) (k_turns_width : PySem.W.keepIn K (.ref f_turns_width) = true)
    (a_missed_share : PySem.W.nsIn K mainGlobals "missed_share" = some (some (.ref f_missed_share)))
    (l_missed_share : K.lookup f_missed_share = some ⟨oc_missed_share, od_missed_share, .func (PySem.W.fnOf "missed_share" "missed_share" (defArgs s_missed_share) (defBody s_missed_share) (defScope s_missed_share) .none kV_missed_share dc_missed_share pm_missed_share an_missed_share cd_missed_share ct_missed_share), sl_missed_share⟩) (c_missed_share : PySem.W.codeIn K cd_missed_share "missed_share" = true) (k_missed_share : PySem.W.keepIn K (.ref f_missed_share) = true)
    (a_rows_in : PySem.W.nsIn K mainGlobals "rows_in" = some (some (.ref f_rows_in)))
    (l_rows_in : K.lookup f_rows_in = some ⟨oc_rows_in, od_rows_in, .func (PySem.W.fnOf "rows_in" "rows_in" (defArgs s_rows_in) (defBody s_rows_in) (defScope s_rows_in) .none kV_rows_in dc_rows_in pm_rows_in an_rows_in cd_rows_in ct_rows_in), sl_rows_in⟩) (c_rows_in : PySem.W.codeIn K cd_rows_in "rows_in" = true) (k_rows_in : PySem.W.keepIn K (.ref f_rows_in) = true)
    (a_missed_base : PySem.W.nsIn K mainGlobals "missed_base" = some (some (.ref f_missed_base)))
    (l_missed_base : K.lookup f_missed_base = some ⟨oc_missed_base, od_missed_base, .func (PySem.W.fnOf "missed_base" "missed_base" (defArgs s_missed_base) (defBody s_missed_base) (defScope s_missed_base) .none kV_missed_base dc_missed_base pm_missed_base an_missed_base cd_missed_base ct_missed_base), sl_missed_base⟩) (c_missed_base : PySem.W.codeIn K cd_missed_base "missed_base" = true) (k_missed_base : PySem.W.keepIn K (.ref f_missed_base) = true)
    (a_cell : PySem.W.nsIn K mainGlobals "_law_cell" = some (some (.ref f_cell)))
    (l_cell : K.lookup f_cell = some ⟨oc_cell, od_cell, .func (PySem.W.fnOf "_law_cell" "_law_cell" (defArgs s_cell) (defBody s_cell) (defScope s_cell) .none kV_cell dc_cell pm_cell an_cell cd_cell ct_cell), sl_cell⟩) (c_cell : PySem.W.codeIn K cd_cell "_law_cell" = true) (k_cell : PySem.W.keepIn K (.ref f_cell) = true)
    (a_mix : PySem.W.nsIn K mainGlobals "_law_mix" = some (some (.ref f_mix)))
    (l_mix : K.lookup f_mix = some ⟨oc_mix, od_mix, .func (PySem.W.fnOf "_law_mix" "_law_mix" (defArgs s_mix) (defBody s_mix) (defScope s_mix) .none kV_mix dc_mix pm_mix an_mix cd_mix ct_mix), sl_mix⟩) (c_mix : PySem.W.codeIn K cd_mix "_law_mix" = true) (k_mix : PySem.W.keepIn K (.ref f_mix) = true)
    (a_masks : PySem.W.nsIn K mainGlobals "_law_masks" = some (some (.ref f_masks)))
    (l_masks : K.lookup f_masks = some ⟨oc_masks, od_masks, .func (PySem.W.fnOf "_law_masks" "_law_masks" (defArgs s_masks) (defBody s_masks) (defScope s_masks) .none kV_masks dc_masks pm_masks an_masks cd_masks ct_masks), sl_masks⟩) (c_masks : PySem.W.codeIn K cd_masks "_law_masks" = true) (k_masks : PySem.W.keepIn K (.ref f_masks) = true)
    (a_thinned : PySem.W.nsIn K mainGlobals "_law_thinned" = some (some (.ref f_thinned)))
    (l_thinned : K.lookup f_thinned = some ⟨oc_thinned, od_thinned, .func (PySem.W.fnOf "_law_thinned" "_law_thinned" (defArgs s_thinned) (defBody s_thinned) (defScope s_thinned) .none kV_thinned dc_thinned pm_thinned an_thinned cd_thinned ct_thinned), sl_thinned⟩) (c_thinned : PySem.W.codeIn K cd_thinned "_law_thinned" = true) (k_thinned : PySem.W.keepIn K (.ref f_thinned) = true)
    (a_machine : PySem.W.nsIn K mainGlobals "_law_machine" = some (some (.ref f_machine)))
    (l_machine : K.lookup f_machine = some ⟨oc_machine, od_machine, .func (PySem.W.fnOf "_law_machine" "_law_machine" (defArgs s_machine) (defBody s_machine) (defScope s_machine) .none kV_machine dc_machine pm_machine an_machine cd_machine ct_machine), sl_machine⟩) (c_machine : PySem.W.codeIn K cd_machine "_law_machine" = true) (k_machine : PySem.W.keepIn K (.ref f_machine) = true)
    (a_odd : PySem.W.nsIn K mainGlobals "_law_odd" = some (some (.ref f_odd)))
    (l_odd : K.lookup f_odd = some ⟨oc_odd, od_odd, .func (PySem.W.fnOf "_law_odd" "_law_odd" (defArgs s_odd) (defBody s_odd) (defScope s_odd) .none kV_odd dc_odd pm_odd an_odd cd_odd ct_odd), sl_odd⟩) (c_odd : PySem.W.codeIn K cd_odd "_law_odd" = true) (k_odd : PySem.W.keepIn K (.ref f_odd) = true)
    (a_bits : PySem.W.nsIn K mainGlobals "_law_bits" = some (some (.ref f_bits)))
    (l_bits : K.lookup f_bits = some ⟨oc_bits, od_bits, .func (PySem.W.fnOf "_law_bits" "_law_bits" (defArgs s_bits) (defBody s_bits) (defScope s_bits) .none kV_bits dc_bits pm_bits an_bits cd_bits ct_bits), sl_bits⟩) (c_bits : PySem.W.codeIn K cd_bits "_law_bits" = true) (k_bits : PySem.W.keepIn K (.ref f_bits) = true)
    (a_Lis_mask : PySem.W.nsIn K mainGlobals "_law_is_mask" = some (some (.ref f_Lis_mask)))
    (l_Lis_mask : K.lookup f_Lis_mask = some ⟨oc_Lis_mask, od_Lis_mask, .func (PySem.W.fnOf "_law_is_mask" "_law_is_mask" (defArgs s_Lis_mask) (defBody s_Lis_mask) (defScope s_Lis_mask) .none kV_Lis_mask dc_Lis_mask pm_Lis_mask an_Lis_mask cd_Lis_mask ct_Lis_mask), sl_Lis_mask⟩) (c_Lis_mask : PySem.W.codeIn K cd_Lis_mask "_law_is_mask" = true) (k_Lis_mask : PySem.W.keepIn K (.ref f_Lis_mask) = true)
    (a_is_list : PySem.W.nsIn K mainGlobals "_law_is_list" = some (some (.ref f_is_list)))
    (l_is_list : K.lookup f_is_list = some ⟨oc_is_list, od_is_list, .func (PySem.W.fnOf "_law_is_list" "_law_is_list" (defArgs s_is_list) (defBody s_is_list) (defScope s_is_list) .none kV_is_list dc_is_list pm_is_list an_is_list cd_is_list ct_is_list), sl_is_list⟩) (c_is_list : PySem.W.codeIn K cd_is_list "_law_is_list" = true) (k_is_list : PySem.W.keepIn K (.ref f_is_list) = true)
    (a_check : PySem.W.nsIn K mainGlobals "_law_check" = some (some (.ref f_check)))
    (l_check : K.lookup f_check = some ⟨oc_check, od_check, .func (PySem.W.fnOf "_law_check" "_law_check" (defArgs s_check) (defBody s_check) (defScope s_check) .none kV_check dc_check pm_check an_check cd_check ct_check), sl_check⟩) (c_check : PySem.W.codeIn K cd_check "_law_check" = true) (k_check : PySem.W.keepIn K (.ref f_check) = true)
    (a_joined : PySem.W.nsIn K mainGlobals "_law_joined" = some (some (.ref f_joined)))
    (l_joined : K.lookup f_joined = some ⟨oc_joined, od_joined, .func (PySem.W.fnOf "_law_joined" "_law_joined" (defArgs s_joined) (defBody s_joined) (defScope s_joined) .none kV_joined dc_joined pm_joined an_joined cd_joined ct_joined), sl_joined⟩) (c_joined : PySem.W.codeIn K cd_joined "_law_joined" = true) (k_joined : PySem.W.keepIn K (.ref f_joined) = true)
    (a_parted : PySem.W.nsIn K mainGlobals "_law_parted" = some (some (.ref f_parted)))
    (l_parted : K.lookup f_parted = some ⟨oc_parted, od_parted, .func (PySem.W.fnOf "_law_parted" "_law_parted" (defArgs s_parted) (defBody s_parted) (defScope s_parted) .none kV_parted dc_parted pm_parted an_parted cd_parted ct_parted), sl_parted⟩) (c_parted : PySem.W.codeIn K cd_parted "_law_parted" = true) (k_parted : PySem.W.keepIn K (.ref f_parted) = true)
    (a_Lrank : PySem.W.nsIn K mainGlobals "_law_rank" = some (some (.ref f_Lrank)))
    (l_Lrank : K.lookup f_Lrank = some ⟨oc_Lrank, od_Lrank, .func (PySem.W.fnOf "_law_rank" "_law_rank" (defArgs s_Lrank) (defBody s_Lrank) (defScope s_Lrank) .none kV_Lrank dc_Lrank pm_Lrank an_Lrank cd_Lrank ct_Lrank), sl_Lrank⟩) (c_Lrank : PySem.W.codeIn K cd_Lrank "_law_rank" = true) (k_Lrank : PySem.W.keepIn K (.ref f_Lrank) = true)
    (a_single_checks : PySem.W.nsIn K mainGlobals "_law_single_checks" = some (some (.ref f_single_checks)))
    (l_single_checks : K.lookup f_single_checks = some ⟨oc_single_checks, od_single_checks, .func (PySem.W.fnOf "_law_single_checks" "_law_single_checks" (defArgs s_single_checks) (defBody s_single_checks) (defScope s_single_checks) .none kV_single_checks dc_single_checks pm_single_checks an_single_checks cd_single_checks ct_single_checks), sl_single_checks⟩) (c_single_checks : PySem.W.codeIn K cd_single_checks "_law_single_checks" = true) (k_single_checks : PySem.W.keepIn K (.ref f_single_checks) = true)
    (a_told_right : PySem.W.nsIn K mainGlobals "_law_told_right" = some (some (.ref f_told_right)))
    (l_told_right : K.lookup f_told_right = some ⟨oc_told_right, od_told_right, .func (PySem.W.fnOf "_law_told_right" "_law_told_right" (defArgs s_told_right) (defBody s_told_right) (defScope s_told_right) .none kV_told_right dc_told_right pm_told_right an_told_right cd_told_right ct_told_right), sl_told_right⟩) (c_told_right : PySem.W.codeIn K cd_told_right "_law_told_right" = true) (k_told_right : PySem.W.keepIn K (.ref f_told_right) = true)
    (a_all_walked : PySem.W.nsIn K mainGlobals "_law_all_walked" = some (some (.ref f_all_walked)))
    (l_all_walked : K.lookup f_all_walked = some ⟨oc_all_walked, od_all_walked, .func (PySem.W.fnOf "_law_all_walked" "_law_all_walked" (defArgs s_all_walked) (defBody s_all_walked) (defScope s_all_walked) .none kV_all_walked dc_all_walked pm_all_walked an_all_walked cd_all_walked ct_all_walked), sl_all_walked⟩) (c_all_walked : PySem.W.codeIn K cd_all_walked "_law_all_walked" = true) (k_all_walked : PySem.W.keepIn K (.ref f_all_walked) = true)
    (a_refused : PySem.W.nsIn K mainGlobals "_law_refused" = some (some (.ref f_refused)))
    (l_refused : K.lookup f_refused = some ⟨oc_refused, od_refused, .func (PySem.W.fnOf "_law_refused" "_law_refused" (defArgs s_refused) (defBody s_refused) (defScope s_refused) .none kV_refused dc_refused pm_refused an_refused cd_refused ct_refused), sl_refused⟩) (c_refused : PySem.W.codeIn K cd_refused "_law_refused" = true) (k_refused : PySem.W.keepIn K (.ref f_refused) = true)
    (a_law : PySem.W.nsIn K mainGlobals "law" = some (some (.ref f_law)))
    (l_law : K.lookup f_law = some ⟨oc_law, od_law, .func (PySem.W.fnOf "law" "law" (defArgs s_law) (defBody s_law) (defScope s_law) .none kV_law dc_law pm_law an_law cd_law ct_law), sl_law⟩) (c_law : PySem.W.codeIn K cd_law "law" = true) (k_law : PySem.W.keepIn K (.ref f_law) = true)
    (z_bool : PySem.W.nsIn K mainGlobals "bool" = some none)
    (z_divmod : PySem.W.nsIn K mainGlobals "divmod" = some none)
    (z_enumerate : PySem.W.nsIn K mainGlobals "enumerate" = some none)
    (z_int : PySem.W.nsIn K mainGlobals "int" = some none)
    (z_isinstance : PySem.W.nsIn K mainGlobals "isinstance" = some none)
    (z_len : PySem.W.nsIn K mainGlobals "len" = some none)
    (z_list : PySem.W.nsIn K mainGlobals "list" = some none)
    (z_max : PySem.W.nsIn K mainGlobals "max" = some none)
    (z_min : PySem.W.nsIn K mainGlobals "min" = some none)
    (z_range : PySem.W.nsIn K mainGlobals "range" = some none)
    (z_reversed : PySem.W.nsIn K mainGlobals "reversed" = some none)
    (z_sorted : PySem.W.nsIn K mainGlobals "sorted" = some none)
    (z_tuple : PySem.W.nsIn K mainGlobals "tuple" = some none)
    (z_zip : PySem.W.nsIn K mainGlobals "zip" = some none)
    : ∃ (fd : FuncData) (sp : Sp), (∀ (s : Shared) (v : Value), BindsTo s fd ⟨[v], []⟩ [("_law_script", v)]) ∧ (∀ (H : Hp) (a : Addr) (ns : List Int), ns.length ≤ 63 → SqL K H a (ns.map V.int) → sp [.ref a] H (fun v _ => v = .bl true) fun _ _ _ => False) ∧ ∀ base : Heap, K.In base → base.Ns mainGlobals mg → FnOk l.prog w K mg base CX0 9 fa fd ["_law_script"] sp := by
  have e := hfa.symm.trans (PySem.W.mg_of X G a_law)
  cases e
  have F_is_whole := fun_mk (st := s_is_whole) l_is_whole c_is_whole k_is_whole
  have b_is_whole := F_is_whole.binds (ps := ["thing"]) fun _ _ _ _ _ _ us hl => match us, hl with | [_], _ => rfl
  have F_is_mask := fun_mk (st := s_is_mask) l_is_mask c_is_mask k_is_mask
  have b_is_mask := F_is_mask.binds (ps := ["thing", "width"]) fun _ _ _ _ _ _ us hl => match us, hl with | [_, _], _ => rfl
  have F_even := fun_mk (st := s_even) l_even c_even k_even
  have b_even := F_even.binds (ps := ["number"]) fun _ _ _ _ _ _ us hl => match us, hl with | [_], _ => rfl
  have F_bits_of := fun_mk (st := s_bits_of) l_bits_of c_bits_of k_bits_of
  have b_bits_of := F_bits_of.binds (ps := ["mask"]) fun _ _ _ _ _ _ us hl => match us, hl with | [_], _ => rfl
  have F_Steps_lowered := fun_mk (st := s_Steps_lowered) l_Steps_lowered c_Steps_lowered k_Steps_lowered
  have b_Steps_lowered := F_Steps_lowered.binds (ps := ["self", "row", "places"]) fun _ _ _ _ _ _ us hl => match us, hl with | [_, _, _], _ => rfl
  have F_Steps_crossing := fun_mk (st := s_Steps_crossing) l_Steps_crossing c_Steps_crossing k_Steps_crossing
  have b_Steps_crossing := F_Steps_crossing.binds (ps := ["self", "bit"]) fun _ _ _ _ _ _ us hl => match us, hl with | [_, _], _ => rfl
  have F_Steps___init__ := fun_mk (st := s_Steps___init__) l_Steps___init__ c_Steps___init__ k_Steps___init__
  have b_Steps___init__ := F_Steps___init__.binds (ps := ["self", "rows"]) fun _ _ _ _ _ _ us hl => match us, hl with | [_, _], _ => rfl
  have F_rank := fun_mk (st := s_rank) l_rank c_rank k_rank
  have b_rank := F_rank.binds (ps := ["rows"]) fun _ _ _ _ _ _ us hl => match us, hl with | [_], _ => rfl
  have F_across := fun_mk (st := s_across) l_across c_across k_across
  have b_across := F_across.binds (ps := ["rows", "width"]) fun _ _ _ _ _ _ us hl => match us, hl with | [_, _], _ => rfl
  have F_is_pairs := fun_mk (st := s_is_pairs) l_is_pairs c_is_pairs k_is_pairs
  have b_is_pairs := F_is_pairs.binds (ps := ["thing", "most", "stores", "inputs"]) fun _ _ _ _ _ _ us hl => match us, hl with | [_, _, _, _], _ => rfl
  have F_bit_of := fun_mk (st := s_bit_of) l_bit_of c_bit_of k_bit_of
  have b_bit_of := F_bit_of.binds (ps := ["pair", "state", "row"]) fun _ _ _ _ _ _ us hl => match us, hl with | [_, _, _], _ => rfl
  have F_bits_by := fun_mk (st := s_bits_by) l_bits_by c_bits_by k_bits_by
  have b_bits_by := F_bits_by.binds (ps := ["pairs", "state", "row"]) fun _ _ _ _ _ _ us hl => match us, hl with | [_, _, _], _ => rfl
  have F_Machine___init__ := fun_mk (st := s_Machine___init__) l_Machine___init__ c_Machine___init__ k_Machine___init__
  have b_Machine___init__ := F_Machine___init__.binds (ps := ["self", "inputs", "nexts", "outs"]) fun _ _ _ _ _ _ us hl => match us, hl with | [_, _, _, _], _ => rfl
  have F_Machine_stores := fun_mk (st := s_Machine_stores) l_Machine_stores c_Machine_stores k_Machine_stores
  have b_Machine_stores := F_Machine_stores.binds (ps := ["self"]) fun _ _ _ _ _ _ us hl => match us, hl with | [_], _ => rfl
  have F_Machine_need := fun_mk (st := s_Machine_need) l_Machine_need c_Machine_need k_Machine_need
  have b_Machine_need := F_Machine_need.binds (ps := ["self", "thing", "width"]) fun _ _ _ _ _ _ us hl => match us, hl with | [_, _, _], _ => rfl
  have F_Machine_step := fun_mk (st := s_Machine_step) l_Machine_step c_Machine_step k_Machine_step
  have b_Machine_step := F_Machine_step.binds (ps := ["self", "state", "row"]) fun _ _ _ _ _ _ us hl => match us, hl with | [_, _, _], _ => rfl
  have F_Machine_walk := fun_mk (st := s_Machine_walk) l_Machine_walk c_Machine_walk k_Machine_walk
  have b_Machine_walk := F_Machine_walk.binds (ps := ["self", "rows", "state"]) fun _ _ _ _ _ _ us hl => match us, hl with | [_, _, _], _ => rfl
  have F_Machine_after := funD_mk (st := s_Machine_after) (dvs := [.int 0]) l_Machine_after c_Machine_after k_Machine_after d_Machine_after (.cons ⟨_, rfl⟩ .nil) (by simp)
  have b_Machine_after := FunD.full (ps := ["self", "rows", "state"]) F_Machine_after (by simp) fun _ _ _ _ _ _ _ us its h1 h2 => match us, its, h1, h2 with | [_, _, _], [_], _, _ => ⟨_, rfl, rfl⟩
  have B_Machine_after := FunD.binds1 (ps := ["self", "rows", "state"]) F_Machine_after 2 0 (by simp) rfl fun _ _ _ _ _ _ _ us its h1 h2 => match us, its, h1, h2 with | [_, _], [_], _, _ => ⟨_, rfl, rfl⟩
  have F_Machine_back := fun_mk (st := s_Machine_back) l_Machine_back c_Machine_back k_Machine_back
  have b_Machine_back := F_Machine_back.binds (ps := ["self", "mask"]) fun _ _ _ _ _ _ us hl => match us, hl with | [_, _], _ => rfl
  have F_need_turns := fun_mk (st := s_need_turns) l_need_turns c_need_turns k_need_turns
  have b_need_turns := F_need_turns.binds (ps := ["turns"]) fun _ _ _ _ _ _ us hl => match us, hl with | [_], _ => rfl
  have F_need_handed := fun_mk (st := s_need_handed) l_need_handed c_need_handed k_need_handed
  have b_need_handed := F_need_handed.binds (ps := ["machine", "rows"]) fun _ _ _ _ _ _ us hl => match us, hl with | [_, _], _ => rfl
  have F_check_masks := fun_mk (st := s_check_masks) l_check_masks c_check_masks k_check_masks
  have b_check_masks := F_check_masks.binds (ps := ["machine", "turns"]) fun _ _ _ _ _ _ us hl => match us, hl with | [_, _], _ => rfl
  have F_missed := fun_mk (st := s_missed) l_missed c_missed k_missed
  have b_missed := F_missed.binds (ps := ["machine", "rows"]) fun _ _ _ _ _ _ us hl => match us, hl with | [_, _], _ => rfl
  have F_turns_width := fun_mk (st := s_turns_width) l_turns_width c_turns_width k_turns_width
  have b_turns_width := F_turns_width.binds (ps := ["machine", "turns"]) fun _ _ _ _ _ _ us hl => match us, hl with | [_, _], _ => rfl
  have F_missed_share := fun_mk (st := s_missed_share) l_missed_share c_missed_share k_missed_share
  have b_missed_share := F_missed_share.binds (ps := ["machine", "turns"]) fun _ _ _ _ _ _ us hl => match us, hl with | [_, _], _ => rfl
  have F_rows_in := fun_mk (st := s_rows_in) l_rows_in c_rows_in k_rows_in
  have b_rows_in := F_rows_in.binds (ps := ["mask", "turns", "inputs"]) fun _ _ _ _ _ _ us hl => match us, hl with | [_, _, _], _ => rfl
  have F_missed_base := fun_mk (st := s_missed_base) l_missed_base c_missed_base k_missed_base
  have b_missed_base := F_missed_base.binds (ps := ["machine", "turns"]) fun _ _ _ _ _ _ us hl => match us, hl with | [_, _], _ => rfl
  have F_cell := fun_mk (st := s_cell) l_cell c_cell k_cell
  have b_cell := F_cell.binds (ps := ["_law_script", "_law_k"]) fun _ _ _ _ _ _ us hl => match us, hl with | [_, _], _ => rfl
  have F_mix := fun_mk (st := s_mix) l_mix c_mix k_mix
  have b_mix := F_mix.binds (ps := ["_law_cell_here", "_law_k"]) fun _ _ _ _ _ _ us hl => match us, hl with | [_, _], _ => rfl
  have F_masks := fun_mk (st := s_masks) l_masks c_masks k_masks
  have b_masks := F_masks.binds (ps := ["_law_cell_here", "_law_start", "_law_many", "_law_width", "_law_digits"]) fun _ _ _ _ _ _ us hl => match us, hl with | [_, _, _, _, _], _ => rfl
  have F_thinned := fun_mk (st := s_thinned) l_thinned c_thinned k_thinned
  have b_thinned := F_thinned.binds (ps := ["_law_masks_here", "_law_cell_here", "_law_start", "_law_way"]) fun _ _ _ _ _ _ us hl => match us, hl with | [_, _, _, _], _ => rfl
  have F_machine := fun_mk (st := s_machine) l_machine c_machine k_machine
  have b_machine := F_machine.binds (ps := ["_law_script", "_law_start", "_law_most"]) fun _ _ _ _ _ _ us hl => match us, hl with | [_, _, _], _ => rfl
  have F_odd := fun_mk (st := s_odd) l_odd c_odd k_odd
  have b_odd := F_odd.binds (ps := ["_law_number"]) fun _ _ _ _ _ _ us hl => match us, hl with | [_], _ => rfl
  have F_bits := fun_mk (st := s_bits) l_bits c_bits k_bits
  have b_bits := F_bits.binds (ps := ["_law_pairs", "_law_state", "_law_row"]) fun _ _ _ _ _ _ us hl => match us, hl with | [_, _, _], _ => rfl
  have F_Lis_mask := fun_mk (st := s_Lis_mask) l_Lis_mask c_Lis_mask k_Lis_mask
  have b_Lis_mask := F_Lis_mask.binds (ps := ["_law_thing", "_law_width"]) fun _ _ _ _ _ _ us hl => match us, hl with | [_, _], _ => rfl
  have F_is_list := fun_mk (st := s_is_list) l_is_list c_is_list k_is_list
  have b_is_list := F_is_list.binds (ps := ["_law_found", "_law_width"]) fun _ _ _ _ _ _ us hl => match us, hl with | [_, _], _ => rfl
  have F_check := fun_mk (st := s_check) l_check c_check k_check
  have b_check := F_check.binds (ps := ["_law_tables", "_law_rows_here"]) fun _ _ _ _ _ _ us hl => match us, hl with | [_, _], _ => rfl
  have F_joined := fun_mk (st := s_joined) l_joined c_joined k_joined
  have b_joined := F_joined.binds (ps := ["_law_rows_here", "_law_inputs"]) fun _ _ _ _ _ _ us hl => match us, hl with | [_, _], _ => rfl
  have F_parted := fun_mk (st := s_parted) l_parted c_parted k_parted
  have b_parted := F_parted.binds (ps := ["_law_joined_here", "_law_turns", "_law_inputs"]) fun _ _ _ _ _ _ us hl => match us, hl with | [_, _, _], _ => rfl
  have F_Lrank := fun_mk (st := s_Lrank) l_Lrank c_Lrank k_Lrank
  have b_Lrank := F_Lrank.binds (ps := ["_law_masks_here"]) fun _ _ _ _ _ _ us hl => match us, hl with | [_], _ => rfl
  have F_single_checks := fun_mk (st := s_single_checks) l_single_checks c_single_checks k_single_checks
  have b_single_checks := F_single_checks.binds (ps := ["_law_tables", "_law_turns"]) fun _ _ _ _ _ _ us hl => match us, hl with | [_, _], _ => rfl
  have F_told_right := fun_mk (st := s_told_right) l_told_right c_told_right k_told_right
  have b_told_right := F_told_right.binds (ps := ["_law_machine_here", "_law_tables", "_law_turns", "_law_told"]) fun _ _ _ _ _ _ us hl => match us, hl with | [_, _, _, _], _ => rfl
  have F_all_walked := fun_mk (st := s_all_walked) l_all_walked c_all_walked k_all_walked
  have b_all_walked := F_all_walked.binds (ps := ["_law_tables", "_law_turns", "_law_many"]) fun _ _ _ _ _ _ us hl => match us, hl with | [_, _, _], _ => rfl
  have F_refused := fun_mk (st := s_refused) l_refused c_refused k_refused
  have b_refused := F_refused.binds (ps := ["_law_machine_here", "_law_thing", "_law_way"]) fun _ _ _ _ _ _ us hl => match us, hl with | [_, _, _], _ => rfl
  have F_law := fun_mk (st := s_law) l_law c_law k_law
  refine ⟨PySem.W.fnOf "law" "law" (defArgs s_law) (defBody s_law) (defScope s_law) .none kV_law dc_law pm_law an_law cd_law ct_law, sp_law K ⟨C_Machine, C_Steps, C_BadMask, C_BadRow, C_WireError⟩, fun s v => .of_eq rfl, fun H a ns hl  hS => ⟨H, .ref a, ns, fun b => b = true, rfl, Ex.rfl', ⟨a, rfl, hS⟩, w_law hl  rfl, fun z hz _ _ _ => by subst hz; rfl⟩, fun base _ _ => ?_⟩
  have T : Tz K mg ⟨C_Machine, C_Steps, C_BadMask, C_BadRow, C_WireError⟩ := ⟨⟨pg_Machine, hd_Machine, po_Machine, sa_Machine⟩, na_Machine_inputs, na_Machine_nexts, na_Machine_outs, ⟨pg_Steps, hd_Steps, po_Steps, sa_Steps⟩, na_Steps_kept, na_Steps_found, na_Steps_gone, ⟨xX_BadMask, PySem.W.mg_of X G aC_BadMask, kX_BadMask, bX_BadMask, tX_BadMask⟩, ⟨xX_BadRow, PySem.W.mg_of X G aC_BadRow, kX_BadRow, bX_BadRow, tX_BadRow⟩, ⟨xX_WireError, PySem.W.mg_of X G aC_WireError, kX_WireError, bX_WireError, tX_WireError⟩, ⟨_, PySem.W.mg_of X G u_MOST_INPUTS, _, rfl⟩, ⟨_, PySem.W.mg_of X G u_MOST_OUTS, _, rfl⟩, ⟨_, PySem.W.mg_of X G u_MOST_STORES, _, rfl⟩, ⟨_, PySem.W.mg_of X G u_MOST_TURNS, _, rfl⟩, exm_of bX_BadRow iX_BadRow tX_BadRow sX_BadRow_BadRow⟩
  have C_is_whole := ok_is_whole (P := l.prog) (w0 := w) (base := base) T F_is_whole (PySem.W.mg_of X G a_is_whole) b_is_whole (PySem.W.mg_none_of X G z_bool) (PySem.W.mg_none_of X G z_int) (PySem.W.mg_none_of X G z_isinstance)
  have C_is_mask := ok_is_mask (P := l.prog) (w0 := w) (base := base) T F_is_mask (PySem.W.mg_of X G a_is_mask) b_is_mask C_is_whole
  have C_even := ok_even (P := l.prog) (w0 := w) (base := base) T F_even (PySem.W.mg_of X G a_even) b_even
  have C_bits_of := ok_bits_of (P := l.prog) (w0 := w) (base := base) T F_bits_of (PySem.W.mg_of X G a_bits_of) b_bits_of
  have C_Steps_lowered := ok_Steps_lowered (P := l.prog) (w0 := w) (base := base) T F_Steps_lowered ⟨a_Steps_lowered, i_Steps_lowered, k_Steps_lowered⟩ b_Steps_lowered
  have C_Steps_crossing := ok_Steps_crossing (P := l.prog) (w0 := w) (base := base) T F_Steps_crossing ⟨a_Steps_crossing, i_Steps_crossing, k_Steps_crossing⟩ b_Steps_crossing C_even (PySem.W.mg_none_of X G z_sorted)
  have C_Steps___init__ := ok_Steps___init__ (P := l.prog) (w0 := w) (base := base) T F_Steps___init__ ⟨mk_Steps, a_Steps___init__, i_Steps___init__, kc_Steps⟩ (PySem.W.mg_of X G aC_Steps) b_Steps___init__ C_Steps_lowered (PySem.W.mg_none_of X G z_enumerate)
  have C_rank := ok_rank (P := l.prog) (w0 := w) (base := base) T F_rank (PySem.W.mg_of X G a_rank) b_rank C_Steps___init__ (PySem.W.mg_none_of X G z_len)
  have C_across := ok_across (P := l.prog) (w0 := w) (base := base) T F_across (PySem.W.mg_of X G a_across) b_across C_Steps___init__ C_Steps_crossing (PySem.W.mg_none_of X G z_range)
  have C_is_pairs := ok_is_pairs (P := l.prog) (w0 := w) (base := base) T F_is_pairs (PySem.W.mg_of X G a_is_pairs) b_is_pairs C_is_mask (PySem.W.mg_none_of X G z_isinstance) (PySem.W.mg_none_of X G z_len) (PySem.W.mg_none_of X G z_list) (PySem.W.mg_none_of X G z_tuple)
  have C_bit_of := ok_bit_of (P := l.prog) (w0 := w) (base := base) T F_bit_of (PySem.W.mg_of X G a_bit_of) b_bit_of C_even (PySem.W.mg_none_of X G z_int)
  have C_bits_by := ok_bits_by (P := l.prog) (w0 := w) (base := base) T F_bits_by (PySem.W.mg_of X G a_bits_by) b_bits_by C_bit_of (PySem.W.mg_none_of X G z_enumerate)
  have C_Machine___init__ := ok_Machine___init__ (P := l.prog) (w0 := w) (base := base) T F_Machine___init__ ⟨mk_Machine, a_Machine___init__, i_Machine___init__, kc_Machine⟩ (PySem.W.mg_of X G aC_Machine) b_Machine___init__ C_is_whole C_is_pairs (PySem.W.mg_none_of X G z_isinstance) (PySem.W.mg_none_of X G z_len) (PySem.W.mg_none_of X G z_list) (PySem.W.mg_none_of X G z_tuple)
  have C_Machine_stores := ok_Machine_stores (P := l.prog) (w0 := w) (base := base) T F_Machine_stores ⟨a_Machine_stores, i_Machine_stores, k_Machine_stores⟩ b_Machine_stores (PySem.W.mg_none_of X G z_len)
  have C_Machine_need := ok_Machine_need (P := l.prog) (w0 := w) (base := base) T F_Machine_need ⟨a_Machine_need, i_Machine_need, k_Machine_need⟩ b_Machine_need C_is_mask
  have C_Machine_step := ok_Machine_step (P := l.prog) (w0 := w) (base := base) T F_Machine_step ⟨a_Machine_step, i_Machine_step, k_Machine_step⟩ b_Machine_step C_Machine_stores C_Machine_need C_bits_by
  have C_Machine_walk := ok_Machine_walk (P := l.prog) (w0 := w) (base := base) T F_Machine_walk ⟨a_Machine_walk, i_Machine_walk, k_Machine_walk⟩ b_Machine_walk C_Machine_stores C_Machine_need C_Machine_step
  have C_Machine_after := ok_Machine_after (P := l.prog) (w0 := w) (base := base) T F_Machine_after ⟨a_Machine_after, i_Machine_after, k_Machine_after⟩ b_Machine_after B_Machine_after C_Machine_walk
  have C_Machine_back := ok_Machine_back (P := l.prog) (w0 := w) (base := base) T F_Machine_back ⟨a_Machine_back, i_Machine_back, k_Machine_back⟩ b_Machine_back C_Machine_stores C_Machine_need C_bits_of
  have C_need_turns := ok_need_turns (P := l.prog) (w0 := w) (base := base) T F_need_turns (PySem.W.mg_of X G a_need_turns) b_need_turns C_is_whole
  have C_need_handed := ok_need_handed (P := l.prog) (w0 := w) (base := base) T F_need_handed (PySem.W.mg_of X G a_need_handed) b_need_handed C_is_mask (PySem.W.mg_none_of X G z_isinstance) (PySem.W.mg_none_of X G z_len) (PySem.W.mg_none_of X G z_list)
  have C_check_masks := ok_check_masks (P := l.prog) (w0 := w) (base := base) T F_check_masks (PySem.W.mg_of X G a_check_masks) b_check_masks C_need_turns C_Machine_stores C_Machine_back (PySem.W.mg_none_of X G z_range)
  have C_missed := ok_missed (P := l.prog) (w0 := w) (base := base) T F_missed (PySem.W.mg_of X G a_missed) b_missed C_need_handed C_Machine_after (PySem.W.mg_none_of X G z_max)
  have C_turns_width := ok_turns_width (P := l.prog) (w0 := w) (base := base) T F_turns_width (PySem.W.mg_of X G a_turns_width) b_turns_width C_need_turns
  have C_missed_share := ok_missed_share (P := l.prog) (w0 := w) (base := base) T F_missed_share (PySem.W.mg_of X G a_missed_share) b_missed_share C_turns_width C_check_masks C_rank
  have C_rows_in := ok_rows_in (P := l.prog) (w0 := w) (base := base) T F_rows_in (PySem.W.mg_of X G a_rows_in) b_rows_in (PySem.W.mg_none_of X G z_divmod) (PySem.W.mg_none_of X G z_range)
  have C_missed_base := ok_missed_base (P := l.prog) (w0 := w) (base := base) T F_missed_base (PySem.W.mg_of X G a_missed_base) b_missed_base C_turns_width C_check_masks C_across C_rows_in
  have C_cell := ok_cell (P := l.prog) (w0 := w) (base := base) T F_cell (PySem.W.mg_of X G a_cell) b_cell (PySem.W.mg_none_of X G z_len)
  have C_mix := ok_mix (P := l.prog) (w0 := w) (base := base) T F_mix (PySem.W.mg_of X G a_mix) b_mix
  have C_masks := ok_masks (P := l.prog) (w0 := w) (base := base) T F_masks (PySem.W.mg_of X G a_masks) b_masks C_mix (PySem.W.mg_none_of X G z_range)
  have C_thinned := ok_thinned (P := l.prog) (w0 := w) (base := base) T F_thinned (PySem.W.mg_of X G a_thinned) b_thinned C_mix (PySem.W.mg_none_of X G z_enumerate)
  have C_machine := ok_machine (P := l.prog) (w0 := w) (base := base) T F_machine (PySem.W.mg_of X G a_machine) b_machine C_cell C_mix C_masks C_thinned (PySem.W.mg_none_of X G z_enumerate) (PySem.W.mg_none_of X G z_list) (PySem.W.mg_none_of X G z_zip)
  have C_odd := ok_odd (P := l.prog) (w0 := w) (base := base) T F_odd (PySem.W.mg_of X G a_odd) b_odd
  have C_bits := ok_bits (P := l.prog) (w0 := w) (base := base) T F_bits (PySem.W.mg_of X G a_bits) b_bits C_odd (PySem.W.mg_none_of X G z_enumerate)
  have C_Lis_mask := ok_Lis_mask (P := l.prog) (w0 := w) (base := base) T F_Lis_mask (PySem.W.mg_of X G a_Lis_mask) b_Lis_mask (PySem.W.mg_none_of X G z_bool) (PySem.W.mg_none_of X G z_int) (PySem.W.mg_none_of X G z_isinstance)
  have C_is_list := ok_is_list (P := l.prog) (w0 := w) (base := base) T F_is_list (PySem.W.mg_of X G a_is_list) b_is_list C_Lis_mask (PySem.W.mg_none_of X G z_isinstance) (PySem.W.mg_none_of X G z_list)
  have C_check := ok_check (P := l.prog) (w0 := w) (base := base) T F_check (PySem.W.mg_of X G a_check) b_check C_bits
  have C_joined := ok_joined (P := l.prog) (w0 := w) (base := base) T F_joined (PySem.W.mg_of X G a_joined) b_joined (PySem.W.mg_none_of X G z_reversed)
  have C_parted := ok_parted (P := l.prog) (w0 := w) (base := base) T F_parted (PySem.W.mg_of X G a_parted) b_parted (PySem.W.mg_none_of X G z_range)
  have C_Lrank := ok_Lrank (P := l.prog) (w0 := w) (base := base) T F_Lrank (PySem.W.mg_of X G a_Lrank) b_Lrank (PySem.W.mg_none_of X G z_len) (PySem.W.mg_none_of X G z_min)
  have C_single_checks := ok_single_checks (P := l.prog) (w0 := w) (base := base) T F_single_checks (PySem.W.mg_of X G a_single_checks) b_single_checks C_parted C_check (PySem.W.mg_none_of X G z_range)
  have C_told_right := ok_told_right (P := l.prog) (w0 := w) (base := base) T F_told_right (PySem.W.mg_of X G a_told_right) b_told_right C_is_list C_check C_missed C_joined C_Lrank C_single_checks (PySem.W.mg_none_of X G z_isinstance) (PySem.W.mg_none_of X G z_len) (PySem.W.mg_none_of X G z_list)
  have C_all_walked := ok_all_walked (P := l.prog) (w0 := w) (base := base) T F_all_walked (PySem.W.mg_of X G a_all_walked) b_all_walked C_parted C_check (PySem.W.mg_none_of X G z_int) (PySem.W.mg_none_of X G z_range)
  have C_refused := ok_refused (P := l.prog) (w0 := w) (base := base) T F_refused (PySem.W.mg_of X G a_refused) b_refused C_missed_base C_missed_share
  exact ok_law T F_law C_machine C_Machine___init__ C_cell C_missed_base C_told_right C_missed_share C_all_walked C_refused (PySem.W.mg_none_of X G z_len) (PySem.W.mg_none_of X G z_list)
theorem walk {l : PySem.W.OpenLaw} {q : Program} {loose : List Str} {XP : (Str → Option Value) → Heap → Prop} {YP : World → Heap → Prop} {d : DefRec} {K : Params → PySem.W.Frag} (hn : l.most = some 63) (hdf : d.params.defaults = [])
    (hY : ∀ (w : World) (h : Heap), YP w h → (K w.params).In h)
    (F : ∀ (w : World) (mg : Str → Option Value) (fa : Addr) (h : Heap), (K w.params).In h → h.Ns mainGlobals mg → mg d.name = some (.ref fa) → ∃ (fd : FuncData) (sp : Sp), (∀ (s : Shared) (u : Value), BindsTo s fd ⟨[u], []⟩ [("_law_script", u)]) ∧ (∀ (H : Hp) (a : Addr) (ns : List Int), ns.length ≤ 63 → SqL (K w.params) H a (ns.map V.int) → sp [.ref a] H (fun v _ => v = .bl true) fun _ _ _ => False) ∧ ∀ base : Heap, (K w.params).In base → base.Ns mainGlobals mg → FnOk l.prog w (K w.params) mg base CX0 9 fa fd ["_law_script"] sp) :
    PySem.W.WalkO q loose XP YP l.row.toRowW d [] (fun f vs => PySem.call f vs) := by
  refine Att.attach_call hn hdf fun w s₀ s₁ mg mb fa o pm cd doc a vs ns G Y ho hd hcd hmg hobj hints hlen hg => ?_
  have KX := hY w _ Y
  obtain ⟨fd, sp, hb, hsp, hF⟩ := F w mg fa _ KX G.T.g hmg
  exact law_call (k := 9) (x := "_law_script") (CX := CX0) KX G.T.g G.T.b G.T.builtins G.T.nolimit hg hobj hints (Nat.le_trans hlen (by decide)) ⟨rfl, by decide, by decide⟩ hF hb (fun H hO hS => hsp H a ns hlen hS) fun H e s' z => z
end My
open PySem PySem.W PyProof.Rows
set_option maxRecDepth 100000 in
set_option maxHeartbeats 0 in
theorem PySem.Challenge.cw_sumwires_k83_whole_what_is_missed_holds : PySem.Challenge.rw_sumwires_k83_whole_what_is_missed.Holds := by
  w_on; o_law; k_head; (case hw => w_witness2)
  k_fill
  refine My.walk (l := PySem.Challenge.rw_sumwires_k83_whole_what_is_missed) rfl rfl (fun w h Y => PySem.W.kIn_of Y) ?F
  case F =>
    intro w mg fa h KX G hmg
    refine' My.all_mk KX G hmg ?aC_Machine ?pg_Machine ?hd_Machine ?po_Machine ?sa_Machine ?mk_Machine ?kc_Machine ?na_Machine_inputs ?na_Machine_nexts ?na_Machine_outs ?aC_Steps ?pg_Steps ?hd_Steps ?po_Steps ?sa_Steps ?mk_Steps ?kc_Steps ?na_Steps_kept ?na_Steps_found ?na_Steps_gone ?aC_BadMask ?xX_BadMask ?kX_BadMask ?bX_BadMask ?tX_BadMask ?iX_BadMask ?aC_BadRow ?xX_BadRow ?kX_BadRow ?bX_BadRow ?tX_BadRow ?iX_BadRow ?aC_WireError ?xX_WireError ?kX_WireError ?bX_WireError ?tX_WireError ?iX_WireError ?u_MOST_INPUTS ?u_MOST_OUTS ?u_MOST_STORES ?u_MOST_TURNS ?sX_BadRow_BadRow ?a_is_whole ?l_is_whole ?c_is_whole ?k_is_whole ?a_is_mask ?l_is_mask ?c_is_mask ?k_is_mask ?a_even ?l_even ?c_even ?k_even ?a_bits_of ?l_bits_of ?c_bits_of ?k_bits_of ?a_Steps_lowered ?i_Steps_lowered ?l_Steps_lowered ?c_Steps_lowered ?k_Steps_lowered ?a_Steps_crossing ?i_Steps_crossing ?l_Steps_crossing ?c_Steps_crossing ?k_Steps_crossing ?a_Steps___init__ ?i_Steps___init__ ?l_Steps___init__ ?c_Steps___init__ ?k_Steps___init__ ?a_rank ?l_rank ?c_rank ?k_rank ?a_across ?l_across ?c_across ?k_across ?a_is_pairs ?l_is_pairs ?c_is_pairs ?k_is_pairs ?a_bit_of ?l_bit_of ?c_bit_of ?k_bit_of ?a_bits_by ?l_bits_by ?c_bits_by ?k_bits_by ?a_Machine___init__ ?i_Machine___init__ ?l_Machine___init__ ?c_Machine___init__ ?k_Machine___init__ ?a_Machine_stores ?i_Machine_stores ?l_Machine_stores ?c_Machine_stores ?k_Machine_stores ?a_Machine_need ?i_Machine_need ?l_Machine_need ?c_Machine_need ?k_Machine_need ?a_Machine_step ?i_Machine_step ?l_Machine_step ?c_Machine_step ?k_Machine_step ?a_Machine_walk ?i_Machine_walk ?l_Machine_walk ?c_Machine_walk ?k_Machine_walk ?a_Machine_after ?i_Machine_after ?l_Machine_after ?d_Machine_after ?c_Machine_after ?k_Machine_after ?a_Machine_back ?i_Machine_back ?l_Machine_back ?c_Machine_back ?k_Machine_back ?a_need_turns ?l_need_turns ?c_need_turns ?k_need_turns ?a_need_handed ?l_need_handed ?c_need_handed ?k_need_handed ?a_check_masks ?l_check_masks ?c_check_masks ?k_check_masks ?a_missed ?l_missed ?c_missed ?k_missed ?a_turns_width ?l_turns_width ?c_turns_width ?k_turns_width ?a_missed_share ?l_missed_share ?c_missed_share ?k_missed_share ?a_rows_in ?l_rows_in ?c_rows_in ?k_rows_in ?a_missed_base ?l_missed_base ?c_missed_base ?k_missed_base ?a_cell ?l_cell ?c_cell ?k_cell ?a_mix ?l_mix ?c_mix ?k_mix ?a_masks ?l_masks ?c_masks ?k_masks ?a_thinned ?l_thinned ?c_thinned ?k_thinned ?a_machine ?l_machine ?c_machine ?k_machine ?a_odd ?l_odd ?c_odd ?k_odd ?a_bits ?l_bits ?c_bits ?k_bits ?a_Lis_mask ?l_Lis_mask ?c_Lis_mask ?k_Lis_mask ?a_is_list ?l_is_list ?c_is_list ?k_is_list ?a_check ?l_check ?c_check ?k_check ?a_joined ?l_joined ?c_joined ?k_joined ?a_parted ?l_parted ?c_parted ?k_parted ?a_Lrank ?l_Lrank ?c_Lrank ?k_Lrank ?a_single_checks ?l_single_checks ?c_single_checks ?k_single_checks ?a_told_right ?l_told_right ?c_told_right ?k_told_right ?a_all_walked ?l_all_walked ?c_all_walked ?k_all_walked ?a_refused ?l_refused ?c_refused ?k_refused ?a_law ?l_law ?c_law ?k_law ?z_bool ?z_divmod ?z_enumerate ?z_int ?z_isinstance ?z_len ?z_list ?z_max ?z_min ?z_range ?z_reversed ?z_sorted ?z_tuple ?z_zip
    (case aC_Machine => k_is); (case pg_Machine => k_is); (case hd_Machine => k_is); (case po_Machine => k_is)
    (case sa_Machine => k_is); (case mk_Machine => k_is); (case kc_Machine => k_is); (case na_Machine_inputs => k_is)
    (case na_Machine_nexts => k_is); (case na_Machine_outs => k_is); (case aC_Steps => k_is); (case pg_Steps => k_is)
    (case hd_Steps => k_is); (case po_Steps => k_is); (case sa_Steps => k_is); (case mk_Steps => k_is)
    (case kc_Steps => k_is); (case na_Steps_kept => k_is); (case na_Steps_found => k_is); (case na_Steps_gone => k_is)
    (case aC_BadMask => k_is); (case xX_BadMask => k_exc); (case kX_BadMask => k_is); (case bX_BadMask => k_is)
    (case tX_BadMask => k_is); (case iX_BadMask => k_is); (case aC_BadRow => k_is); (case xX_BadRow => k_exc)
    (case kX_BadRow => k_is); (case bX_BadRow => k_is); (case tX_BadRow => k_is); (case iX_BadRow => k_is)
    (case aC_WireError => k_is); (case xX_WireError => k_exc); (case kX_WireError => k_is); (case bX_WireError => k_is)
    (case tX_WireError => k_is); (case iX_WireError => k_is); (case u_MOST_INPUTS => k_is); (case u_MOST_OUTS => k_is)
    (case u_MOST_STORES => k_is); (case u_MOST_TURNS => k_is); (case sX_BadRow_BadRow => first | rfl | k_is); (case a_is_whole => k_is)
    (case l_is_whole => k_is); (case c_is_whole => k_is); (case k_is_whole => k_is); (case a_is_mask => k_is)
    (case l_is_mask => k_is); (case c_is_mask => k_is); (case k_is_mask => k_is); (case a_even => k_is)
    (case l_even => k_is); (case c_even => k_is); (case k_even => k_is); (case a_bits_of => k_is)
    (case l_bits_of => k_is); (case c_bits_of => k_is); (case k_bits_of => k_is); (case a_Steps_lowered => k_is)
    (case i_Steps_lowered => k_is); (case l_Steps_lowered => k_is); (case c_Steps_lowered => k_is); (case k_Steps_lowered => k_is)
    (case a_Steps_crossing => k_is); (case i_Steps_crossing => k_is); (case l_Steps_crossing => k_is); (case c_Steps_crossing => k_is)
    (case k_Steps_crossing => k_is); (case a_Steps___init__ => k_is); (case i_Steps___init__ => k_is); (case l_Steps___init__ => k_is)
    (case c_Steps___init__ => k_is); (case k_Steps___init__ => k_is); (case a_rank => k_is); (case l_rank => k_is)
    (case c_rank => k_is); (case k_rank => k_is); (case a_across => k_is); (case l_across => k_is)
    (case c_across => k_is); (case k_across => k_is); (case a_is_pairs => k_is); (case l_is_pairs => k_is)
    (case c_is_pairs => k_is); (case k_is_pairs => k_is); (case a_bit_of => k_is); (case l_bit_of => k_is)
    (case c_bit_of => k_is); (case k_bit_of => k_is); (case a_bits_by => k_is); (case l_bits_by => k_is)
    (case c_bits_by => k_is); (case k_bits_by => k_is); (case a_Machine___init__ => k_is); (case i_Machine___init__ => k_is)
    (case l_Machine___init__ => k_is); (case c_Machine___init__ => k_is); (case k_Machine___init__ => k_is); (case a_Machine_stores => k_is)
    (case i_Machine_stores => k_is); (case l_Machine_stores => k_is); (case c_Machine_stores => k_is); (case k_Machine_stores => k_is)
    (case a_Machine_need => k_is); (case i_Machine_need => k_is); (case l_Machine_need => k_is); (case c_Machine_need => k_is)
    (case k_Machine_need => k_is); (case a_Machine_step => k_is); (case i_Machine_step => k_is); (case l_Machine_step => k_is)
    (case c_Machine_step => k_is); (case k_Machine_step => k_is); (case a_Machine_walk => k_is); (case i_Machine_walk => k_is)
    (case l_Machine_walk => k_is); (case c_Machine_walk => k_is); (case k_Machine_walk => k_is); (case a_Machine_after => k_is)
    (case i_Machine_after => k_is); (case l_Machine_after => k_is); (case d_Machine_after => k_is); (case c_Machine_after => k_is)
    (case k_Machine_after => k_is); (case a_Machine_back => k_is); (case i_Machine_back => k_is); (case l_Machine_back => k_is)
    (case c_Machine_back => k_is); (case k_Machine_back => k_is); (case a_need_turns => k_is); (case l_need_turns => k_is)
    (case c_need_turns => k_is); (case k_need_turns => k_is); (case a_need_handed => k_is); (case l_need_handed => k_is)
    (case c_need_handed => k_is); (case k_need_handed => k_is); (case a_check_masks => k_is); (case l_check_masks => k_is)
    (case c_check_masks => k_is); (case k_check_masks => k_is); (case a_missed => k_is); (case l_missed => k_is)
    (case c_missed => k_is); (case k_missed => k_is); (case a_turns_width => k_is); (case l_turns_width => k_is)
    (case c_turns_width => k_is); (case k_turns_width => k_is); (case a_missed_share => k_is); (case l_missed_share => k_is)
    (case c_missed_share => k_is); (case k_missed_share => k_is); (case a_rows_in => k_is); (case l_rows_in => k_is)
    (case c_rows_in => k_is); (case k_rows_in => k_is); (case a_missed_base => k_is); (case l_missed_base => k_is)
    (case c_missed_base => k_is); (case k_missed_base => k_is); (case a_cell => k_is); (case l_cell => k_is)
    (case c_cell => k_is); (case k_cell => k_is); (case a_mix => k_is); (case l_mix => k_is)
    (case c_mix => k_is); (case k_mix => k_is); (case a_masks => k_is); (case l_masks => k_is)
    (case c_masks => k_is); (case k_masks => k_is); (case a_thinned => k_is); (case l_thinned => k_is)
    (case c_thinned => k_is); (case k_thinned => k_is); (case a_machine => k_is); (case l_machine => k_is)
    (case c_machine => k_is); (case k_machine => k_is); (case a_odd => k_is); (case l_odd => k_is)
    (case c_odd => k_is); (case k_odd => k_is); (case a_bits => k_is); (case l_bits => k_is)
    (case c_bits => k_is); (case k_bits => k_is); (case a_Lis_mask => k_is); (case l_Lis_mask => k_is)
    (case c_Lis_mask => k_is); (case k_Lis_mask => k_is); (case a_is_list => k_is); (case l_is_list => k_is)
    (case c_is_list => k_is); (case k_is_list => k_is); (case a_check => k_is); (case l_check => k_is)
    (case c_check => k_is); (case k_check => k_is); (case a_joined => k_is); (case l_joined => k_is)
    (case c_joined => k_is); (case k_joined => k_is); (case a_parted => k_is); (case l_parted => k_is)
    (case c_parted => k_is); (case k_parted => k_is); (case a_Lrank => k_is); (case l_Lrank => k_is)
    (case c_Lrank => k_is); (case k_Lrank => k_is); (case a_single_checks => k_is); (case l_single_checks => k_is)
    (case c_single_checks => k_is); (case k_single_checks => k_is); (case a_told_right => k_is); (case l_told_right => k_is)
    (case c_told_right => k_is); (case k_told_right => k_is); (case a_all_walked => k_is); (case l_all_walked => k_is)
    (case c_all_walked => k_is); (case k_all_walked => k_is); (case a_refused => k_is); (case l_refused => k_is)
    (case c_refused => k_is); (case k_refused => k_is); (case a_law => k_is); (case l_law => k_is)
    (case c_law => k_is); (case k_law => k_is); (case z_bool => k_is); (case z_divmod => k_is)
    (case z_enumerate => k_is); (case z_int => k_is); (case z_isinstance => k_is); (case z_len => k_is)
    (case z_list => k_is); (case z_max => k_is); (case z_min => k_is); (case z_range => k_is)
    (case z_reversed => k_is); (case z_sorted => k_is); (case z_tuple => k_is); (case z_zip => k_is)
