import PyProof.Rows.All
import Wide.All
import OpenK.AllK
import Wide.FinOn
import HandS.ForMost
import HandS.Wide
import HandS.WideBits
import HandS.IsInst
import HandS.Steps
import HandS.Exc
import HandS.ExcOwn
import HandS.TryOnly
import HandS.WordsExc
import HandS.EndBits
import HandS.Rev
import HandS.RevTup
import HandS.Walk
import HandS.Zip
import HandS.SortInts
import HandS.More
import HandS.SetFor
import KE.GoesMore
import KE.KDictZip
import HandS.Iter
import HandS.Keys
import HandS.Defaults
import HandS.ExcIs
import HandS.Text
import PyProof.EqKinds
import PyProof.NeKinds
import KE.KEqDict
import HandS.Style
import HandS.ClsMeth
import HandS.List
import HandS.ExcInit
import HandS.ExcField
import PyProof.StrOps2
import PySem.Challenge.RW_sumwires_k03_rows_of_signs
set_option Elab.async false
set_option linter.all false
set_option maxRecDepth 100000
set_option maxHeartbeats 4000000
set_option exponentiation.threshold 4000
/-! Wk: a typed layer over the hand layer. A state is a pair (F, H): H the tracked heap, F that part of it which nobody changes any more. -/
namespace Wk
open PySem L2

abbrev Ex (H H' : Hp) : Prop := ∀ a o, H a = some o → H' a = some o
theorem Ex.rfl' {H : Hp} : Ex H H := fun _ _ h => h
theorem Ex.tr {H H1 H2 : Hp} (a : Ex H H1) (b : Ex H1 H2) : Ex H H2 := fun x o h => b x o (a x o h)
theorem Ex.new {H : Hp} {p : Addr} {o : HO} (h : H p = none) : Ex H (upd H p o) := fun a u e => by
  rw [upd_ne (ne_of_none e h)]; exact e
theorem Ex.non {H H' : Hp} (e : Ex H H') {p : Addr} (h : H' p = none) : H p = none := by
  cases q : H p with
  | none => rfl
  | some o => rw [e p o q] at h; cases h

/-- from (F0, H0) to (F, H): all is kept, and F has grown by nothing but what is new to H0 -/
structure Wf (F0 H0 F H : Hp) : Prop where
  h : Ex H0 H
  f : Ex F H
  g : Ex F0 F
  n : ∀ a o, F a = some o → F0 a = none → H0 a = none
theorem Wf.id {F H : Hp} (e : Ex F H) : Wf F H F H := ⟨Ex.rfl', e, Ex.rfl', fun a o h h' => by rw [h] at h'; cases h'⟩
theorem Wf.tr {F0 H0 F H F' H' : Hp} (a : Wf F0 H0 F H) (b : Wf F H F' H') : Wf F0 H0 F' H' := ⟨a.h.tr b.h, b.f, a.g.tr b.g, fun x o h h0 => by
  cases q : F x with
  | none => exact a.h.non (b.n x o h q)
  | some u => exact a.n x u q h0⟩
/-- a new object that stays as it is -/
theorem Wf.new {F H : Hp} {p : Addr} {o : HO} (e : Ex F H) (hp : H p = none) : Wf F H (upd F p o) (upd H p o) := ⟨Ex.new hp, fun a u h => by
    by_cases q : a = p
    · subst q; rw [upd_same] at h ⊢; exact h
    · rw [upd_ne q] at h ⊢; exact e a u h, Ex.new (e.non hp), fun a u h h0 => by
    by_cases q : a = p
    · subst q; exact hp
    · rw [upd_ne q, h0] at h; cases h⟩
/-- a new object that is still changed -/
theorem Wf.newX {F H : Hp} {p : Addr} {o : HO} (e : Ex F H) (hp : H p = none) : Wf F H F (upd H p o) := ⟨Ex.new hp, e.tr (Ex.new hp), Ex.rfl', fun a u h h0 => by rw [h] at h0; cases h0⟩
/-- the heap alone has grown -/
theorem Wf.grow {F H H' : Hp} (e : Ex F H) (h : Ex H H') : Wf F H F H' := ⟨h, e.tr h, Ex.rfl', fun a u h h0 => by rw [h] at h0; cases h0⟩

/-- F' has grown by nothing but p -/
abbrev Fz (F F' : Hp) (p : Addr) : Prop := ∀ q, q ≠ p → F q = none → F' q = none
/-- one's own object, not yet in F -/
structure Xc (H0 F H : Hp) (p : Addr) (o : HO) : Prop where
  z : H0 p = none
  n : F p = none
  h : H p = some o
section
variable {F0 H0 F H F' H' : Hp} {p q : Addr} {o u : HO}
theorem Xc.mk' (w : Wf F0 H0 F H) (hp : H p = none) : Xc H0 F (upd H p o) p o := ⟨w.h.non hp, w.f.non hp, upd_same⟩
theorem Xc.step (x : Xc H0 F H p o) (w : Wf F H F' H') : Xc H0 F' H' p o := ⟨x.z, (by
  cases q : F' p with
  | none => rfl
  | some u => have := w.n p u q x.n; rw [x.h] at this; cases this), w.h _ _ x.h⟩
theorem Xc.other (x : Xc H0 F H p o) (h : p ≠ q) : Xc H0 F (upd H q u) p o := ⟨x.z, x.n, by rw [upd_ne h]; exact x.h⟩
theorem Xc.set (x : Xc H0 F H p o) : Xc H0 F (upd H p u) p u := ⟨x.z, x.n, upd_same⟩
theorem Wf.set (w : Wf F0 H0 F H) (x : Xc H0 F H p o) : Wf F0 H0 F (upd H p u) := ⟨fun a v e => by
    rw [upd_ne (ne_of_none e x.z)]; exact w.h a v e, fun a v e => by rw [upd_ne (ne_of_none e x.n)]; exact w.f a v e, w.g, w.n⟩
/-- it is changed no more -/
theorem Wf.freeze (w : Wf F0 H0 F H) (x : Xc H0 F H p o) : Wf F0 H0 (upd F p o) H := ⟨w.h, fun a v e => by
    by_cases q : a = p
    · subst q; rw [upd_same] at e; rw [← e]; exact x.h
    · rw [upd_ne q] at e; exact w.f a v e, w.g.tr (Ex.new x.n), fun a v e e0 => by
    by_cases q : a = p
    · subst q; exact x.z
    · rw [upd_ne q] at e; exact w.n a v e e0⟩
theorem Xc.frz (x : Xc H0 F H p o) (y : Xc H0 F H q u) (h : p ≠ q) : Xc H0 (upd F q u) H p o := ⟨x.z, by rw [upd_ne h]; exact x.n, x.h⟩
theorem Xc.ne (x : Xc H0 F H p o) (h : H q = none) : p ≠ q := ne_of_none x.h h
end

/-! ### what represents what -/
structure Rep (α : Type) where
  r : Hp → V → α → Prop
  mono : ∀ {F F' : Hp} {v : V} {x : α}, Ex F F' → r F v x → r F' v x
def pI : Rep Int := ⟨fun _ v x => v = .int x, fun _ h => h⟩
def pN : Rep Nat := ⟨fun _ v x => v = .int (x : Int), fun _ h => h⟩
def pB : Rep Bool := ⟨fun _ v x => v = .bl x, fun _ h => h⟩
def pS : Rep Str := ⟨fun _ v x => v = .str x, fun _ h => h⟩
def pU : Rep Unit := ⟨fun _ v _ => v = .non, fun _ h => h⟩
def All {α : Type} (e : Rep α) (F : Hp) : List V → List α → Prop
  | [], [] => True
  | v :: vs, x :: xs => e.r F v x ∧ All e F vs xs
  | _, _ => False
section
variable {α β γ : Type} {e : Rep α} {F F' : Hp} {vs ws : List V} {xs ys : List α} {v : V} {x : α}
theorem All.mono (h : Ex F F') : ∀ {vs : List V} {xs : List α}, All e F vs xs → All e F' vs xs
  | [], [], _ => trivial
  | _ :: _, _ :: _, ⟨a, b⟩ => ⟨e.mono h a, All.mono h b⟩
  | [], _ :: _, q => q.elim
  | _ :: _, [], q => q.elim
theorem All.len : ∀ {vs : List V} {xs : List α}, All e F vs xs → vs.length = xs.length
  | [], [], _ => rfl
  | _ :: _, _ :: _, ⟨_, b⟩ => by rw [List.length_cons, List.length_cons, All.len b]
  | [], _ :: _, q => q.elim
  | _ :: _, [], q => q.elim
theorem All.get : ∀ {vs : List V} {xs : List α} {i : Nat} {x : α}, All e F vs xs → xs[i]? = some x → ∃ v, vs[i]? = some v ∧ e.r F v x
  | _ :: _, _ :: _, 0, _, ⟨a, _⟩, h => by simp at h; subst h; exact ⟨_, rfl, a⟩
  | _ :: _, _ :: _, i + 1, _, ⟨_, b⟩, h => by
    obtain ⟨v, h1, h2⟩ := All.get (i := i) b (by simpa using h)
    exact ⟨v, by simpa using h1, h2⟩
  | [], [], _, _, _, h => by simp at h
  | [], _ :: _, _, _, q, _ => q.elim
  | _ :: _, [], _, _, q, _ => q.elim
theorem All.got : ∀ {vs : List V} {xs : List α} {i : Nat} {v : V}, All e F vs xs → vs[i]? = some v → ∃ x, xs[i]? = some x ∧ e.r F v x
  | _ :: _, _ :: _, 0, _, ⟨a, _⟩, h => by simp at h; subst h; exact ⟨_, rfl, a⟩
  | _ :: _, _ :: _, i + 1, _, ⟨_, b⟩, h => by
    obtain ⟨v, h1, h2⟩ := All.got (i := i) b (by simpa using h)
    exact ⟨v, by simpa using h1, h2⟩
  | [], [], _, _, _, h => by simp at h
  | [], _ :: _, _, _, q, _ => q.elim
  | _ :: _, [], _, _, q, _ => q.elim
theorem All.app : ∀ {vs : List V} {xs : List α}, All e F vs xs → All e F ws ys → All e F (vs ++ ws) (xs ++ ys)
  | [], [], _, b => b
  | _ :: _, _ :: _, ⟨a, a'⟩, b => ⟨a, All.app a' b⟩
  | [], _ :: _, q, _ => q.elim
  | _ :: _, [], q, _ => q.elim
theorem All.snoc (a : All e F vs xs) (b : e.r F v x) : All e F (vs ++ [v]) (xs ++ [x]) := a.app ⟨b, trivial⟩
theorem All.set : ∀ {vs : List V} {xs : List α} (i : Nat), All e F vs xs → e.r F v x → All e F (vs.set i v) (xs.set i x)
  | [], [], _, _, _ => trivial
  | _ :: _, _ :: _, 0, ⟨_, b⟩, r => ⟨r, b⟩
  | _ :: _, _ :: _, i + 1, ⟨a, b⟩, r => ⟨a, All.set i b r⟩
  | [], _ :: _, _, q, _ => q.elim
  | _ :: _, [], _, q, _ => q.elim
theorem All.take : ∀ {vs : List V} {xs : List α} (i : Nat), All e F vs xs → All e F (vs.take i) (xs.take i)
  | [], [], i, _ => by simp [All]
  | _ :: _, _ :: _, 0, _ => trivial
  | _ :: _, _ :: _, i + 1, ⟨a, b⟩ => ⟨a, All.take i b⟩
  | [], _ :: _, _, q => q.elim
  | _ :: _, [], _, q => q.elim
theorem All.drop : ∀ {vs : List V} {xs : List α} (i : Nat), All e F vs xs → All e F (vs.drop i) (xs.drop i)
  | [], [], i, _ => by simp [All]
  | _ :: _, _ :: _, 0, h => h
  | _ :: _, _ :: _, i + 1, ⟨_, b⟩ => All.drop i b
  | [], _ :: _, _, q => q.elim
  | _ :: _, [], _, q => q.elim
theorem All.ints {vs : List V} : ∀ {xs : List Int}, All pI F vs xs → vs = xs.map V.int := by
  induction vs with
  | nil => intro xs h; cases xs with
    | nil => rfl
    | cons _ _ => exact h.elim
  | cons v vs ih => intro xs h; cases xs with
    | nil => exact h.elim
    | cons y ys => obtain ⟨a, b⟩ := h; rw [ih b, List.map_cons]; rw [show v = .int y from a]
theorem All.ofInts : ∀ {xs : List Int}, All pI F (xs.map V.int) xs
  | [] => trivial
  | _ :: _ => ⟨rfl, All.ofInts⟩
theorem All.nats {vs : List V} : ∀ {xs : List Nat}, All pN F vs xs → vs = (xs.map Int.ofNat).map V.int := by
  induction vs with
  | nil => intro xs h; cases xs with
    | nil => rfl
    | cons _ _ => exact h.elim
  | cons v vs ih => intro xs h; cases xs with
    | nil => exact h.elim
    | cons y ys => obtain ⟨a, b⟩ := h; rw [ih b, List.map_cons, List.map_cons]; rw [show v = .int (y : Int) from a]; rfl
end
/-- a list, a tuple of things of one kind, pairs, triples -/
def pL {α : Type} (e : Rep α) : Rep (List α) := ⟨fun F v xs => ∃ p vs, v = .ref p ∧ F p = some (.lst vs) ∧ All e F vs xs, fun h ⟨p, vs, a, b, c⟩ => ⟨p, vs, a, h _ _ b, c.mono h⟩⟩
def pTL {α : Type} (e : Rep α) : Rep (List α) := ⟨fun F v xs => ∃ p vs, v = .ref p ∧ F p = some (.tup vs) ∧ All e F vs xs, fun h ⟨p, vs, a, b, c⟩ => ⟨p, vs, a, h _ _ b, c.mono h⟩⟩
def pT2 {α β : Type} (e : Rep α) (f : Rep β) : Rep (α × β) := ⟨fun F v x => ∃ p u w, v = .ref p ∧ F p = some (.tup [u, w]) ∧ e.r F u x.1 ∧ f.r F w x.2, fun h ⟨p, u, w, a, b, c, d⟩ => ⟨p, u, w, a, h _ _ b, e.mono h c, f.mono h d⟩⟩
def pT3 {α β γ : Type} (e : Rep α) (f : Rep β) (g : Rep γ) : Rep (α × β × γ) := ⟨fun F v x => ∃ p u w y, v = .ref p ∧ F p = some (.tup [u, w, y]) ∧ e.r F u x.1 ∧ f.r F w x.2.1 ∧ g.r F y x.2.2, fun h ⟨p, u, w, y, a, b, c, d, k⟩ => ⟨p, u, w, y, a, h _ _ b, e.mono h c, f.mono h d, g.mono h k⟩⟩
def pO {α : Type} (e : Rep α) : Rep (Option α) := ⟨fun F v x => match x with | none => v = .non | some y => e.r F v y, fun {_ _ _ x} h q => by cases x with | none => exact q | some y => exact e.mono h q⟩
/-- the script: read only -/
def pScr (K : PySem.W.Frag) : Rep (List Int) := ⟨fun F v xs => ∃ a, v = .ref a ∧ SqL K F a (xs.map V.int), fun h ⟨a, e, q⟩ => ⟨a, e, by
  rcases q with (q | ⟨o, q⟩) | q
  · exact .inl (.inl (h _ _ q))
  · exact .inl (.inr ⟨o, h _ _ q⟩)
  · exact .inr q⟩⟩
/-- one's own list -/
structure XL {α : Type} (e : Rep α) (H0 F H : Hp) (p : Addr) (xs : List α) : Prop where
  x : ∃ vs, Xc H0 F H p (.lst vs) ∧ All e F vs xs
section
variable {α : Type} {e : Rep α} {F0 H0 F H F' H' : Hp} {p q : Addr} {o : HO} {xs : List α} {y : α} {v : V}
theorem XL.step (x : XL e H0 F H p xs) (w : Wf F H F' H') : XL e H0 F' H' p xs := let ⟨vs, a, b⟩ := x.x; ⟨vs, a.step w, b.mono w.g⟩
theorem XL.other {u : HO} (x : XL e H0 F H p xs) (h : p ≠ q) : XL e H0 F (upd H q u) p xs := let ⟨vs, a, b⟩ := x.x; ⟨vs, a.other h, b⟩
theorem XL.ne (x : XL e H0 F H p xs) (h : H q = none) : p ≠ q := let ⟨_, a, _⟩ := x.x; a.ne h
theorem XL.nil (w : Wf F0 H0 F H) (hp : H p = none) : XL e H0 F (upd H p (.lst [])) p [] := ⟨[], Xc.mk' w hp, trivial⟩
theorem XL.frz {u : HO} {β : Type} {e' : Rep β} {ys : List β} (x : XL e H0 F H p xs) (z : Xc H0 F H q u) (h : p ≠ q) : XL e H0 (upd F q u) H p xs := let ⟨vs, a, b⟩ := x.x; ⟨vs, a.frz z h, b.mono (Ex.new z.n)⟩
theorem XL.zero (x : XL e H0 F H p xs) : H0 p = none := let ⟨_, a, _⟩ := x.x; a.z
end
/-! ### typed loops -/
def forW {α S : Type} : List α → S → (α → S → (S → Prop) → (S → Prop) → Prop) → (S → Prop) → Prop
  | [], s, _, k => k s
  | x :: xs, s, b, k => b x s (fun s' => forW xs s' b k) k
def compG {α β : Type} : List α → List β → (α → (Option β → Prop) → Prop) → (List β → Prop) → Prop
  | [], acc, _, k => k acc
  | x :: xs, acc, b, k => b x fun o => compG xs (acc ++ o.toList) b k
def compW {α β : Type} (xs : List α) (b : α → (Option β → Prop) → Prop) (k : List β → Prop) : Prop := compG xs [] b k
def whileW {S : Type} (test : S → (Bool → Prop) → Prop) (body : S → (S → Prop) → (S → Prop) → Prop) (s : S) (k : S → Prop) : Prop :=
  ∃ I : Nat → S → Prop, (∃ m, I m s) ∧ ∀ m s, I m s → test s fun b => if b = true then body s (fun s' => ∃ m', m' < m ∧ I m' s') k else k s

/-! ### steps of readings -/
section
variable {K : PySem.W.Frag} {σ σ1 : L2.St} {H H1 : Hp} {te ta tb tc : TE} {tt tu : TT} {tA tR : TA} {Q : VK} {v w x y z : V} {D : Ends} {t u : TS} {i j : Int} {a b m n : Nat} {p q : Prop}
theorem e_val (h : Val te σ H v) (q : Q v H) : te σ H Q := h Q q
theorem v_eq (h : Val te σ H v) (e : v = w) : Val te σ H w := e ▸ h
theorem vi_of (h : Val te σ H (.int i)) (e : i = j) : Val te σ H (.int j) := e ▸ h
theorem vb_of {b c : Bool} (h : Val te σ H (.bl b)) (e : b = c) : Val te σ H (.bl c) := e ▸ h
theorem v2 {r : R2} (ha : Val ta σ H x) (hb : Val tb σ H y) (hr : ∀ Q : VK, Q z H → r x y H Q) : Val (tOp r ta tb) σ H z := fun Q k => ha _ (hb _ (hr Q k))
theorem v1 {r : V → Hp → VK → Prop} (ha : Val ta σ H x) (hr : ∀ Q : VK, Q z H → r x H Q) : Val (tUn r ta) σ H z := fun Q k => ha _ (hr Q k)
theorem vi0 {g : Int → Int → V} (ha : Val ta σ H (.int i)) (hb : Val tb σ H (.int j)) : Val (tOp (rI0 g) ta tb) σ H (g i j) := fun _ k => ha _ (hb _ ⟨i, j, rfl, rfl, k⟩)
theorem viC {C : Int → Int → Prop} {g : Int → Int → V} (ha : Val ta σ H (.int i)) (hb : Val tb σ H (.int j)) (hc : C i j) : Val (tOp (rI C g) ta tb) σ H (g i j) := fun _ k => ha _ (hb _ ⟨i, j, rfl, rfl, hc, k⟩)
/-! whole numbers from 0 on -/
theorem vn_add (ha : Val ta σ H (.int (a : Int))) (hb : Val tb σ H (.int (b : Int))) : Val (tOp (rI0 fun i j => .int (i + j)) ta tb) σ H (.int ((a + b : Nat) : Int)) := vi_of (vi0 ha hb) (by omega)
theorem vn_sub (ha : Val ta σ H (.int (a : Int))) (hb : Val tb σ H (.int (b : Int))) (h : b ≤ a) : Val (tOp (rI0 fun i j => .int (i - j)) ta tb) σ H (.int ((a - b : Nat) : Int)) := vi_of (vi0 ha hb) (by omega)
def NMul (a b : Nat) : Prop := a < 2 ^ 64 ∨ b < 2 ^ 64
theorem vn_mul (ha : Val ta σ H (.int (a : Int))) (hb : Val tb σ H (.int (b : Int))) (h : NMul a b) : Val (tOp (rI CMul fun i j => .int (i * j)) ta tb) σ H (.int ((a * b : Nat) : Int)) := vi_of (viC ha hb (by
  rcases h with h | h
  · exact .inl ⟨by omega, by omega⟩
  · exact .inr ⟨by omega, by omega⟩)) (by rw [Int.natCast_mul])
theorem vn_mulW (ha : Val ta σ H (.int (a : Int))) (hb : Val tb σ H (.int (b : Int))) (h : CMulX a b) : Val (tOp (rI CMulX fun i j => .int (i * j)) ta tb) σ H (.int ((a * b : Nat) : Int)) := vi_of (viC ha hb h) (by rw [Int.natCast_mul])
def NDiv (b : Nat) : Prop := 0 < b ∧ b.log2 < 9000
theorem vn_div (ha : Val ta σ H (.int (a : Int))) (hb : Val tb σ H (.int (b : Int))) (h : NDiv b) : Val (tOp (rI CDivW fun i j => .int (i / j)) ta tb) σ H (.int ((a / b : Nat) : Int)) := vi_of (viC ha hb ⟨by have := h.1; omega, h.2⟩) (by rw [Int.natCast_ediv])
theorem vi_div (ha : Val ta σ H (.int i)) (hb : Val tb σ H (.int (b : Int))) (h : NDiv b) : Val (tOp (rI CDivW fun i j => .int (i / j)) ta tb) σ H (.int (i / (b : Int))) := viC ha hb ⟨by have := h.1; omega, h.2⟩
theorem vn_mod (ha : Val ta σ H (.int (a : Int))) (hb : Val tb σ H (.int (b : Int))) (h : 0 < b) : Val (tOp (rI (fun _ j => 0 < j) fun i j => .int (i % j)) ta tb) σ H (.int ((a % b : Nat) : Int)) := vi_of (viC (C := fun _ j => 0 < j) ha hb (by omega)) (by rw [Int.natCast_emod])
/-- i % m, as a whole number from 0 on -/
def modN (i : Int) (m : Nat) : Nat := (i % (m : Int)).toNat
theorem modN_cast {i : Int} {m : Nat} (h : 0 < m) : ((modN i m : Nat) : Int) = i % (m : Int) := Int.toNat_of_nonneg (Int.emod_nonneg _ (by omega))
theorem modN_lt {i : Int} {m : Nat} (h : 0 < m) : modN i m < m := by
  have := modN_cast (i := i) h
  have := Int.emod_lt_of_pos i (show (0 : Int) < m by omega)
  omega
theorem vm_mod (ha : Val ta σ H (.int i)) (hb : Val tb σ H (.int (b : Int))) (h : 0 < b) : Val (tOp (rI (fun _ j => 0 < j) fun i j => .int (i % j)) ta tb) σ H (.int ((modN i b : Nat) : Int)) := vi_of (viC (C := fun _ j => 0 < j) ha hb (by omega)) (modN_cast h).symm
theorem bitAnd_N (a b : Nat) : Builtin.bitAnd (a : Int) (b : Int) = ((a &&& b : Nat) : Int) := by
  unfold Builtin.bitAnd
  rw [decide_eq_true (Int.natCast_nonneg a), decide_eq_true (Int.natCast_nonneg b)]
  rfl
theorem bitXor_N (a b : Nat) : Builtin.bitXor (a : Int) (b : Int) = ((a ^^^ b : Nat) : Int) := by rw [Bits.bitXor_pp (Int.natCast_nonneg a) (Int.natCast_nonneg b)]; rfl
theorem bitOr_N (a b : Nat) : Builtin.bitOr (a : Int) (b : Int) = ((a ||| b : Nat) : Int) := by rw [Bits.bitOr_pp (Int.natCast_nonneg a) (Int.natCast_nonneg b)]; rfl
theorem vn_and (ha : Val ta σ H (.int (a : Int))) (hb : Val tb σ H (.int (b : Int))) : Val (tOp (rI0 fun i j => .int (Builtin.bitAnd i j)) ta tb) σ H (.int ((a &&& b : Nat) : Int)) := vi_of (vi0 ha hb) (bitAnd_N a b)
theorem vn_or (ha : Val ta σ H (.int (a : Int))) (hb : Val tb σ H (.int (b : Int))) : Val (tOp (rI0 fun i j => .int (Builtin.bitOr i j)) ta tb) σ H (.int ((a ||| b : Nat) : Int)) := vi_of (vi0 ha hb) (bitOr_N a b)
theorem vn_xor (ha : Val ta σ H (.int (a : Int))) (hb : Val tb σ H (.int (b : Int))) : Val (tOp (rI0 fun i j => .int (Builtin.bitXor i j)) ta tb) σ H (.int ((a ^^^ b : Nat) : Int)) := vi_of (vi0 ha hb) (bitXor_N a b)
/-- i & 1 -/
theorem vm_odd (ha : Val ta σ H (.int i)) (hb : Val tb σ H (.int 1)) : Val (tOp (rI0 fun i j => .int (Builtin.bitAnd i j)) ta tb) σ H (.int ((modN i 2 : Nat) : Int)) := vi_of (vi0 ha hb) (by rw [PyProof.Rows.bitAnd_m1, modN_cast (by decide)]; rfl)
def NShl (a k : Nat) : Prop := a.log2 + k < 100000000
theorem NShl.ok {a k : Nat} (h : NShl a k) : CShl (a : Int) (k : Int) := by
  have e : (2 : Int) ^ 27 = 134217728 := by decide
  refine ⟨Int.natCast_nonneg _, ?_⟩
  rw [e]
  have b : Builtin.Int.intBits (a : Int) ≤ a.log2 + 1 := by
    unfold Builtin.Int.intBits
    split
    · omega
    · exact Nat.le_refl _
  unfold NShl at h
  omega
theorem vn_shl (ha : Val ta σ H (.int (a : Int))) (hb : Val tb σ H (.int (b : Int))) (h : NShl a b) : Val (tOp (rI CShl fun i j => .int (i * 2 ^ j.toNat)) ta tb) σ H (.int ((a <<< b : Nat) : Int)) := vi_of (viC ha hb h.ok) (by
  rw [Int.toNat_natCast, Nat.shiftLeft_eq, Int.natCast_mul, Int.natCast_pow]; rfl)
theorem vn_one (ha : Val ta σ H (.int 1)) (hb : Val tb σ H (.int (b : Int))) (h : b < 100000000) : Val (tOp (rI CShl fun i j => .int (i * 2 ^ j.toNat)) ta tb) σ H (.int ((2 ^ b : Nat) : Int)) := vi_of (vn_shl (a := 1) ha hb (by
  unfold NShl
  have : Nat.log2 1 = 0 := by decide
  omega)) (by rw [Nat.shiftLeft_eq, Nat.one_mul])
theorem vi_shl (ha : Val ta σ H (.int i)) (hb : Val tb σ H (.int (b : Int))) (h : CShl i (b : Int)) : Val (tOp (rI CShl fun i j => .int (i * 2 ^ j.toNat)) ta tb) σ H (.int (i * 2 ^ b)) := vi_of (viC ha hb h) (by rw [Int.toNat_natCast])
theorem vi_shr (ha : Val ta σ H (.int i)) (hb : Val tb σ H (.int (b : Int))) : Val (tOp (rI (fun _ j => 0 ≤ j) fun i j => .int (i / 2 ^ j.toNat)) ta tb) σ H (.int (i / 2 ^ b)) := vi_of (viC (C := fun _ j => 0 ≤ j) ha hb (Int.natCast_nonneg _)) (by rw [Int.toNat_natCast])
theorem vn_shr (ha : Val ta σ H (.int (a : Int))) (hb : Val tb σ H (.int (b : Int))) : Val (tOp (rI (fun _ j => 0 ≤ j) fun i j => .int (i / 2 ^ j.toNat)) ta tb) σ H (.int ((a >>> b : Nat) : Int)) := vi_of (vi_shr ha hb) (by
  rw [Nat.shiftRight_eq_div_pow, Int.natCast_ediv, Int.natCast_pow]; rfl)
theorem v_neg (ha : Val ta σ H (.int i)) : Val (tUn (rU fun i => .int (-i)) ta) σ H (.int (-i)) := v1 ha fun _ k => ⟨i, rfl, k⟩
theorem vn_pow {c : Nat} (ha : Val ta σ H (.int (a : Int))) (hb : Val tb σ H (.int (b : Int))) (h : b ≤ 1000000 ∧ a < 2 ^ 64) (e : a ^ b = c) : Val (tOp (rI CPow fun i j => .int (i ^ j.toNat)) ta tb) σ H (.int (c : Int)) := vi_of (viC ha hb ⟨Int.natCast_nonneg _, by omega, by omega⟩) (by
  rw [Int.toNat_natCast, ← e, Int.natCast_pow])
theorem vn_bits (ha : Val ta σ H (.int (a : Int))) : Val (tBits ta) σ H (.int ((Builtin.Int.intBits (a : Int) : Nat) : Int)) := fun _ k => ha _ ⟨_, rfl, k⟩
/-! comparisons, as truths -/
theorem c_lt (ha : Val ta σ H (.int i)) (hb : Val tb σ H (.int j)) : Val (tOp (rI0 fun i j => .bl (decide (i < j))) ta tb) σ H (.bl (decide (i < j))) := vi0 ha hb
theorem c_le (ha : Val ta σ H (.int i)) (hb : Val tb σ H (.int j)) : Val (tOp (rI0 fun i j => .bl (decide (i ≤ j))) ta tb) σ H (.bl (decide (i ≤ j))) := vi0 ha hb
theorem c_gt (ha : Val ta σ H (.int i)) (hb : Val tb σ H (.int j)) : Val (tOp (rI0 fun i j => .bl (decide (j < i))) ta tb) σ H (.bl (decide (j < i))) := vi0 ha hb
theorem c_ge (ha : Val ta σ H (.int i)) (hb : Val tb σ H (.int j)) : Val (tOp (rI0 fun i j => .bl (decide (j ≤ i))) ta tb) σ H (.bl (decide (j ≤ i))) := vi0 ha hb
theorem dec_iff {p q : Prop} [Decidable p] [Decidable q] (h : p ↔ q) : decide p = decide q := by
  by_cases k : p
  · rw [decide_eq_true k, decide_eq_true (h.mp k)]
  · rw [decide_eq_false k, decide_eq_false (fun z => k (h.mpr z))]
theorem vb_dec [Decidable p] [Decidable q] (h : Val te σ H (.bl (decide p))) (e : p ↔ q) : Val te σ H (.bl (decide q)) := vb_of h (dec_iff e)
theorem c_eqI (ha : Val ta σ H (.int i)) (hb : Val tb σ H (.int j)) : Val (tOp rEq ta tb) σ H (.bl (decide (i = j))) := v2 ha hb fun Q k => ⟨rfl, by
  rw [dec_iff (show V.int i = V.int j ↔ i = j from ⟨fun h => V.int.inj h, fun h => by rw [h]⟩)]; exact k⟩
theorem c_neI (ha : Val ta σ H (.int i)) (hb : Val tb σ H (.int j)) : Val (tOp rNe ta tb) σ H (.bl (decide (i ≠ j))) := v2 ha hb fun Q k => ⟨rfl, by
  rw [← decide_not, dec_iff (show ¬ V.int i = V.int j ↔ i ≠ j from ⟨fun h e => h (by rw [e]), fun h e => h (V.int.inj e)⟩)]; exact k⟩
theorem c_eqS {s r : Str} (ha : Val ta σ H (.str s)) (hb : Val tb σ H (.str r)) : Val (tOp rEq ta tb) σ H (.bl (decide (s = r))) := v2 ha hb fun Q k => ⟨rfl, by
  rw [dec_iff (show V.str s = V.str r ↔ s = r from ⟨fun h => V.str.inj h, fun h => by rw [h]⟩)]; exact k⟩
theorem c_neS {s r : Str} (ha : Val ta σ H (.str s)) (hb : Val tb σ H (.str r)) : Val (tOp rNe ta tb) σ H (.bl (decide (s ≠ r))) := v2 ha hb fun Q k => ⟨rfl, by
  rw [← decide_not, dec_iff (show ¬ V.str s = V.str r ↔ s ≠ r from ⟨fun h e => h (by rw [e]), fun h e => h (V.str.inj e)⟩)]; exact k⟩
theorem c_eqB {s r : Bool} (ha : Val ta σ H (.bl s)) (hb : Val tb σ H (.bl r)) : Val (tOp rEq ta tb) σ H (.bl (decide (s = r))) := v2 ha hb fun Q k => ⟨rfl, by
  rw [dec_iff (show V.bl s = V.bl r ↔ s = r from ⟨fun h => V.bl.inj h, fun h => by rw [h]⟩)]; exact k⟩
theorem c_neB {s r : Bool} (ha : Val ta σ H (.bl s)) (hb : Val tb σ H (.bl r)) : Val (tOp rNe ta tb) σ H (.bl (decide (s ≠ r))) := v2 ha hb fun Q k => ⟨rfl, by
  rw [← decide_not, dec_iff (show ¬ V.bl s = V.bl r ↔ s ≠ r from ⟨fun h e => h (by rw [e]), fun h e => h (V.bl.inj e)⟩)]; exact k⟩
/-- numbers from 0 on: the comparison without casts -/
theorem n_lt : ((a : Int) < (b : Int)) ↔ a < b := by omega
theorem n_le : ((a : Int) ≤ (b : Int)) ↔ a ≤ b := by omega
theorem n_eq : ((a : Int) = (b : Int)) ↔ a = b := by omega
theorem n_ne : ((a : Int) ≠ (b : Int)) ↔ a ≠ b := by omega
/-- a < b < c -/
theorem v_chain {r r' : R2} {b1 b2 : Bool} (ha : Val ta σ H x) (hb : Val tb σ H y) (hc : Val tc σ H z) (h1 : ∀ Q : VK, Q (.bl b1) H → r x y H Q) (h2 : ∀ Q : VK, Q (.bl b2) H → r' y z H Q) : Val (tChain r r' ta tb tc) σ H (.bl (b1 && b2)) := fun Q k => ha _ (hb _ (h1 _ ⟨b1, rfl, by
  cases b1 with
  | true => rw [if_pos rfl]; exact hc _ (h2 _ (by simpa using k))
  | false => rw [if_neg (by simp)]; simpa using k⟩))
/-! truths as tests -/
theorem t_of (h : Val te σ H (.bl b')) : Ans (tTest te) σ H b' := fun _ k => h _ ⟨_, rfl, k⟩
theorem t_ofB (h : Val te σ H (.bl b')) : Ans (tB te) σ H b' := fun _ k => h _ ⟨_, rfl, k⟩
theorem t_dec {b c : Bool} (h : Ans tt σ H b) (e : b = c) : Ans tt σ H c := e ▸ h
theorem t_iff [Decidable p] [Decidable q] (h : Ans tt σ H (decide p)) (e : p ↔ q) : Ans tt σ H (decide q) := t_dec h (dec_iff e)
theorem t_not [Decidable p] (h : Ans tt σ H (decide p)) : Ans (tNot tt) σ H (decide (¬ p)) := fun Q k => h _ (by rw [← decide_not]; exact k)
theorem t_and [Decidable p] [Decidable q] (h : Ans tt σ H (decide p)) (h2 : p → Ans tu σ H (decide q)) : Ans (tAnd tt tu) σ H (decide (p ∧ q)) := fun Q k => h _ (by
  by_cases hp : p
  · rw [decide_eq_true hp, if_pos rfl]
    exact h2 hp Q (by rw [dec_iff (show q ↔ p ∧ q from ⟨fun z => ⟨hp, z⟩, fun z => z.2⟩)]; exact k)
  · rw [decide_eq_false hp, if_neg (by simp)]
    rw [decide_eq_false (fun z => hp z.1)] at k
    exact k)
theorem t_or [Decidable p] [Decidable q] (h : Ans tt σ H (decide p)) (h2 : ¬ p → Ans tu σ H (decide q)) : Ans (tOr tt tu) σ H (decide (p ∨ q)) := fun Q k => h _ (by
  by_cases hp : p
  · rw [decide_eq_true hp, if_pos rfl]
    rw [decide_eq_true (Or.inl hp)] at k
    exact k
  · rw [decide_eq_false hp, if_neg (by simp)]
    exact h2 hp Q (by rw [dec_iff (show q ↔ p ∨ q from ⟨fun z => .inr z, fun z => z.resolve_left hp⟩)]; exact k))
/-! the same as values -/
theorem vt_not [Decidable p] (h : Val te σ H (.bl (decide p))) : Val (tNotV te) σ H (.bl (decide (¬ p))) := fun Q k => h _ ⟨_, rfl, by rw [← decide_not]; exact k⟩
theorem vt_and [Decidable p] [Decidable q] (h : Val ta σ H (.bl (decide p))) (h2 : p → Val tb σ H (.bl (decide q))) : Val (tAndV ta tb) σ H (.bl (decide (p ∧ q))) := fun Q k => h _ ⟨_, rfl, by
  by_cases hp : p
  · rw [decide_eq_true hp, if_pos rfl]
    exact h2 hp Q (by rw [dec_iff (show q ↔ p ∧ q from ⟨fun z => ⟨hp, z⟩, fun z => z.2⟩)]; exact k)
  · rw [decide_eq_false hp, if_neg (by simp)]
    rw [decide_eq_false (fun z => hp z.1)] at k
    exact k⟩
theorem vt_or [Decidable p] [Decidable q] (h : Val ta σ H (.bl (decide p))) (h2 : ¬ p → Val tb σ H (.bl (decide q))) : Val (tOrV ta tb) σ H (.bl (decide (p ∨ q))) := fun Q k => h _ ⟨_, rfl, by
  by_cases hp : p
  · rw [decide_eq_true hp, if_pos rfl]
    rw [decide_eq_true (Or.inl hp)] at k
    exact k
  · rw [decide_eq_false hp, if_neg (by simp)]
    exact h2 hp Q (by rw [dec_iff (show q ↔ p ∨ q from ⟨fun z => .inr z, fun z => z.resolve_left hp⟩)]; exact k)⟩
theorem v_if [Decidable p] (h : Ans tt σ H (decide p)) (h1 : p → Val ta σ H x) (h2 : ¬ p → Val tb σ H x) : Val (tIf tt ta tb) σ H x := fun Q k => h _ (by
  by_cases hp : p
  · rw [decide_eq_true hp, if_pos rfl]; exact h1 hp Q k
  · rw [decide_eq_false hp, if_neg (by simp)]; exact h2 hp Q k)
/-! calls -/
theorem e_call {sp : Sp} {E : XK} (h : tA σ H fun vs H1 => sp vs H1 Q E) : tCall sp [] E tA σ H Q := by
  show tA σ H fun vs H1 => sp (vs ++ []) H1 Q E
  simpa only [List.append_nil] using h
theorem a_nil {R : List V → Hp → Prop} (h : R [] H) : tNil σ H R := h
theorem a_cons {R : List V → Hp → Prop} (h : te σ H fun x H1 => tR σ H1 fun xs H2 => R (x :: xs) H2) : tCons te tR σ H R := h
theorem a_val {R : List V → Hp → Prop} (h : Val te σ H v) (k : tR σ H fun xs H2 => R (v :: xs) H2) : tCons te tR σ H R := h _ k
theorem v_cb1 {r : List V → Hp → VK → Prop} (ha : Val ta σ H x) (hr : ∀ Q : VK, Q z H → r [x] H Q) : Val (tCB r (tCons ta tNil)) σ H z := fun Q k => ha _ (hr Q k)
theorem v_cb2 {r : List V → Hp → VK → Prop} (ha : Val ta σ H x) (hb : Val tb σ H y) (hr : ∀ Q : VK, Q z H → r [x, y] H Q) : Val (tCB r (tCons ta (tCons tb tNil))) σ H z := fun Q k => ha _ (hb _ (hr Q k))
/-! statements -/
theorem q_seq (h : t { D with nx := u D } σ H) : tSeq t u D σ H := h
theorem q_sq (h : ∀ N : L2.St → Hp → Prop, (∀ σ' H', u D σ' H' → N σ' H') → t { D with nx := N } σ H) : tSeq t u D σ H := h _ fun _ _ z => z
theorem a_asg {i : Nat} (h : Val te σ H v) (q : D.nx (σ.set i (some v)) H) : tAsg te (gName i) D σ H := h _ q
theorem a_asgE {i : Nat} (h : te σ H fun v H1 => D.nx (σ.set i (some v)) H1) : tAsg te (gName i) D σ H := h
theorem a_ret (h : Val te σ H v) (q : D.rt v H) : tRet te D σ H := h _ q
theorem a_retE (h : te σ H D.rt) : tRet te D σ H := h
theorem a_dropE (h : te σ H fun _ H1 => D.nx σ H1) : tDrop te D σ H := h
theorem a_aug {i : Nat} {ti : TIp} (hx : σ[i]? = some (some x)) (h : Val te σ H y) (hr : ∀ Q : VK, Q z H → ti x y H Q) (q : D.nx (σ.set i (some z)) H) : tAug i te ti D σ H := ⟨x, hx, h _ (hr _ q)⟩
theorem a_if [Decidable p] (h : Ans tt σ H (decide p)) (h1 : p → t D σ H) (h2 : ¬ p → u D σ H) : tIfS tt t u D σ H := h _ (by
  by_cases hp : p
  · rw [decide_eq_true hp, if_pos rfl]; exact h1 hp
  · rw [decide_eq_false hp, if_neg (by simp)]; exact h2 hp)
theorem a_ifE (h : tt σ H fun b H1 => if b = true then t D σ H1 else u D σ H1) : tIfS tt t u D σ H := h
theorem ifP [Decidable p] {A B : Prop} (h : if p then A else B) (hp : p) : A := by rw [if_pos hp] at h; exact h
theorem ifN [Decidable p] {A B : Prop} (h : if p then A else B) (hp : ¬ p) : B := by rw [if_neg hp] at h; exact h
end
end Wk

namespace Wk
open PySem L2
/-! ### data that is compared -/
class Dat {α : Type} (e : Rep α) (lv : outParam Nat) where
  d : α → PyData
  dp : ∀ {K : PySem.W.Frag} {F : Hp} {v : V} {x : α}, e.r F v x → Dp K F v (d x)
  lay : ∀ x, (d x).canLay0 = true
  dep : ∀ x, (d x).depth ≤ lv
  inj : ∀ x y, PyData.eqv (d x) (d y) = true ↔ x = y
instance : Dat pI 0 := ⟨.int, fun h => by cases (show _ = V.int _ from h); exact .int _, fun _ => rfl, fun _ => Nat.le_refl _, fun x y => by
  show ((x == y) = true) ↔ _
  exact beq_iff_eq⟩
instance : Dat pN 0 := ⟨fun n => .int (n : Int), fun h => by cases (show _ = V.int _ from h); exact .int _, fun _ => rfl, fun _ => Nat.le_refl _, fun x y => by
  show (((x : Int) == (y : Int)) = true) ↔ _
  rw [beq_iff_eq]; omega⟩
instance : Dat pB 0 := ⟨.bool, fun h => by cases (show _ = V.bl _ from h); exact .bl _, fun _ => rfl, fun _ => Nat.le_refl _, fun x y => by
  show ((x == y) = true) ↔ _
  exact beq_iff_eq⟩
theorem lay_all {α : Type} {d : α → PyData} (h : ∀ x, (d x).canLay0 = true) : ∀ xs : List α, PyData.canLayAll0 (xs.map d) = true
  | [] => rfl
  | x :: xs => by show (PyData.canLay0 (d x) && PyData.canLayAll0 (xs.map d)) = true; rw [h x, lay_all h xs]; rfl
theorem dep_all {α : Type} {d : α → PyData} {n : Nat} (h : ∀ x, (d x).depth ≤ n) : ∀ xs : List α, PyData.depthAll (xs.map d) ≤ n
  | [] => Nat.zero_le _
  | x :: xs => by
    show PyData.depthAll (d x :: xs.map d) ≤ n
    have a := h x
    have b := dep_all h xs
    simp only [PyData.depthAll]
    omega
theorem eqv_all {α : Type} {d : α → PyData} (h : ∀ x y, PyData.eqv (d x) (d y) = true ↔ x = y) : ∀ xs ys : List α, PyData.eqvAll (xs.map d) (ys.map d) = true ↔ xs = ys
  | [], [] => ⟨fun _ => rfl, fun _ => rfl⟩
  | x :: xs, [] => ⟨fun q => (by cases q), fun q => (by cases q)⟩
  | [], y :: ys => ⟨fun q => (by cases q), fun q => (by cases q)⟩
  | x :: xs, y :: ys => by
    show (PyData.eqv (d x) (d y) && PyData.eqvAll (xs.map d) (ys.map d)) = true ↔ _
    rw [Bool.and_eq_true, h x y, eqv_all h xs ys, List.cons.injEq]
theorem dp_all {α : Type} {e : Rep α} {lv : Nat} [Dat e lv] {K : PySem.W.Frag} {F : Hp} : ∀ {vs : List V} {xs : List α}, All e F vs xs → DpAll K F vs (xs.map (Dat.d e))
  | [], [], _ => .nil
  | _ :: _, _ :: _, ⟨a, b⟩ => .cons (Dat.dp a) (dp_all b)
  | [], _ :: _, q => q.elim
  | _ :: _, [], q => q.elim
instance {α : Type} {e : Rep α} {n : Nat} [Dat e n] : Dat (pL e) (n + 1) := ⟨fun xs => .list (xs.map (Dat.d e)), fun {K F v xs} h => by
    obtain ⟨p, vs, rfl, hp, a⟩ := h
    exact .lst (SqL.of hp) (dp_all a), fun xs => lay_all (Dat.lay (e := e)) xs, fun xs => by
    have := dep_all (Dat.dep (e := e)) xs
    simp only [PyData.depth]
    omega, fun xs ys => by
    show PyData.eqvAll (xs.map (Dat.d e)) (ys.map (Dat.d e)) = true ↔ _
    exact eqv_all (Dat.inj (e := e)) xs ys⟩
instance {α : Type} {e : Rep α} {n : Nat} [Dat e n] : Dat (pTL e) (n + 1) := ⟨fun xs => .tuple (xs.map (Dat.d e)), fun {K F v xs} h => by
    obtain ⟨p, vs, rfl, hp, a⟩ := h
    exact .tup (SqT.of hp) (dp_all a), fun xs => lay_all (Dat.lay (e := e)) xs, fun xs => by
    have := dep_all (Dat.dep (e := e)) xs
    simp only [PyData.depth]
    omega, fun xs ys => by
    show PyData.eqvAll (xs.map (Dat.d e)) (ys.map (Dat.d e)) = true ↔ _
    exact eqv_all (Dat.inj (e := e)) xs ys⟩
instance {α β : Type} {e : Rep α} {f : Rep β} {n m : Nat} [Dat e n] [Dat f m] : Dat (pT2 e f) (max n m + 1) := ⟨fun x => .tuple [Dat.d e x.1, Dat.d f x.2], fun {K F v x} h => by
    obtain ⟨p, u, w, rfl, hp, a, b⟩ := h
    exact .tup (SqT.of hp) (.cons (Dat.dp a) (.cons (Dat.dp b) .nil)), fun x => by
    show (PyData.canLay0 (Dat.d e x.1) && (PyData.canLay0 (Dat.d f x.2) && PyData.canLayAll0 [])) = true
    rw [Dat.lay, Dat.lay]; rfl, fun x => by
    have a := Dat.dep (e := e) x.1
    have b := Dat.dep (e := f) x.2
    simp only [PyData.depth, PyData.depthAll]
    omega, fun x y => by
    show (PyData.eqv (Dat.d e x.1) (Dat.d e y.1) && (PyData.eqv (Dat.d f x.2) (Dat.d f y.2) && PyData.eqvAll [] [])) = true ↔ _
    have z : PyData.eqvAll [] [] = true := rfl
    rw [z, Bool.and_true, Bool.and_eq_true, Dat.inj, Dat.inj, Prod.ext_iff]⟩
theorem Dat.shp {α : Type} {e : Rep α} {n : Nat} [Dat e n] (h : n ≤ 64) (x : α) : SeqAt.shaped (Dat.d e x) = true := by
  unfold SeqAt.shaped
  rw [Dat.lay, decide_eq_true (Nat.le_trans (Dat.dep x) h)]; rfl
section
variable {α β : Type} {e : Rep α} {f : Rep β} {K : PySem.W.Frag} {σ : L2.St} {F0 H0 F F' H H' : Hp} {te tl ta tb : TE} {tt : TT} {tA : TA} {Q : VK} {v w u : V} {xs ys : List α} {x y : α} {D : Ends} {tu : TS} {p q : Addr} {n : Nat} {i : Int}
theorem c_eqD [DecidableEq α] [Dat e n] (ha : Val ta σ H v) (hb : Val tb σ H w) (f : Ex F H) (r : e.r F v x) (g : Ex F' H) (s : e.r F' w y) (h : n ≤ 64 := by decide) : Val (tOp (rEqD K) ta tb) σ H (.bl (decide (x = y))) :=
  v2 ha hb fun Q k => ⟨_, _, Dat.dp (e.mono f r), Dat.dp (e.mono g s), Dat.shp h x, Dat.shp h y, by
    have z : PyData.eqv (Dat.d e x) (Dat.d e y) = decide (x = y) := Bool.eq_iff_iff.mpr (by rw [Dat.inj, decide_eq_true_iff])
    rw [z]; exact k⟩
theorem c_neD [DecidableEq α] [Dat e n] (ha : Val ta σ H v) (hb : Val tb σ H w) (f : Ex F H) (r : e.r F v x) (g : Ex F' H) (s : e.r F' w y) (h : n ≤ 64 := by decide) : Val (tOp (rNeD K) ta tb) σ H (.bl (decide (x ≠ y))) :=
  v2 ha hb fun Q k => ⟨_, _, Dat.dp (e.mono f r), Dat.dp (e.mono g s), Dat.shp h x, Dat.shp h y, by
    have z : PyData.eqv (Dat.d e x) (Dat.d e y) = decide (x = y) := Bool.eq_iff_iff.mpr (by rw [Dat.inj, decide_eq_true_iff])
    rw [z, ← decide_not]; exact k⟩
/-! ### lists that are read -/
theorem XL.rd (z : XL e H0 F H p xs) : ∃ vs, H p = some (.lst vs) ∧ All e F vs xs := let ⟨vs, a, b⟩ := z.x; ⟨vs, a.h, b⟩
theorem L_rd (r : (pL e).r F v xs) (f : Ex F H) : ∃ p vs, v = .ref p ∧ H p = some (.lst vs) ∧ All e F vs xs := let ⟨p, vs, a, b, c⟩ := r; ⟨p, vs, a, f _ _ b, c⟩
theorem TL_rd (r : (pTL e).r F v xs) (f : Ex F H) : ∃ p vs, v = .ref p ∧ H p = some (.tup vs) ∧ All e F vs xs := let ⟨p, vs, a, b, c⟩ := r; ⟨p, vs, a, f _ _ b, c⟩
theorem ix_L (r : (pL e).r F v xs) (f : Ex F H) {i : Nat} (hx : xs[i]? = some x) : ∃ w, e.r F w x ∧ ∀ ⦃σ ta tb⦄, Val ta σ H v → Val tb σ H (.int (i : Int)) → Val (tOp (rIxL K) ta tb) σ H w := by
  obtain ⟨p, vs, rfl, hp, a⟩ := L_rd r f
  obtain ⟨w, h1, h2⟩ := a.get hx
  exact ⟨w, h2, fun _ _ _ ha hb => v2 ha hb fun Q k => ⟨p, vs, _, w, rfl, rfl, SqL.of hp, atI_nat h1, k⟩⟩
theorem ix_X (r : XL e H0 F H p xs) {i : Nat} (hx : xs[i]? = some x) : ∃ w, e.r F w x ∧ ∀ ⦃σ ta tb⦄, Val ta σ H (.ref p) → Val tb σ H (.int (i : Int)) → Val (tOp (rIxL K) ta tb) σ H w := by
  obtain ⟨vs, hp, a⟩ := r.rd
  obtain ⟨w, h1, h2⟩ := a.get hx
  exact ⟨w, h2, fun _ _ _ ha hb => v2 ha hb fun Q k => ⟨p, vs, _, w, rfl, rfl, SqL.of hp, atI_nat h1, k⟩⟩
theorem ix_TL (r : (pTL e).r F v xs) (f : Ex F H) {i : Nat} (hx : xs[i]? = some x) : ∃ w, e.r F w x ∧ ∀ ⦃σ ta tb⦄, Val ta σ H v → Val tb σ H (.int (i : Int)) → Val (tOp (rIxT K) ta tb) σ H w := by
  obtain ⟨p, vs, rfl, hp, a⟩ := TL_rd r f
  obtain ⟨w, h1, h2⟩ := a.get hx
  exact ⟨w, h2, fun _ _ _ ha hb => v2 ha hb fun Q k => ⟨p, vs, _, w, rfl, rfl, SqT.of hp, atI_nat h1, k⟩⟩
theorem ix_S (f : Ex F H) {ys : List Int} {i : Nat} {x : Int} (r : (pScr K).r F v ys) (hx : ys[i]? = some x) : ∀ ⦃σ ta tb⦄, Val ta σ H v → Val tb σ H (.int (i : Int)) → Val (tOp (rIxL K) ta tb) σ H (.int x) := by
  obtain ⟨p, rfl, s⟩ := (pScr K).mono f r
  exact fun _ _ _ ha hb => v2 ha hb fun Q k => ⟨p, _, _, .int x, rfl, rfl, s, atI_nat (by rw [List.getElem?_map, hx]; rfl), k⟩
theorem ix_2a {e : Rep α} {f : Rep β} {x : α × β} (r : (pT2 e f).r F v x) (h : Ex F H) : ∃ w, e.r F w x.1 ∧ ∀ ⦃σ ta tb⦄, Val ta σ H v → Val tb σ H (.int 0) → Val (tOp (rIxT K) ta tb) σ H w := by
  obtain ⟨p, u, w, rfl, hp, a, b⟩ := r
  exact ⟨u, a, fun _ _ _ ha hb => v2 ha hb fun Q k => ⟨p, _, _, u, rfl, rfl, SqT.of (h _ _ hp), rfl, k⟩⟩
theorem ix_2b {e : Rep α} {f : Rep β} {x : α × β} (r : (pT2 e f).r F v x) (h : Ex F H) : ∃ w, f.r F w x.2 ∧ ∀ ⦃σ ta tb⦄, Val ta σ H v → Val tb σ H (.int 1) → Val (tOp (rIxT K) ta tb) σ H w := by
  obtain ⟨p, u, w, rfl, hp, a, b⟩ := r
  exact ⟨w, b, fun _ _ _ ha hb => v2 ha hb fun Q k => ⟨p, _, _, w, rfl, rfl, SqT.of (h _ _ hp), rfl, k⟩⟩
/-! len -/
def rLen (K : PySem.W.Frag) : List V → Hp → VK → Prop := fun xs H Q => ∃ p ys, xs = [.ref p] ∧ (SqL K H p ys ∨ SqT K H p ys) ∧ Q (.int ys.length) H
theorem len_L (r : (pL e).r F v xs) (f : Ex F H) (ha : Val ta σ H v) : Val (tCB (rLen K) (tCons ta tNil)) σ H (.int ((xs.length : Nat) : Int)) := by
  obtain ⟨p, vs, rfl, hp, a⟩ := L_rd r f
  exact v_cb1 ha fun Q k => ⟨p, vs, rfl, .inl (SqL.of hp), by rw [a.len]; exact k⟩
theorem len_TL (r : (pTL e).r F v xs) (f : Ex F H) (ha : Val ta σ H v) : Val (tCB (rLen K) (tCons ta tNil)) σ H (.int ((xs.length : Nat) : Int)) := by
  obtain ⟨p, vs, rfl, hp, a⟩ := TL_rd r f
  exact v_cb1 ha fun Q k => ⟨p, vs, rfl, .inr (SqT.of hp), by rw [a.len]; exact k⟩
theorem len_X (r : XL e H0 F H p xs) (ha : Val ta σ H (.ref p)) : Val (tCB (rLen K) (tCons ta tNil)) σ H (.int ((xs.length : Nat) : Int)) := by
  obtain ⟨vs, hp, a⟩ := r.rd
  exact v_cb1 ha fun Q k => ⟨p, vs, rfl, .inl (SqL.of hp), by rw [a.len]; exact k⟩
theorem len_S {ys : List Int} (r : (pScr K).r F v ys) (f : Ex F H) (ha : Val ta σ H v) : Val (tCB (rLen K) (tCons ta tNil)) σ H (.int ((ys.length : Nat) : Int)) := by
  obtain ⟨p, rfl, s⟩ := (pScr K).mono f r
  exact v_cb1 ha fun Q k => ⟨p, _, rfl, .inl s, by rw [List.length_map]; exact k⟩
theorem len_T2 {e : Rep α} {f : Rep β} {x : α × β} (r : (pT2 e f).r F v x) (h : Ex F H) (ha : Val ta σ H v) : Val (tCB (rLen K) (tCons ta tNil)) σ H (.int ((2 : Nat) : Int)) := by
  obtain ⟨p, u, w, rfl, hp, a, b⟩ := r
  exact v_cb1 ha fun Q k => ⟨p, _, rfl, .inr (SqT.of (h _ _ hp)), k⟩
/-! ### new things -/
def kLst (Q : VK) (xs : List V) (H : Hp) : Prop := xs.length ≤ sizeLine ∧ ∀ p, H p = none → Q (.ref p) (upd H p (.lst xs))
def kTup (Q : VK) (xs : List V) (H : Hp) : Prop := xs.length ≤ sizeLine ∧ ∀ p, H p = none → Q (.ref p) (upd H p (.tup xs))
theorem small_len {n : Nat} (h : n < 1000000) : n < sizeLine := by rw [sizeLine_eq]; omega
theorem n_lstX {vs : List V} (a : All e F vs xs) (hl : xs.length < 1000000) (w : Wf F0 H0 F H) (k : ∀ p H', H p = none → Wf F H F H' → XL e H0 F H' p xs → Q (.ref p) H') :
    kLst Q vs H := ⟨by rw [a.len]; exact Nat.le_of_lt (small_len hl), fun p hp => k p _ hp (Wf.newX w.f hp) ⟨vs, Xc.mk' w hp, a⟩⟩
theorem n_lst {vs : List V} (a : All e F vs xs) (hl : xs.length < 1000000) (w : Wf F0 H0 F H) (k : ∀ p F' H', Wf F H F' H' → (pL e).r F' (.ref p) xs → Q (.ref p) H') :
    kLst Q vs H := ⟨by rw [a.len]; exact Nat.le_of_lt (small_len hl), fun p hp => k p _ _ (Wf.new w.f hp) ⟨p, vs, rfl, upd_same, a.mono (Ex.new (w.f.non hp))⟩⟩
theorem n_tup2 {e : Rep α} {f : Rep β} {x : α} {y : β} (a : e.r F v x) (b : f.r F w y) (h : Wf F0 H0 F H) (k : ∀ p F' H', Wf F H F' H' → (pT2 e f).r F' (.ref p) (x, y) → Q (.ref p) H') :
    kTup Q [v, w] H := ⟨Nat.le_of_lt (small_len (n := 2) (by decide)), fun p hp => k p _ _ (Wf.new h.f hp) ⟨p, v, w, rfl, upd_same, e.mono (Ex.new (h.f.non hp)) a, f.mono (Ex.new (h.f.non hp)) b⟩⟩
/-- one's own list is changed no more -/
theorem XL.frzE (x : XL e H0 F H p xs) (w : Wf F0 H0 F H) : ∃ F', Wf F0 H0 F' H ∧ Ex F F' ∧ (pL e).r F' (.ref p) xs ∧ Fz F F' p := by
  obtain ⟨vs, a, b⟩ := x.x
  exact ⟨_, w.freeze a, Ex.new a.n, ⟨p, vs, rfl, upd_same, b.mono (Ex.new a.n)⟩, fun q h z => by rw [upd_ne h]; exact z⟩
/-- for a while one's own list is read by others -/
theorem XL.lend (x : XL e H0 F H p xs) (w : Wf F0 H0 F H) : ∃ F', Ex F' H ∧ Ex F F' ∧ (pL e).r F' (.ref p) xs := let ⟨F', a, b, c, _⟩ := x.frzE w; ⟨F', a.f, b, c⟩
/-! append, and the like -/
theorem a_app (x : XL e H0 F H p xs) (w : Wf F0 H0 F H) (hl : xs.length < 1000000) (r : e.r F v y) (k : ∀ H', Wf F0 H0 F H' → XL e H0 F H' p (xs ++ [y]) → (∀ q o, H q = some o → q ≠ p → H' q = some o) → Q .non H') : rAppend (.ref p) [v] H Q := by
  obtain ⟨vs, a, b⟩ := x.x
  exact ⟨p, vs, v, rfl, rfl, a.h, by rw [b.len]; exact small_len hl, k _ (w.set a) ⟨_, a.set, b.snoc r⟩ fun q o h hq => by rw [upd_ne hq]; exact h⟩
/-- another's place is as it was -/
theorem Xc.kept {o : HO} (x : Xc H0 F H q o) (h : ∀ q o, H q = some o → q ≠ p → H' q = some o) (hq : q ≠ p) : Xc H0 F H' q o := ⟨x.z, x.n, h _ _ x.h hq⟩
theorem XL.kept (x : XL e H0 F H q xs) (h : ∀ q o, H q = some o → q ≠ p → H' q = some o) (hq : q ≠ p) : XL e H0 F H' q xs := let ⟨vs, a, b⟩ := x.x; ⟨vs, a.kept h hq, b⟩
/-! ### loops -/
variable {S : Type} {R : Type} {g : TG} {tb : TS} {body : β → S → (S → Prop) → (S → Prop) → Prop} {s0 : S} {k : S → Prop} {vs : List V} {zs : List β} {b : Rep β}
/-- over a list that stays -/
theorem w_forL (Inv : S → L2.St → Hp → Hp → Prop) (r : (pL b).r F v zs) (hW : forW zs s0 body k) (h0 : Inv s0 σ F H)
    (ex : ∀ s σ' F' H', Inv s σ' F' H' → Ex F F' ∧ Ex F' H') (f : Ex F H)
    (turn : ∀ (N Bk : L2.St → Hp → Prop) x u s σ' F' H' (nx bk : S → Prop), Inv s σ' F' H' → x ∈ zs → b.r F' u x → body x s nx bk → (∀ s' σ2 F2 H2, Inv s' σ2 F2 H2 → nx s' → N σ2 H2) → (∀ s' σ2 F2 H2, Inv s' σ2 F2 H2 → bk s' → Bk σ2 H2) →
      g u σ' H' fun σ2 H2 => tb { D with nx := N, ct := N, bk := Bk } σ2 H2)
    (done : ∀ s σ' F' H', Inv s σ' F' H' → k s → D.nx σ' H') :
    ∃ a, v = .ref a ∧ (∃ xs, SqL K H a xs) ∧ (fun J H1 => ∃ W : Nat → Nat → L2.St → Hp → Prop, (∃ m, W 0 m σ H1) ∧ ∀ i m σ H, W i m σ H →
      (J.stop i H ∧ D.nx σ H) ∨ (J.go i H ∧ ∃ N : L2.St → Hp → Prop, (∀ σ' H', N σ' H' → ∃ m', m' < m ∧ W (i + 1) m' σ' H') ∧ ∀ x H', J.yld i H x H' → g x σ H' fun σ2 H2 => tb { D with nx := N, ct := N, bk := D.nx } σ2 H2)) (Itl K a) H := by
  obtain ⟨p, vs, rfl, hp, a⟩ := r
  refine ⟨p, rfl, ⟨_, SqL.of (f _ _ hp)⟩, for_list (xs := vs) (fun i σ' H' => ∃ s F', Inv s σ' F' H' ∧ forW (zs.drop i) s body k) ⟨s0, F, h0, hW⟩ (fun i σ' H' _ ⟨s, F', hI, _⟩ => SqL.of ((ex _ _ _ _ hI).2 _ _ ((ex _ _ _ _ hI).1 _ _ hp))) ?_ ?_⟩
  · rintro i u σ' H' hu ⟨s, F', hI, hw⟩
    obtain ⟨x, hx, rx⟩ := a.got hu
    have e : zs.drop i = x :: zs.drop (i + 1) := by
      obtain ⟨h1, h2⟩ := List.getElem?_eq_some_iff.mp hx
      rw [← h2]; exact List.drop_eq_getElem_cons h1
    rw [e] at hw
    exact turn _ _ x u s σ' F' H' _ _ hI (List.mem_of_getElem? hx) (b.mono (ex _ _ _ _ hI).1 rx) hw (fun s' σ2 F2 H2 q n => ⟨s', F2, q, n⟩) (fun s' σ2 F2 H2 q n => done s' σ2 F2 H2 q n)
  · rintro σ' H' ⟨s, F', hI, hw⟩
    rw [List.drop_of_length_le (by rw [a.len]; exact Nat.le_refl _)] at hw
    exact done _ _ _ _ hI hw
/-- over range(n) -/
theorem w_forR {n : Nat} {body : Nat → S → (S → Prop) → (S → Prop) → Prop} (Inv : S → L2.St → Hp → Hp → Prop) (hn : n < 1000000) (hW : forW (List.range n) s0 body k) (h0 : Inv s0 σ F H)
    (turn : ∀ (N Bk : L2.St → Hp → Prop) (x : Nat) s σ' F' H' (nx bk : S → Prop), Inv s σ' F' H' → x < n → body x s nx bk → (∀ s' σ2 F2 H2, Inv s' σ2 F2 H2 → nx s' → N σ2 H2) → (∀ s' σ2 F2 H2, Inv s' σ2 F2 H2 → bk s' → Bk σ2 H2) →
      g (.int (x : Int)) σ' H' fun σ2 H2 => tb { D with nx := N, ct := N, bk := Bk } σ2 H2)
    (done : ∀ s σ' F' H', Inv s σ' F' H' → k s → D.nx σ' H') :
    ∃ j : Int, [V.int (n : Int)] = [.int j] ∧ -(2 ^ 62) ≤ j ∧ j < 2 ^ 62 ∧ (fun J H1 => ∃ W : Nat → Nat → L2.St → Hp → Prop, (∃ m, W 0 m σ H1) ∧ ∀ i m σ H, W i m σ H →
      (J.stop i H ∧ D.nx σ H) ∨ (J.go i H ∧ ∃ N : L2.St → Hp → Prop, (∀ σ' H', N σ' H' → ∃ m', m' < m ∧ W (i + 1) m' σ' H') ∧ ∀ x H', J.yld i H x H' → g x σ H' fun σ2 H2 => tb { D with nx := N, ct := N, bk := D.nx } σ2 H2)) (Itr 0 j.toNat) H := by
  refine ⟨(n : Int), rfl, by omega, by omega, for_range (lo := 0) (n := n) (fun i σ' H' => ∃ s F', Inv s σ' F' H' ∧ forW ((List.range n).drop i) s body k) ⟨s0, F, h0, hW⟩ ?_ ?_⟩
  · rintro i σ' H' hi ⟨s, F', hI, hw⟩
    have e : (List.range n).drop i = i :: (List.range n).drop (i + 1) := by
      have h1 : i < (List.range n).length := by rw [List.length_range]; exact hi
      rw [List.drop_eq_getElem_cons h1, List.getElem_range]
    rw [e] at hw
    have z : (0 : Int) + (i : Int) = (i : Int) := Int.zero_add _
    rw [z]
    exact turn _ _ i s σ' F' H' _ _ hI hi hw (fun s' σ2 F2 H2 q n => ⟨s', F2, q, n⟩) (fun s' σ2 F2 H2 q n => done s' σ2 F2 H2 q n)
  · rintro σ' H' ⟨s, F', hI, hw⟩
    rw [List.drop_of_length_le (by rw [List.length_range]; exact Nat.le_refl _)] at hw
    exact done _ _ _ _ hI hw
/-- while -/
theorem w_while {test : S → (Bool → Prop) → Prop} {body : S → (S → Prop) → (S → Prop) → Prop} (Inv : S → L2.St → Hp → Hp → Prop) (hW : whileW test body s0 k) (h0 : Inv s0 σ F H)
    (cond : ∀ s σ' F' H' (T : Bool → Prop) (Qc : Bool → Hp → Prop), Inv s σ' F' H' → test s T → (∀ b F2 H2, Inv s σ' F2 H2 → T b → Qc b H2) → tt σ' H' Qc)
    (turn : ∀ (N Bk : L2.St → Hp → Prop) s σ' F' H' (nx bk : S → Prop), Inv s σ' F' H' → body s nx bk → (∀ s' σ2 F2 H2, Inv s' σ2 F2 H2 → nx s' → N σ2 H2) → (∀ s' σ2 F2 H2, Inv s' σ2 F2 H2 → bk s' → Bk σ2 H2) →
      tb { D with nx := N, ct := N, bk := Bk } σ' H')
    (done : ∀ s σ' F' H', Inv s σ' F' H' → k s → D.nx σ' H') : tWhile tt tb D σ H := by
  obtain ⟨I, ⟨m0, hm⟩, hs⟩ := hW
  refine ⟨fun m σ' H' => ∃ s F', Inv s σ' F' H' ∧ I m s, ⟨m0, s0, F, h0, hm⟩, ?_⟩
  rintro m σ' H' ⟨s, F', hI, im⟩
  refine cond s σ' F' H' _ _ hI (hs m s im) fun b F2 H2 hI2 hb => ?_
  cases b with
  | true =>
    rw [if_pos rfl] at hb ⊢
    exact ⟨_, fun _ _ q => q, turn (fun σ2 H2 => ∃ m', m' < m ∧ ∃ s' F', Inv s' σ2 F' H2 ∧ I m' s') _ s σ' F2 H2 _ _ hI2 hb (fun s' σ2 F3 H3 q ⟨m', l, i⟩ => ⟨m', l, s', F3, q, i⟩) (fun s' σ2 F3 H3 q n => done s' σ2 F3 H3 q n)⟩
  | false =>
    rw [if_neg (by simp)] at hb ⊢
    exact done s σ' F2 H2 hI2 hb
/-- ways that meet again -/
def jn {S : Type} (f : (S → Prop) → Prop) (k : S → Prop) : Prop := f k
theorem q_jn {f : (S → Prop) → Prop} {t u : TS} (hW : jn f k) (Inv : S → L2.St → Hp → Hp → Prop)
    (h1 : ∀ N : L2.St → Hp → Prop, (∀ s σ' F' H', Inv s σ' F' H' → k s → N σ' H') → f k → t { D with nx := N } σ H) (h2 : ∀ s σ' F' H', Inv s σ' F' H' → k s → u D σ' H') : tSeq t u D σ H :=
  h1 (u D) (fun s σ' F' H' q n => h2 s σ' F' H' q n) hW
theorem e_jn {f : (S → Prop) → Prop} {Qt : Bool → Hp → Prop} (hW : jn f k) (Inv : S → Bool → Hp → Hp → Prop)
    (h1 : ∀ N : Bool → Hp → Prop, (∀ s b F' H', Inv s b F' H' → k s → N b H') → f k → tt σ H N) (h2 : ∀ s b F' H', Inv s b F' H' → k s → Qt b H') : tt σ H Qt :=
  h1 Qt (fun s σ' F' H' q n => h2 s σ' F' H' q n) hW
/-! ### comprehensions -/
/-- what a comprehension asks of its source's value -/
def kCpL (K : PySem.W.Frag) (g : TG) (tc : TT) (te : TE) (vs : List Nat) (σ : L2.St) (Q : VK) (v : V) (H : Hp) : Prop := ∃ a, v = .ref a ∧ (∃ xs, SqL K H a xs) ∧ (fun J H1 => ∀ D, H1 D = none → ∃ W : Nat → Nat → Hp → Prop, (∃ m, W 0 m (upd H1 D (.lst []))) ∧ ∀ i m H, W i m H →
      (J.stop i H ∧ Q (.ref D) H) ∨ (J.go i H ∧ ∃ Nx : Hp → Prop, (∀ H', Nx H' → ∃ m', m' < m ∧ W (i + 1) m' H') ∧ ∀ x H', J.yld i H x H' → g x (wipe σ vs) H' fun σ2 H2 => wipe σ2 vs = wipe σ vs ∧ tc σ2 H2 fun b H3 =>
        if b = true then te σ2 H3 fun y H4 => ∃ acc, H4 D = some (.lst acc) ∧ acc.length < sizeLine ∧ Nx (upd H4 D (.lst (acc ++ [y]))) else Nx H3)) (Itl K a) H
def kCpR (g : TG) (tc : TT) (te : TE) (vs : List Nat) (σ : L2.St) (Q : VK) (v : V) (H : Hp) : Prop := ∃ j : Int, [v] = [.int j] ∧ -(2 ^ 62) ≤ j ∧ j < 2 ^ 62 ∧ (fun J H1 => ∀ D, H1 D = none → ∃ W : Nat → Nat → Hp → Prop, (∃ m, W 0 m (upd H1 D (.lst []))) ∧ ∀ i m H, W i m H →
      (J.stop i H ∧ Q (.ref D) H) ∨ (J.go i H ∧ ∃ Nx : Hp → Prop, (∀ H', Nx H' → ∃ m', m' < m ∧ W (i + 1) m' H') ∧ ∀ x H', J.yld i H x H' → g x (wipe σ vs) H' fun σ2 H2 => wipe σ2 vs = wipe σ vs ∧ tc σ2 H2 fun b H3 =>
        if b = true then te σ2 H3 fun y H4 => ∃ acc, H4 D = some (.lst acc) ∧ acc.length < sizeLine ∧ Nx (upd H4 D (.lst (acc ++ [y]))) else Nx H3)) (Itr 0 j.toNat) H
theorem w_compC {ws : List V} {tc : TT} {vs : List Nat} {bd : β → (Option α → Prop) → Prop} {kk : List α → Prop} (hp : H p = some (.lst ws)) (a : All b F ws zs) (w : Wf F0 H0 F H) (hn : zs.length < 1000000) (hW : compW zs bd kk)
    (turn : ∀ (Qy : V → Hp → Prop) (Qn : Hp → Prop) x u F1 H1 (R : Option α → Prop), Wf F H F1 H1 → x ∈ zs → b.r F1 u x → bd x R → (∀ y z F2 H2, Wf F1 H1 F2 H2 → e.r F2 y z → R (some z) → Qy y H2) → (∀ F2 H2, Wf F1 H1 F2 H2 → R none → Qn H2) →
      g u (wipe σ vs) H1 fun σ2 H2 => wipe σ2 vs = wipe σ vs ∧ tc σ2 H2 fun b H3 => if b = true then te σ2 H3 Qy else Qn H3)
    (done : ∀ p ys F' H', H p = none → Wf F H F' H' → XL e H0 F' H' p ys → kk ys → Q (.ref p) H') :
    kCpL K g tc te vs σ Q (V.ref p) H := by
  unfold kCpL
  refine ⟨p, rfl, ⟨_, SqL.of hp⟩, fun D hD => lc_list (xs := ws) (fun i H' => ∃ F' ac ys, Wf F H F' H' ∧ Xc H F' H' D (.lst ac) ∧ All e F' ac ys ∧ ys.length ≤ i ∧ compG (zs.drop i) ys bd kk)
    ⟨F, [], [], Wf.newX w.f hD, Xc.mk' (Wf.id w.f) hD, trivial, Nat.le_refl _, hW⟩ (fun i H' _ ⟨F', ac, ys, q, _⟩ => SqL.of (q.h _ _ hp)) ?_ ?_⟩
  · rintro i u H' hu ⟨F', ac, ys, q, xc, al, hl, hw⟩
    obtain ⟨x, hx, rx⟩ := a.got hu
    obtain ⟨h1, h2⟩ := List.getElem?_eq_some_iff.mp hx
    have e' : zs.drop i = x :: zs.drop (i + 1) := by rw [← h2]; exact List.drop_eq_getElem_cons h1
    rw [e'] at hw
    refine turn _ _ x u F' H' _ q (List.mem_of_getElem? hx) (b.mono q.g rx) hw (fun y z F2 H2 s ry hR => ?_) (fun F2 H2 s hR => ?_)
    · have xc2 := xc.step s
      exact ⟨ac, xc2.h, by rw [al.len]; exact small_len (by omega), F2, ac ++ [y], ys ++ [z], (q.tr s).set xc2, xc2.set, (al.mono s.g).snoc ry, by rw [List.length_append]; exact Nat.succ_le_succ hl, hR⟩
    · exact ⟨F2, ac, ys, q.tr s, xc.step s, al.mono s.g, Nat.le_succ_of_le hl, by simpa using hR⟩
  · rintro H' ⟨F', ac, ys, q, xc, al, hl, hw⟩
    rw [List.drop_of_length_le (by rw [a.len]; exact Nat.le_refl _)] at hw
    exact done D ys F' H' hD q ⟨ac, ⟨w.h.non hD, xc.n, xc.h⟩, al⟩ hw
theorem w_compL {tc : TT} {vs : List Nat} {bd : β → (Option α → Prop) → Prop} {kk : List α → Prop} (r : (pL b).r F v zs) (w : Wf F0 H0 F H) (hn : zs.length < 1000000) (hW : compW zs bd kk)
    (turn : ∀ (Qy : V → Hp → Prop) (Qn : Hp → Prop) x u F1 H1 (R : Option α → Prop), Wf F H F1 H1 → x ∈ zs → b.r F1 u x → bd x R → (∀ y z F2 H2, Wf F1 H1 F2 H2 → e.r F2 y z → R (some z) → Qy y H2) → (∀ F2 H2, Wf F1 H1 F2 H2 → R none → Qn H2) →
      g u (wipe σ vs) H1 fun σ2 H2 => wipe σ2 vs = wipe σ vs ∧ tc σ2 H2 fun b H3 => if b = true then te σ2 H3 Qy else Qn H3)
    (done : ∀ p ys F' H', H p = none → Wf F H F' H' → XL e H0 F' H' p ys → kk ys → Q (.ref p) H') :
    kCpL K g tc te vs σ Q v H := by
  obtain ⟨p, ws, rfl, hp, a⟩ := r
  exact w_compC (w.f _ _ hp) a w hn hW turn done
theorem w_compX {tc : TT} {vs : List Nat} {bd : β → (Option α → Prop) → Prop} {kk : List α → Prop} (r : XL b H0 F H p zs) (w : Wf F0 H0 F H) (hn : zs.length < 1000000) (hW : compW zs bd kk)
    (turn : ∀ (Qy : V → Hp → Prop) (Qn : Hp → Prop) x u F1 H1 (R : Option α → Prop), Wf F H F1 H1 → x ∈ zs → b.r F1 u x → bd x R → (∀ y z F2 H2, Wf F1 H1 F2 H2 → e.r F2 y z → R (some z) → Qy y H2) → (∀ F2 H2, Wf F1 H1 F2 H2 → R none → Qn H2) →
      g u (wipe σ vs) H1 fun σ2 H2 => wipe σ2 vs = wipe σ vs ∧ tc σ2 H2 fun b H3 => if b = true then te σ2 H3 Qy else Qn H3)
    (done : ∀ p ys F' H', H p = none → Wf F H F' H' → XL e H0 F' H' p ys → kk ys → Q (.ref p) H') :
    kCpL K g tc te vs σ Q (V.ref p) H := by
  obtain ⟨ws, hp, a⟩ := r.rd
  exact w_compC hp a w hn hW turn done
theorem w_compR {tc : TT} {vs : List Nat} {n : Nat} {bd : Nat → (Option α → Prop) → Prop} {kk : List α → Prop} (w : Wf F0 H0 F H) (hn : n < 1000000) (hW : compW (List.range n) bd kk)
    (turn : ∀ (Qy : V → Hp → Prop) (Qn : Hp → Prop) (x : Nat) F1 H1 (R : Option α → Prop), Wf F H F1 H1 → x < n → bd x R → (∀ y z F2 H2, Wf F1 H1 F2 H2 → e.r F2 y z → R (some z) → Qy y H2) → (∀ F2 H2, Wf F1 H1 F2 H2 → R none → Qn H2) →
      g (.int (x : Int)) (wipe σ vs) H1 fun σ2 H2 => wipe σ2 vs = wipe σ vs ∧ tc σ2 H2 fun b H3 => if b = true then te σ2 H3 Qy else Qn H3)
    (done : ∀ p ys F' H', H p = none → Wf F H F' H' → XL e H0 F' H' p ys → kk ys → Q (.ref p) H') :
    kCpR g tc te vs σ Q (.int (n : Int)) H := by
  unfold kCpR
  refine ⟨(n : Int), rfl, by omega, by omega, fun D hD => lc_range (lo := 0) (n := n) (fun i H' => ∃ F' ac ys, Wf F H F' H' ∧ Xc H F' H' D (.lst ac) ∧ All e F' ac ys ∧ ys.length ≤ i ∧ compG ((List.range n).drop i) ys bd kk)
    ⟨F, [], [], Wf.newX w.f hD, Xc.mk' (Wf.id w.f) hD, trivial, Nat.le_refl _, hW⟩ ?_ ?_⟩
  · rintro i H' hi ⟨F', ac, ys, q, xc, al, hl, hw⟩
    have e' : (List.range n).drop i = i :: (List.range n).drop (i + 1) := by
      have h1 : i < (List.range n).length := by rw [List.length_range]; exact hi
      rw [List.drop_eq_getElem_cons h1, List.getElem_range]
    rw [e'] at hw
    have z : (0 : Int) + (i : Int) = (i : Int) := Int.zero_add _
    rw [z]
    refine turn _ _ i F' H' _ q hi hw (fun y z F2 H2 s ry hR => ?_) (fun F2 H2 s hR => ?_)
    · have xc2 := xc.step s
      exact ⟨ac, xc2.h, by rw [al.len]; exact small_len (by omega), F2, ac ++ [y], ys ++ [z], (q.tr s).set xc2, xc2.set, (al.mono s.g).snoc ry, by rw [List.length_append]; exact Nat.succ_le_succ hl, hR⟩
    · exact ⟨F2, ac, ys, q.tr s, xc.step s, al.mono s.g, Nat.le_succ_of_le hl, by simpa using hR⟩
  · rintro H' ⟨F', ac, ys, q, xc, al, hl, hw⟩
    rw [List.drop_of_length_le (by rw [List.length_range]; exact Nat.le_refl _)] at hw
    exact done D ys F' H' hD q ⟨ac, ⟨w.h.non hD, xc.n, xc.h⟩, al⟩ hw
end
end Wk

namespace Wk
open PySem L2
section
variable {X : Cx} {σ : L2.St} {H : Hp} {te tl ta tb : TE} {tt tc : TT} {tA : TA} {Q : VK} {v w x y z : V} {D : Ends} {tu : TS} {g : TG} {K : PySem.W.Frag} {p q : Prop}
theorem f_L (h : Val tl σ H v) (k : ∃ a, v = .ref a ∧ (∃ xs, SqL K H a xs) ∧ (fun J H1 => ∃ W : Nat → Nat → L2.St → Hp → Prop, (∃ m, W 0 m σ H1) ∧ ∀ i m σ H, W i m σ H →
      (J.stop i H ∧ D.nx σ H) ∨ (J.go i H ∧ ∃ N : L2.St → Hp → Prop, (∀ σ' H', N σ' H' → ∃ m', m' < m ∧ W (i + 1) m' σ' H') ∧ ∀ x H', J.yld i H x H' → g x σ H' fun σ2 H2 => tu { D with nx := N, ct := N, bk := D.nx } σ2 H2)) (Itl K a) H) : tFor (iList K tl) g tu D σ H := h _ k
theorem f_LE (h : tl σ H fun v H => ∃ a, v = .ref a ∧ (∃ xs, SqL K H a xs) ∧ (fun J H1 => ∃ W : Nat → Nat → L2.St → Hp → Prop, (∃ m, W 0 m σ H1) ∧ ∀ i m σ H, W i m σ H →
      (J.stop i H ∧ D.nx σ H) ∨ (J.go i H ∧ ∃ N : L2.St → Hp → Prop, (∀ σ' H', N σ' H' → ∃ m', m' < m ∧ W (i + 1) m' σ' H') ∧ ∀ x H', J.yld i H x H' → g x σ H' fun σ2 H2 => tu { D with nx := N, ct := N, bk := D.nx } σ2 H2)) (Itl K a) H) : tFor (iList K tl) g tu D σ H := h
theorem f_R (h : Val te σ H v) (k : ∃ j : Int, [v] = [.int j] ∧ -(2 ^ 62) ≤ j ∧ j < 2 ^ 62 ∧ (fun J H1 => ∃ W : Nat → Nat → L2.St → Hp → Prop, (∃ m, W 0 m σ H1) ∧ ∀ i m σ H, W i m σ H →
      (J.stop i H ∧ D.nx σ H) ∨ (J.go i H ∧ ∃ N : L2.St → Hp → Prop, (∀ σ' H', N σ' H' → ∃ m', m' < m ∧ W (i + 1) m' σ' H') ∧ ∀ x H', J.yld i H x H' → g x σ H' fun σ2 H2 => tu { D with nx := N, ct := N, bk := D.nx } σ2 H2)) (Itr 0 j.toNat) H) : tFor (iRng1 (tCons te tNil)) g tu D σ H := h _ k
theorem f_RE (h : te σ H fun v H => ∃ j : Int, [v] = [.int j] ∧ -(2 ^ 62) ≤ j ∧ j < 2 ^ 62 ∧ (fun J H1 => ∃ W : Nat → Nat → L2.St → Hp → Prop, (∃ m, W 0 m σ H1) ∧ ∀ i m σ H, W i m σ H →
      (J.stop i H ∧ D.nx σ H) ∨ (J.go i H ∧ ∃ N : L2.St → Hp → Prop, (∀ σ' H', N σ' H' → ∃ m', m' < m ∧ W (i + 1) m' σ' H') ∧ ∀ x H', J.yld i H x H' → g x σ H' fun σ2 H2 => tu { D with nx := N, ct := N, bk := D.nx } σ2 H2)) (Itr 0 j.toNat) H) : tFor (iRng1 (tCons te tNil)) g tu D σ H := h
theorem c_LE {vs : List Nat} (h : tl σ H (kCpL K g tc te vs σ Q)) : tLc (iList K tl) g tc te vs σ H Q := h
theorem c_RE {vs : List Nat} (h : ta σ H (kCpR g tc te vs σ Q)) : tLc (iRng1 (tCons ta tNil)) g tc te vs σ H Q := h
theorem c_yes {A B : Hp → Prop} (h : A H) : tYes σ H fun b H3 => if b = true then A H3 else B H3 := by show if true = true then A H else B H; rw [if_pos rfl]; exact h
theorem c_if [Decidable p] {A B : Hp → Prop} (h : Ans tt σ H (decide p)) (h1 : p → A H) (h2 : ¬ p → B H) : tt σ H fun b H3 => if b = true then A H3 else B H3 := h _ (by
  by_cases hp : p
  · rw [decide_eq_true hp, if_pos rfl]; exact h1 hp
  · rw [decide_eq_false hp, if_neg (by simp)]; exact h2 hp)
theorem b_if {p : Prop} [Decidable p] {A B : Prop} (h1 : p → A) (h2 : ¬ p → B) : if decide p = true then A else B := by
  by_cases hp : p
  · rw [decide_eq_true hp, if_pos rfl]; exact h1 hp
  · rw [decide_eq_false hp, if_neg (by simp)]; exact h2 hp
theorem bb_if {b : Bool} {A B : Prop} (h1 : b = true → A) (h2 : ¬ b = true → B) : if b = true then A else B := by
  by_cases hp : b = true
  · rw [if_pos hp]; exact h1 hp
  · rw [if_neg hp]; exact h2 hp
theorem e_op {r : R2} (h : ta σ H fun x H1 => tb σ H1 fun y H2 => r x y H2 Q) : tOp r ta tb σ H Q := h
theorem rv2 {r : R2} (h : Val (tOp r (tC x) (tC y)) [] H z) (q : Q z H) : r x y H Q := h Q q
theorem rv2T {r : R2} {b : Bool} {Qt : Bool → Hp → Prop} (h : Val (tOp r (tC x) (tC y)) [] H (.bl b)) (q : Qt b H) : r x y H (fun x H' => ∃ k, x = .bl k ∧ Qt k H') := h _ ⟨b, rfl, q⟩
theorem rcb1 {r : List V → Hp → VK → Prop} (h : Val (tCB r (tCons (tC x) tNil)) [] H z) (q : Q z H) : r [x] H Q := h Q q
theorem rcb2 {r : List V → Hp → VK → Prop} (h : Val (tCB r (tCons (tC x) (tCons (tC y) tNil))) [] H z) (q : Q z H) : r [x, y] H Q := h Q q
theorem e_cb {r : List V → Hp → VK → Prop} (h : tA σ H fun vs H1 => r vs H1 Q) : tCB r tA σ H Q := h
theorem e_tB {Qt : Bool → Hp → Prop} (h : te σ H fun x H1 => ∃ c, x = .bl c ∧ Qt c H1) : tB te σ H Qt := h
theorem e_tT {Qt : Bool → Hp → Prop} (h : te σ H fun x H1 => ∃ c, x = .bl c ∧ Qt c H1) : tTest te σ H Qt := h
theorem e_bl {Qt : Bool → Hp → Prop} {b : Bool} (h : Qt b H) : ∃ c, V.bl b = .bl c ∧ Qt c H := ⟨b, rfl, h⟩
theorem e_tNot {Qt : Bool → Hp → Prop} (h : tt σ H fun c H1 => Qt (!c) H1) : tNot tt σ H Qt := h
theorem e_ans {Qt : Bool → Hp → Prop} {b : Bool} (h : Ans tt σ H b) (q : Qt b H) : tt σ H Qt := h Qt q
theorem e_tup (h : tA σ H (kTup Q)) : tTup tA σ H Q := h
theorem e_lst (h : tA σ H (kLst Q)) : tLst tA σ H Q := h
theorem a_asgG (h : te σ H fun v H1 => g v σ H1 D.nx) : tAsg te g D σ H := h
theorem a_augE {i : Nat} {ti : TIp} (hx : σ[i]? = some (some x)) (h : te σ H fun y H1 => ti x y H1 fun z H2 => D.nx (σ.set i (some z)) H2) : tAug i te ti D σ H := ⟨x, hx, h⟩
theorem a_augV {i : Nat} {ti : TIp} (hx : σ[i]? = some (some x)) (h : Val te σ H y) (hv : Val (tOp ti (tC x) (tC y)) [] H z) (q : D.nx (σ.set i (some z)) H) : tAug i te ti D σ H := ⟨x, hx, h _ (hv _ q)⟩
theorem XL.base {α : Type} {e : Rep α} {F0 H0 F F' H' : Hp} {p : Addr} {xs : List α} (x : XL e H F' H' p xs) (w : Wf F0 H0 F H) : XL e H0 F' H' p xs := let ⟨vs, a, b⟩ := x.x; ⟨vs, ⟨w.h.non a.z, a.n, a.h⟩, b⟩
end
/-- a def that may be called -/
structure Fn (P : Program) (w : World) (K : PySem.W.Frag) (mg : Str → Option Value) (base : Heap) (CX : CXT) (k : Nat) (x : Str) (ps : List Str) (sp : Sp) : Prop where
  ex : ∃ f fd, FnOk P w K mg base CX k f fd ps sp ∧ mg x = some (.ref f) ∧ PySem.W.keepIn K (.ref f) = true ∧ Binds K fd ps []
theorem pe_fn {X : Cx} {k : Nat} {x : Str} {ps : List Str} {sp : Sp} {e : Expr} {es : List Expr} {p pos : Pos} {t : TA} (C : Fn X.prog X.w X.K X.mg X.base CX0 k x ps sp) (hr : Room k X.A) (hg : Gl X x) (ha : PA X (e :: es) t) (hdb : (x == ("__debug__" : Str)) = false := by decide)
    (he : starEach (e :: es) X.env = (false, eval e X.env) :: starEach es X.env := by rfl) (hpl : (backTo pos (starEach es X.env)).any (·.1) = false := by rfl) : PE X (.Call (.Name x p) (e :: es) [] pos) (tCall sp [] E0 t) := by
  obtain ⟨f, fd, F, hm, hk, hb⟩ := C.ex
  exact pe_call F hr hg hm hk hb .nil pass0 ha hdb he hpl
theorem pe_fn0 {X : Cx} {k : Nat} {x : Str} {ps : List Str} {sp : Sp} {p pos : Pos} (C : Fn X.prog X.w X.K X.mg X.base CX0 k x ps sp) (hr : Room k X.A) (hg : Gl X x) (hdb : (x == ("__debug__" : Str)) = false := by decide) : PE X (.Call (.Name x p) [] [] pos) (tCall sp [] E0 tNil) := by
  obtain ⟨f, fd, F, hm, hk, hb⟩ := C.ex
  exact pe_call0 F hr hg hm hk hb .nil pass0 hdb
end Wk

namespace Wk
open PySem L2
theorem dec_and {p q : Prop} [Decidable p] [Decidable q] : (decide p && decide q) = decide (p ∧ q) := by
  by_cases hp : p
  · by_cases hq : q
    · rw [decide_eq_true hp, decide_eq_true hq, decide_eq_true (And.intro hp hq)]; rfl
    · rw [decide_eq_false hq, decide_eq_false (fun z : p ∧ q => hq z.2), Bool.and_false]
  · rw [decide_eq_false hp, decide_eq_false (fun z : p ∧ q => hp z.1), Bool.false_and]
theorem dec_tt {b : Bool} : b = decide (b = true) := by cases b <;> rfl
theorem dec_T : true = decide True := rfl
theorem dec_F : false = decide False := rfl
section
variable {α β : Type} {e : Rep α} {f : Rep β} {K : PySem.W.Frag} {σ : L2.St} {F0 H0 F F' H H' : Hp} {te ta tb : TE} {Q : VK} {v w u : V} {xs : List α} {p : Addr} {i : Int} {n : Nat} {x : V}
/-- bit_length -/
def bits (n : Nat) : Nat := if n = 0 then 0 else n.log2 + 1
theorem bits_int (n : Nat) : Builtin.Int.intBits (n : Int) = bits n := by
  unfold Builtin.Int.intBits bits
  by_cases h : n = 0
  · subst h; rfl
  · rw [if_neg (show ¬ (((n : Nat) : Int) == 0) = true by simpa using h), if_neg h]; rfl
theorem vn_bitl (ha : Val ta σ H (.int (n : Int))) : Val (tBits ta) σ H (.int ((bits n : Nat) : Int)) := fun _ k => ha _ ⟨_, rfl, by rw [bits_int]; exact k⟩
theorem v_isi {b : Bool} {cn tn : String} (ha : Val ta σ H x) (ty : TyX K H x (.type tn)) (h : kitB tn cn = some b) : Val (tCB (rIsi K) (tCons ta (tCons (tC (.ty cn)) tNil))) σ H (.bl b) := fun Q k => ha _ ⟨x, .ty cn, _, _, b, rfl, .ty cn, ty, kit_ty h, k⟩
theorem ty_L (r : (pL e).r F v xs) (f : Ex F H) : TyX K H v (.type "list") := by obtain ⟨p, vs, rfl, hp, _⟩ := r; exact .base (.lst (f _ _ hp))
theorem ty_TL (r : (pTL e).r F v xs) (f : Ex F H) : TyX K H v (.type "tuple") := by obtain ⟨p, vs, rfl, hp, _⟩ := r; exact .base (.tup (f _ _ hp))
theorem ty_T2 {z : α × β} (r : (pT2 e f).r F v z) (h : Ex F H) : TyX K H v (.type "tuple") := by obtain ⟨p, _, _, rfl, hp, _⟩ := r; exact .base (.tup (h _ _ hp))
theorem ty_X (r : XL e H0 F H p xs) : TyX K H (.ref p) (.type "list") := by obtain ⟨vs, hp, _⟩ := r.rd; exact .base (.lst hp)
def rInt1 : List V → Hp → VK → Prop := fun xs H Q => (∃ i, xs = [.int i] ∧ Q (.int i) H) ∨ ∃ k, xs = [.bl k] ∧ Q (.int (if k then 1 else 0)) H
theorem v_intI (ha : Val ta σ H (.int i)) : Val (tCB rInt1 (tCons ta tNil)) σ H (.int i) := fun _ k => ha _ (.inl ⟨i, rfl, k⟩)
theorem v_intB {b : Bool} (ha : Val ta σ H (.bl b)) : Val (tCB rInt1 (tCons ta tNil)) σ H (.int ((b.toNat : Nat) : Int)) := fun _ k => ha _ (.inr ⟨b, rfl, by cases b <;> exact k⟩)
end
end Wk

namespace Wk
open PySem L2
/-! ### readings by short names -/
abbrev kAdd : R2 := L2.rI0 fun i j => .int (i + j)
abbrev kSub : R2 := L2.rI0 fun i j => .int (i - j)
abbrev kMul : R2 := L2.rI CMul fun i j => .int (i * j)
abbrev kMulX : R2 := L2.rI CMulX fun i j => .int (i * j)
abbrev kDiv : R2 := L2.rI CDivW fun i j => .int (i / j)
abbrev kMod : R2 := L2.rI (fun _ j => 0 < j) fun i j => .int (i % j)
abbrev kPow : R2 := L2.rI CPow fun i j => .int (i ^ j.toNat)
abbrev kShl : R2 := L2.rI CShl fun i j => .int (i * 2 ^ j.toNat)
abbrev kShr : R2 := L2.rI (fun _ j => 0 ≤ j) fun i j => .int (i / 2 ^ j.toNat)
abbrev kAnd : R2 := L2.rI0 fun i j => .int (Builtin.bitAnd i j)
abbrev kOr : R2 := L2.rI0 fun i j => .int (Builtin.bitOr i j)
abbrev kXor : R2 := L2.rI0 fun i j => .int (Builtin.bitXor i j)
abbrev kLt : R2 := L2.rI0 fun i j => .bl (decide (i < j))
abbrev kLe : R2 := L2.rI0 fun i j => .bl (decide (i ≤ j))
abbrev kGt : R2 := L2.rI0 fun i j => .bl (decide (j < i))
abbrev kGe : R2 := L2.rI0 fun i j => .bl (decide (j ≤ i))
abbrev kNeg : V → Hp → VK → Prop := L2.rU fun i => .int (-i)
def rLenS : List V → Hp → VK → Prop := fun xs H Q => ∃ z, xs = [.str z] ∧ z.length ≤ sizeLine ∧ Q (.int z.length) H
def rListOf (K : PySem.W.Frag) : List V → Hp → VK → Prop := fun xs H Q => ∃ p ys, xs = [.ref p] ∧ (SqL K H p ys ∨ SqT K H p ys) ∧ ∀ l, H l = none → Q (.ref l) (upd H l (.lst ys))
section
variable {α β : Type} {e : Rep α} {f : Rep β} {K : PySem.W.Frag} {σ : L2.St} {F0 H0 F F' H H' : Hp} {te ta tb : TE} {Q : VK} {v w u : V} {xs ys : List α} {p q : Addr} {i : Int} {n a b : Nat} {x : V} {tl th : TO}
theorem len_Str {s : Str} (h : s.length < 1000000) (ha : Val ta σ H (.str s)) : Val (tCB rLenS (tCons ta tNil)) σ H (.int ((s.length : Nat) : Int)) := fun _ k => ha _ ⟨s, rfl, Nat.le_of_lt (small_len h), k⟩
theorem XL.frzO (x : XL e H0 F H q xs) (h : Fz F F' p) (hq : q ≠ p) (g : Ex F F') : XL e H0 F' H q xs := let ⟨vs, a, b⟩ := x.x; ⟨vs, ⟨a.z, h _ hq a.n, a.h⟩, b.mono g⟩
/-- list(xs): a new one -/
theorem n_listX (r : (pL e).r F v xs) (w : Wf F0 H0 F H) (k : ∀ p H', H p = none → Wf F H F H' → XL e H0 F H' p xs → Q (.ref p) H') : rListOf K [v] H Q := by
  obtain ⟨p, vs, rfl, hp, a⟩ := r
  exact ⟨p, vs, rfl, .inl (SqL.of (w.f _ _ hp)), fun l hl => k l _ hl (Wf.newX w.f hl) ⟨vs, Xc.mk' w hl, a⟩⟩
theorem n_listXX (r : XL e H0 F H q xs) (w : Wf F0 H0 F H) (k : ∀ p H', H p = none → Wf F H F H' → XL e H0 F H' p xs → Q (.ref p) H') : rListOf K [.ref q] H Q := by
  obtain ⟨vs, hp, a⟩ := r.rd
  exact ⟨q, vs, rfl, .inl (SqL.of hp), fun l hl => k l _ hl (Wf.newX w.f hl) ⟨vs, Xc.mk' w hl, a⟩⟩
theorem n_listXT (r : (pTL e).r F v xs) (w : Wf F0 H0 F H) (k : ∀ p H', H p = none → Wf F H F H' → XL e H0 F H' p xs → Q (.ref p) H') : rListOf K [v] H Q := by
  obtain ⟨p, vs, rfl, hp, a⟩ := r
  exact ⟨p, vs, rfl, .inr (SqT.of (w.f _ _ hp)), fun l hl => k l _ hl (Wf.newX w.f hl) ⟨vs, Xc.mk' w hl, a⟩⟩
/-- xs + ys -/
theorem n_cat (r : (pL e).r F v xs) (s : (pL e).r F u ys) (w : Wf F0 H0 F H) (hl : xs.length + ys.length < 1000000) (k : ∀ p H', H p = none → Wf F H F H' → XL e H0 F H' p (xs ++ ys) → Q (.ref p) H') : rCat v u H Q := by
  obtain ⟨p, vs, rfl, hp, a⟩ := r
  obtain ⟨q, us, rfl, hq, b⟩ := s
  exact ⟨p, q, vs, us, rfl, rfl, w.f _ _ hp, w.f _ _ hq, by rw [a.len, b.len]; exact Nat.le_of_lt (small_len hl), fun l hl => k l _ hl (Wf.newX w.f hl) ⟨_, Xc.mk' w hl, a.app b⟩⟩
theorem All.rep (a : All e F vs' xs) : ∀ n, All e F (List.replicate n vs').flatten (List.replicate n xs).flatten
  | 0 => trivial
  | n + 1 => by rw [List.replicate_succ, List.replicate_succ, List.flatten_cons, List.flatten_cons]; exact a.app (All.rep a n)
/-- xs * n -/
theorem n_rep (r : (pL e).r F v xs) (w : Wf F0 H0 F H) (hl : xs.length * n < 1000000) (hn : n < 1000000) (k : ∀ p H', H p = none → Wf F H F H' → XL e H0 F H' p (List.replicate n xs).flatten → Q (.ref p) H') : rRep v (.int (n : Int)) H Q := by
  obtain ⟨p, vs, rfl, hp, a⟩ := r
  exact ⟨p, _, vs, rfl, rfl, w.f _ _ hp, by omega, by omega, by rw [a.len]; exact Nat.le_of_lt (small_len hl), fun l hl => k l _ hl (Wf.newX w.f hl) ⟨_, Xc.mk' w hl, All.rep a n⟩⟩
/-! slices -/
def cutT (xs : List α) (lo hi : Option Nat) : List α := match lo, hi with
  | none, none => xs
  | none, some b => xs.take b
  | some a, none => xs.drop a
  | some a, some b => (xs.drop a).take (b - a)
theorem cutV_T {ws : List V} (lo hi : Option Nat) : cutV ws (lo.map Int.ofNat) (hi.map Int.ofNat) = cutT ws lo hi := by
  have tk : ∀ (n : Nat) (l : List V), l.take (min n l.length) = l.take n := fun n l => by
    by_cases h : n ≤ l.length
    · rw [Nat.min_eq_left h]
    · rw [Nat.min_eq_right (by omega), List.take_of_length_le (Nat.le_refl _), List.take_of_length_le (by omega)]
  unfold cutV cutT
  cases lo with
  | none =>
    cases hi with
    | none => simp only [Option.map_none, HT.sIx_none, List.drop_zero, Nat.sub_zero, List.take_length]
    | some b =>
      simp only [Option.map_none, Option.map_some, HT.sIx_none, List.drop_zero, Nat.sub_zero]
      rw [show HT.sIx ws.length ws.length (some (Int.ofNat b)) = min b ws.length from HT.sIx_nat _ _ _]
      exact tk b ws
  | some a =>
    have dr : ws.drop (min a ws.length) = ws.drop a := by
      by_cases h : a ≤ ws.length
      · rw [Nat.min_eq_left h]
      · rw [Nat.min_eq_right (by omega), List.drop_of_length_le (Nat.le_refl _), List.drop_of_length_le (by omega)]
    cases hi with
    | none =>
      simp only [Option.map_none, Option.map_some, HT.sIx_none]
      rw [show HT.sIx ws.length 0 (some (Int.ofNat a)) = min a ws.length from HT.sIx_nat _ _ _, dr]
      exact List.take_of_length_le (by rw [List.length_drop]; omega)
    | some b =>
      simp only [Option.map_some]
      rw [show HT.sIx ws.length 0 (some (Int.ofNat a)) = min a ws.length from HT.sIx_nat _ _ _, show HT.sIx ws.length ws.length (some (Int.ofNat b)) = min b ws.length from HT.sIx_nat _ _ _, dr]
      by_cases h : b ≤ ws.length
      · rw [Nat.min_eq_left h]
        by_cases h' : a ≤ ws.length
        · rw [Nat.min_eq_left h']
        · rw [List.drop_of_length_le (by omega), List.take_nil, List.take_nil]
      · rw [Nat.min_eq_right (by omega)]
        rw [List.take_of_length_le (by rw [List.length_drop]; omega), List.take_of_length_le (by rw [List.length_drop]; omega)]
theorem All.cut {ws : List V} (a : All e F ws xs) (lo hi : Option Nat) : All e F (cutT ws lo hi) (cutT xs lo hi) := by
  cases lo <;> cases hi
  · exact a
  · exact a.take _
  · exact a.drop _
  · exact (a.drop _).take _
/-- the two ends of a slice -/
def Part (tl : TO) (σ : L2.St) (H : Hp) (o : Option Nat) : Prop := ∀ Q : Option Int → Hp → Prop, Q (o.map Int.ofNat) H → tl σ H Q
theorem po_n : Part tNoPart σ H none := fun _ k => k
theorem po_s (h : Val te σ H (.int (n : Int))) : Part (tPart te) σ H (some n) := fun _ k => h _ ⟨_, rfl, k⟩
theorem n_cutX {lo hi : Option Nat} (r : (pL e).r F v xs) (hv : Val te σ H v) (h1 : Part tl σ H lo) (h2 : Part th σ H hi) (w : Wf F0 H0 F H) (k : ∀ p H', H p = none → Wf F H F H' → XL e H0 F H' p (cutT xs lo hi) → Q (.ref p) H') : tSl (rSlL K) te tl th σ H Q := by
  obtain ⟨p, vs, rfl, hp, a⟩ := r
  exact hv _ (h1 _ (h2 _ ⟨p, vs, rfl, SqL.of (w.f _ _ hp), fun l hl => by
    rw [cutV_T]
    exact k l _ hl (Wf.newX w.f hl) ⟨_, Xc.mk' w hl, a.cut lo hi⟩⟩))
theorem n_cutS {lo hi : Option Nat} {zs : List Int} (r : (pScr K).r F v zs) (hv : Val te σ H v) (h1 : Part tl σ H lo) (h2 : Part th σ H hi) (w : Wf F0 H0 F H) (k : ∀ p H', H p = none → Wf F H F H' → XL pI H0 F H' p (cutT zs lo hi) → Q (.ref p) H') : tSl (rSlL K) te tl th σ H Q := by
  obtain ⟨p, rfl, s⟩ := (pScr K).mono w.f r
  exact hv _ (h1 _ (h2 _ ⟨p, _, rfl, s, fun l hl => by
    rw [cutV_T]
    exact k l _ hl (Wf.newX w.f hl) ⟨_, Xc.mk' w hl, (All.ofInts (xs := zs)).cut lo hi⟩⟩))
end
end Wk

namespace Wk
open PySem L2
section
variable {α β γ : Type} {e : Rep α} {f : Rep β} {g : Rep γ} {K : PySem.W.Frag} {σ : L2.St} {F0 H0 F F' H H' : Hp} {te ta tb to : TE} {tt : TT} {tA : TA} {Q : VK} {v w u : V} {xs ys : List α} {p q : Addr} {i : Nat} {D : Ends} {pr : Prop} {ti : TIp} {x y : V}
theorem if_t {A B : Prop} (h : A) : if true = true then A else B := by rw [if_pos rfl]; exact h
theorem if_f {A B : Prop} (h : B) : if false = true then A else B := by rw [if_neg (by simp)]; exact h
theorem b_ifn {p : Prop} [Decidable p] {A B : Prop} (h1 : p → B) (h2 : ¬ p → A) : if (!decide p) = true then A else B := by
  by_cases hp : p
  · rw [decide_eq_true hp, if_neg (by simp)]; exact h1 hp
  · rw [decide_eq_false hp, if_pos (by rfl)]; exact h2 hp
theorem bb_ifn {b : Bool} {A B : Prop} (h1 : b = true → B) (h2 : ¬ b = true → A) : if (!b) = true then A else B := by
  cases b with
  | true => rw [if_neg (by simp)]; exact h1 rfl
  | false => rw [if_pos (by rfl)]; exact h2 (by simp)
theorem nx_v {P : V → Prop} (h : v = w) (q : P v) : P w := h ▸ q
theorem nx_set {P : L2.St → Hp → Prop} {σ : L2.St} {i : Nat} {H : Hp} (h : v = w) (q : P (σ.set i (some v)) H) : P (σ.set i (some w)) H := h ▸ q
theorem g_name {R : L2.St → Hp → Prop} (h : R (σ.set i (some v)) H) : gName i v σ H R := h
theorem set_same {σ : L2.St} {i : Nat} {v : V} (h : σ[i]? = some (some v)) : σ.set i (some v) = σ := by
  refine List.ext_getElem? fun j => ?_
  rw [List.getElem?_set]
  split
  · rename_i h1
    subst h1
    split
    · exact h.symm
    · rename_i h2
      rw [List.getElem?_eq_none (by omega)] at h; cases h
  · rfl
theorem a_ifAsg [Decidable pr] (h : Ans tt σ H (decide pr)) (h1 : pr → Val te σ H v) (h2 : ¬ pr → σ[i]? = some (some v)) (q : D.nx (σ.set i (some v)) H) : tIfS tt (tAsg te (gName i)) tNext D σ H := h _ (b_if (fun hp => h1 hp _ q) fun hp => by
  have e := set_same (h2 hp)
  rw [e] at q
  exact q)
theorem a_ifAug [Decidable pr] (h : Ans tt σ H (decide pr)) (hx : σ[i]? = some (some x)) (hy : Val te σ H y) (h1 : pr → Val (tOp ti (tC x) (tC y)) [] H v) (h2 : ¬ pr → σ[i]? = some (some v)) (q : D.nx (σ.set i (some v)) H) : tIfS tt (tAug i te ti) tNext D σ H := h _ (b_if (fun hp => ⟨x, hx, hy _ (h1 hp _ q)⟩) fun hp => by
  have e := set_same (h2 hp)
  rw [e] at q
  exact q)
theorem n_tup3 {x : α} {y : β} {z : γ} (a : e.r F v x) (b : f.r F w y) (c : g.r F u z) (h : Wf F0 H0 F H) (k : ∀ p F' H', Wf F H F' H' → (pT3 e f g).r F' (.ref p) (x, y, z) → Q (.ref p) H') :
    kTup Q [v, w, u] H := ⟨Nat.le_of_lt (small_len (n := 3) (by decide)), fun p hp => k p _ _ (Wf.new h.f hp) ⟨p, v, w, u, rfl, upd_same, e.mono (Ex.new (h.f.non hp)) a, f.mono (Ex.new (h.f.non hp)) b, g.mono (Ex.new (h.f.non hp)) c⟩⟩
theorem n_tupL {vs : List V} (a : All e F vs xs) (hl : xs.length < 1000000) (w : Wf F0 H0 F H) (k : ∀ p F' H', Wf F H F' H' → (pTL e).r F' (.ref p) xs → Q (.ref p) H') :
    kTup Q vs H := ⟨by rw [a.len]; exact Nat.le_of_lt (small_len hl), fun p hp => k p _ _ (Wf.new w.f hp) ⟨p, vs, rfl, upd_same, a.mono (Ex.new (w.f.non hp))⟩⟩
theorem m_list {r : V → List V → Hp → VK → Prop} (z : XL e H0 F H p xs) (ho : Val to σ H (.ref p)) (k : tA σ H fun vs H2 => r (.ref p) vs H2 Q) : tBM K "list" r to tA σ H Q := ho _ ⟨let ⟨_, a, _⟩ := z.x; Or.inl ⟨rfl, _, Or.inl (Or.inl a.h)⟩, k⟩
theorem a_clr (x : XL e H0 F H p xs) (w : Wf F0 H0 F H) (k : ∀ H', Wf F0 H0 F H' → XL e H0 F H' p [] → (∀ q o, H q = some o → q ≠ p → H' q = some o) → Q .non H') : rClear (.ref p) [] H Q := by
  obtain ⟨vs, a, b⟩ := x.x
  exact ⟨p, vs, rfl, rfl, a.h, k _ (w.set a) ⟨_, a.set, trivial⟩ fun q o h hq => by rw [upd_ne hq]; exact h⟩
theorem a_ext (x : XL e H0 F H p xs) (r : (pL e).r F v ys) (w : Wf F0 H0 F H) (hl : xs.length + ys.length < 1000000) (k : ∀ H', Wf F0 H0 F H' → XL e H0 F H' p (xs ++ ys) → (∀ q o, H q = some o → q ≠ p → H' q = some o) → Q .non H') : rExtend (.ref p) [v] H Q := by
  obtain ⟨vs, a, b⟩ := x.x
  obtain ⟨q, us, rfl, hq, c⟩ := r
  exact ⟨p, q, vs, us, rfl, rfl, a.h, w.f _ _ hq, by rw [b.len, c.len]; exact Nat.le_of_lt (small_len hl), k _ (w.set a) ⟨_, a.set, b.app c⟩ fun q o h hq => by rw [upd_ne hq]; exact h⟩
end
end Wk

namespace Wk
open PySem L2
/-! ### dicts: their pairs in order, keys numbers or texts -/
class KeyT (κ : Type) where
  k : κ → Key
  inj : ∀ {a b : κ}, k a = k b → a = b
instance : KeyT Nat := ⟨fun n => .inl (n : Int), fun h => by have := Sum.inl.inj h; omega⟩
instance : KeyT Int := ⟨fun n => .inl n, fun h => Sum.inl.inj h⟩
instance : KeyT Str := ⟨fun n => .inr n, fun h => Sum.inr.inj h⟩
section
variable {κ α : Type} [DecidableEq κ] [KeyT κ]
def valT (m : List (κ × α)) (j : κ) : Option α := (m.find? fun q => decide (q.1 = j)).map (·.2)
def hasT (m : List (κ × α)) (j : κ) : Bool := (valT m j).isSome
def putT (m : List (κ × α)) (j : κ) (x : α) : List (κ × α) := if hasT m j = true then m.map (fun q => if q.1 = j then (q.1, x) else q) else m ++ [(j, x)]
def DA (e : Rep α) (F : Hp) : List (Key × V) → List (κ × α) → Prop
  | [], [] => True
  | p :: r, q :: s => p.1 = KeyT.k q.1 ∧ e.r F p.2 q.2 ∧ DA e F r s
  | _, _ => False
variable {e : Rep α} {F F' : Hp}
omit [DecidableEq κ] in
theorem DA.mono (h : Ex F F') : ∀ {kvs : List (Key × V)} {m : List (κ × α)}, DA e F kvs m → DA e F' kvs m
  | [], [], _ => trivial
  | _ :: _, _ :: _, ⟨a, b, c⟩ => ⟨a, e.mono h b, DA.mono h c⟩
  | [], _ :: _, q => q.elim
  | _ :: _, [], q => q.elim
theorem DA.len : ∀ {kvs : List (Key × V)} {m : List (κ × α)}, DA e F kvs m → kvs.length = m.length
  | [], [], _ => rfl
  | _ :: _, _ :: _, ⟨_, _, c⟩ => by rw [List.length_cons, List.length_cons, DA.len c]
  | [], _ :: _, q => q.elim
  | _ :: _, [], q => q.elim
theorem valT_cons {q : κ × α} {m : List (κ × α)} {j : κ} : valT (q :: m) j = if q.1 = j then some q.2 else valT m j := by
  unfold valT
  rw [List.find?_cons]
  by_cases h : q.1 = j
  · rw [if_pos h, decide_eq_true h]; rfl
  · rw [if_neg h, decide_eq_false h]
theorem DA.get : ∀ {kvs : List (Key × V)} {m : List (κ × α)} (j : κ), DA e F kvs m → (∀ x, valT m j = some x → ∃ v, valV kvs (KeyT.k j) = some v ∧ e.r F v x) ∧ (valT m j = none → valV kvs (KeyT.k j) = none)
  | [], [], _, _ => ⟨fun x h => (by cases h), fun _ => rfl⟩
  | p :: r, q :: s, j, ⟨a, b, c⟩ => by
    obtain ⟨ih1, ih2⟩ := DA.get j c
    rw [valT_cons]
    by_cases h : q.1 = j
    · rw [if_pos h]
      have e1 : p.1 = KeyT.k j := by rw [a, h]
      exact ⟨fun x hx => ⟨p.2, valV_pos e1, by cases hx; exact b⟩, fun z => by cases z⟩
    · rw [if_neg h]
      have e1 : ¬ p.1 = KeyT.k j := fun z => h (KeyT.inj (a.symm.trans z))
      rw [valV_neg e1]
      exact ⟨ih1, ih2⟩
  | [], _ :: _, _, q => q.elim
  | _ :: _, [], _, q => q.elim
theorem DA.has {kvs : List (Key × V)} {m : List (κ × α)} (j : κ) (d : DA e F kvs m) : (valV kvs (KeyT.k j)).isSome = hasT m j := by
  obtain ⟨h1, h2⟩ := d.get j
  unfold hasT
  cases q : valT m j with
  | none => rw [h2 q]; rfl
  | some x => obtain ⟨v, h, _⟩ := h1 x q; rw [h]; rfl
theorem DA.app : ∀ {kvs : List (Key × V)} {m : List (κ × α)} {kvs' : List (Key × V)} {m' : List (κ × α)}, DA e F kvs m → DA e F kvs' m' → DA e F (kvs ++ kvs') (m ++ m')
  | [], [], _, _, _, h => h
  | _ :: _, _ :: _, _, _, ⟨a, b, c⟩, h => ⟨a, b, DA.app c h⟩
  | [], _ :: _, _, _, q, _ => q.elim
  | _ :: _, [], _, _, q, _ => q.elim
theorem DA.upd {v : V} {x : α} {j : κ} (r : e.r F v x) : ∀ {kvs : List (Key × V)} {m : List (κ × α)}, DA e F kvs m → DA e F (kvs.map fun kv => if kv.1 = KeyT.k j then (kv.1, v) else kv) (m.map fun q => if q.1 = j then (q.1, x) else q)
  | [], [], _ => trivial
  | p :: _, q :: _, ⟨a, b, c⟩ => by
    rw [List.map_cons, List.map_cons]
    refine ⟨?_, ?_, DA.upd r c⟩
    · by_cases h : q.1 = j
      · rw [if_pos h, if_pos (by rw [a, h])]; exact a
      · rw [if_neg h, if_neg (fun z => h (KeyT.inj (a.symm.trans z)))]; exact a
    · by_cases h : q.1 = j
      · rw [if_pos h, if_pos (by rw [a, h])]; exact r
      · rw [if_neg h, if_neg (fun z => h (KeyT.inj (a.symm.trans z)))]; exact b
  | [], _ :: _, q => q.elim
  | _ :: _, [], q => q.elim
theorem DA.put {v : V} {x : α} {j : κ} {kvs : List (Key × V)} {m : List (κ × α)} (d : DA e F kvs m) (r : e.r F v x) : DA e F (putK kvs (KeyT.k j) v) (putT m j x) := by
  unfold putK putT
  rw [valV_any, d.has j]
  by_cases h : hasT m j = true
  · rw [if_pos h, if_pos h]; exact d.upd r
  · rw [if_neg h, if_neg h]; exact d.app ⟨rfl, r, trivial⟩
end
def pD {κ α : Type} [KeyT κ] (e : Rep α) : Rep (List (κ × α)) := ⟨fun F v m => ∃ p kvs, v = .ref p ∧ F p = some (.dK kvs) ∧ DA e F kvs m, fun h ⟨p, kvs, a, b, c⟩ => ⟨p, kvs, a, h _ _ b, c.mono h⟩⟩
structure XD {κ α : Type} [KeyT κ] (e : Rep α) (H0 F H : Hp) (p : Addr) (m : List (κ × α)) : Prop where
  x : ∃ kvs, Xc H0 F H p (.dK kvs) ∧ DA e F kvs m
section
variable {κ α : Type} [DecidableEq κ] [KeyT κ] {e : Rep α} {K : PySem.W.Frag} {σ : L2.St} {F0 H0 F F' H H' : Hp} {te td ty tx tv : TE} {Q : VK} {v w y z : V} {m : List (κ × α)} {p q : Addr} {j : κ} {x : α} {D : Ends}
theorem XD.step (x : XD e H0 F H p m) (w : Wf F H F' H') : XD e H0 F' H' p m := let ⟨vs, a, b⟩ := x.x; ⟨vs, a.step w, b.mono w.g⟩
theorem XD.ne (x : XD e H0 F H p m) (h : H q = none) : p ≠ q := let ⟨_, a, _⟩ := x.x; a.ne h
theorem XD.zero (x : XD e H0 F H p m) : H0 p = none := let ⟨_, a, _⟩ := x.x; a.z
theorem XD.base (x : XD e H F' H' p m) (w : Wf F0 H0 F H) : XD e H0 F' H' p m := let ⟨vs, a, b⟩ := x.x; ⟨vs, ⟨w.h.non a.z, a.n, a.h⟩, b⟩
theorem XD.kept (x : XD e H0 F H q m) (h : ∀ q o, H q = some o → q ≠ p → H' q = some o) (hq : q ≠ p) : XD e H0 F H' q m := let ⟨vs, a, b⟩ := x.x; ⟨vs, a.kept h hq, b⟩
theorem XD.frzO (x : XD e H0 F H q m) (h : Fz F F' p) (hq : q ≠ p) (g : Ex F F') : XD e H0 F' H q m := let ⟨vs, a, b⟩ := x.x; ⟨vs, ⟨a.z, h _ hq a.n, a.h⟩, b.mono g⟩
theorem XD.frzE (x : XD e H0 F H p m) (w : Wf F0 H0 F H) : ∃ F', Wf F0 H0 F' H ∧ Ex F F' ∧ (pD e).r F' (.ref p) m ∧ Fz F F' p := by
  obtain ⟨vs, a, b⟩ := x.x
  exact ⟨_, w.freeze a, Ex.new a.n, ⟨p, vs, rfl, upd_same, b.mono (Ex.new a.n)⟩, fun q h z => by rw [upd_ne h]; exact z⟩
theorem XD.lend (x : XD e H0 F H p m) (w : Wf F0 H0 F H) : ∃ F', Ex F' H ∧ Ex F F' ∧ (pD e).r F' (.ref p) m := let ⟨F', a, b, c, _⟩ := x.frzE w; ⟨F', a.f, b, c⟩
theorem XD.rd (x : XD e H0 F H p m) : ∃ kvs, H p = some (.dK kvs) ∧ DA e F kvs m := let ⟨vs, a, b⟩ := x.x; ⟨vs, a.h, b⟩
theorem D_rd (r : (pD e).r F v m) (f : Ex F H) : ∃ p kvs, v = .ref p ∧ H p = some (.dK kvs) ∧ DA e F kvs m := let ⟨p, vs, a, b, c⟩ := r; ⟨p, vs, a, f _ _ b, c⟩
/-- {} -/
theorem n_dict (w : Wf F0 H0 F H) (k : ∀ p H', H p = none → Wf F H F H' → XD e H0 F H' p ([] : List (κ × α)) → Q (.ref p) H') : tDNewK σ H Q := fun p hp => k p _ hp (Wf.newX w.f hp) ⟨[], Xc.mk' w hp, trivial⟩
/-! reading -/
theorem in_D (r : (pD e).r F v m) (f : Ex F H) (hy : Val ty σ H (kV (KeyT.k j))) (hd : Val td σ H v) : Val (tDIn ty td) σ H (.bl (hasT m j)) := by
  obtain ⟨p, kvs, rfl, hp, a⟩ := D_rd r f
  exact fun Q k => hy _ (hd _ ⟨p, _, rfl, DGet.k hp, by rw [a.has j]; exact k⟩)
theorem in_XD (r : XD e H0 F H p m) (hy : Val ty σ H (kV (KeyT.k j))) (hd : Val td σ H (.ref p)) : Val (tDIn ty td) σ H (.bl (hasT m j)) := by
  obtain ⟨kvs, hp, a⟩ := r.rd
  exact fun Q k => hy _ (hd _ ⟨p, _, rfl, DGet.k hp, by rw [a.has j]; exact k⟩)
theorem nin_D (r : (pD e).r F v m) (f : Ex F H) (hy : Val ty σ H (kV (KeyT.k j))) (hd : Val td σ H v) : Val (tDNotIn ty td) σ H (.bl (!hasT m j)) := by
  obtain ⟨p, kvs, rfl, hp, a⟩ := D_rd r f
  exact fun Q k => hy _ (hd _ ⟨p, _, rfl, DGet.k hp, by rw [a.has j]; exact k⟩)
theorem nin_XD (r : XD e H0 F H p m) (hy : Val ty σ H (kV (KeyT.k j))) (hd : Val td σ H (.ref p)) : Val (tDNotIn ty td) σ H (.bl (!hasT m j)) := by
  obtain ⟨kvs, hp, a⟩ := r.rd
  exact fun Q k => hy _ (hd _ ⟨p, _, rfl, DGet.k hp, by rw [a.has j]; exact k⟩)
theorem ix_D (r : (pD e).r F v m) (f : Ex F H) (hx : valT m j = some x) : ∃ w, e.r F w x ∧ ∀ ⦃σ td ty⦄, Val td σ H v → Val ty σ H (kV (KeyT.k j)) → Val (tDGet td ty) σ H w := by
  obtain ⟨p, kvs, rfl, hp, a⟩ := D_rd r f
  obtain ⟨w, h1, h2⟩ := (a.get j).1 x hx
  exact ⟨w, h2, fun _ _ _ hd hy Q k => hd _ (hy _ ⟨p, w, rfl, by rw [← h1]; exact DGet.k hp, k⟩)⟩
theorem ix_XD (r : XD e H0 F H p m) (hx : valT m j = some x) : ∃ w, e.r F w x ∧ ∀ ⦃σ td ty⦄, Val td σ H (.ref p) → Val ty σ H (kV (KeyT.k j)) → Val (tDGet td ty) σ H w := by
  obtain ⟨kvs, hp, a⟩ := r.rd
  obtain ⟨w, h1, h2⟩ := (a.get j).1 x hx
  exact ⟨w, h2, fun _ _ _ hd hy Q k => hd _ (hy _ ⟨p, w, rfl, by rw [← h1]; exact DGet.k hp, k⟩)⟩
/-- d.get(k, x) -/
theorem get_XD (r : XD e H0 F H p m) (hz : e.r F z x) : ∃ w, e.r F w ((valT m j).getD x) ∧ ∀ ⦃σ td ty tx⦄, Val td σ H (.ref p) → Val ty σ H (kV (KeyT.k j)) → Val tx σ H z → Val (tDGet2 td ty tx) σ H w := by
  obtain ⟨kvs, hp, a⟩ := r.rd
  obtain ⟨h1, h2⟩ := a.get j
  have isd : IsD H p := .inl ⟨kvs, .inl hp⟩
  cases q : valT m j with
  | none => exact ⟨z, hz, fun _ _ _ _ hd hy hx Q k => hd _ ⟨p, rfl, isd, hy _ (hx _ ⟨none, by rw [← h2 q]; exact DGet.k hp, k⟩)⟩⟩
  | some x' =>
    obtain ⟨w, h3, h4⟩ := h1 x' q
    exact ⟨w, h4, fun _ _ _ _ hd hy hx Q k => hd _ ⟨p, rfl, isd, hy _ (hx _ ⟨some w, by rw [← h3]; exact DGet.k hp, k⟩)⟩⟩
theorem get_D (r : (pD e).r F v m) (f : Ex F H) (hz : e.r F z x) : ∃ w, e.r F w ((valT m j).getD x) ∧ ∀ ⦃σ td ty tx⦄, Val td σ H v → Val ty σ H (kV (KeyT.k j)) → Val tx σ H z → Val (tDGet2 td ty tx) σ H w := by
  obtain ⟨p, kvs, rfl, hp, a⟩ := D_rd r f
  obtain ⟨h1, h2⟩ := a.get j
  have isd : IsD H p := .inl ⟨kvs, .inl hp⟩
  cases q : valT m j with
  | none => exact ⟨z, hz, fun _ _ _ _ hd hy hx Q k => hd _ ⟨p, rfl, isd, hy _ (hx _ ⟨none, by rw [← h2 q]; exact DGet.k hp, k⟩)⟩⟩
  | some x' =>
    obtain ⟨w, h3, h4⟩ := h1 x' q
    exact ⟨w, h4, fun _ _ _ _ hd hy hx Q k => hd _ ⟨p, rfl, isd, hy _ (hx _ ⟨some w, by rw [← h3]; exact DGet.k hp, k⟩)⟩⟩
/-- d[k] = v, v evaluated -/
theorem d_put (r : XD e H0 F H p m) (w : Wf F0 H0 F H) (hl : m.length < 1000000) (rv : e.r F v x) (hd : Val td σ H (.ref p)) (hy : Val ty σ H (kV (KeyT.k j))) (k : ∀ H', Wf F0 H0 F H' → XD e H0 F H' p (putT m j x) → (∀ q o, H q = some o → q ≠ p → H' q = some o) → D.nx σ H') :
    (fun v H1 => td σ H1 fun x H2 => ty σ H2 fun y H3 => ∃ a H4, x = .ref a ∧ DPut H3 a y v H4 ∧ D.nx σ H4) v H := by
  obtain ⟨kvs, a, b⟩ := r.x
  exact hd _ (hy _ ⟨p, _, rfl, DPut.k a.h (by rw [b.len]; exact small_len hl), k _ (w.set a) ⟨_, a.set, b.put rv⟩ fun q o h hq => by rw [upd_ne hq]; exact h⟩)
theorem e_dput (h : tv σ H fun v H1 => td σ H1 fun x H2 => ty σ H2 fun y H3 => ∃ a H4, x = .ref a ∧ DPut H3 a y v H4 ∧ D.nx σ H4) : sDPut td ty tv D σ H := h
end
/-! ### ways of a test or a truth that meet -/
section
variable {S : Type} {σ : L2.St} {H : Hp} {te ta tb : TE} {tt tu : TT} {Q : VK} {k : Bool → Prop}
theorem e_jnT {f : (Bool → Prop) → Prop} {Qt : Bool → Hp → Prop} (hW : jn f k) (Inv : Bool → Hp → Hp → Prop)
    (h1 : ∀ N : Bool → Hp → Prop, (∀ b F' H', Inv b F' H' → k b → N b H') → f k → tt σ H N) (h2 : ∀ b F' H', Inv b F' H' → k b → Qt b H') : tt σ H Qt :=
  h1 Qt (fun b F' H' q n => h2 b F' H' q n) hW
theorem e_jnV {f : (Bool → Prop) → Prop} (hW : jn f k) (Inv : Bool → Hp → Hp → Prop)
    (h1 : ∀ N : VK, (∀ b F' H', Inv b F' H' → k b → N (.bl b) H') → f k → te σ H N) (h2 : ∀ b F' H', Inv b F' H' → k b → Q (.bl b) H') : te σ H Q :=
  h1 Q (fun b F' H' q n => h2 b F' H' q n) hW
theorem e_tAnd {Qt : Bool → Hp → Prop} (h : tt σ H fun c H1 => if c = true then tu σ H1 Qt else Qt false H1) : tAnd tt tu σ H Qt := h
theorem e_tOr {Qt : Bool → Hp → Prop} (h : tt σ H fun c H1 => if c = true then Qt true H1 else tu σ H1 Qt) : tOr tt tu σ H Qt := h
theorem e_AndV (h : ta σ H fun x H1 => ∃ c, x = .bl c ∧ if c = true then tb σ H1 Q else Q (.bl false) H1) : tAndV ta tb σ H Q := h
theorem e_OrV (h : ta σ H fun x H1 => ∃ c, x = .bl c ∧ if c = true then Q (.bl true) H1 else tb σ H1 Q) : tOrV ta tb σ H Q := h
theorem e_NotV (h : ta σ H fun x H1 => ∃ c, x = .bl c ∧ Q (.bl (!c)) H1) : tNotV ta σ H Q := h
theorem bl_if {b : Bool} {A B : Prop} (h : if b = true then A else B) : ∃ c, V.bl b = .bl c ∧ if c = true then A else B := ⟨b, rfl, h⟩
theorem bl_v {b : Bool} {A : Bool → Prop} (h : A b) : ∃ c, V.bl b = .bl c ∧ A c := ⟨b, rfl, h⟩
end
end Wk

namespace Wk
theorem dec_nt {b : Bool} : (!b) = decide (¬ (b = true)) := by cases b <;> rfl
end Wk

namespace Wk.LR
open PySem PyProof.Rows L2
section
variable {prog : Program} {w : World} {A : Around} {E : Value → Shared → Prop} {s : Shared}
theorem extend_rev {R : Result → Shared → Prop} {it l : Addr} {items : Array Value} (hh : A.handled = none) (hit : s.heap.IsRevIter it l ((items.size : Int) - 1)) (hl : s.heap.IsList l items) (hne : l ≠ it) (hn : items.size ≤ sizeLine) (S : Addr) (res : Value) {c₀ : Nat} (hS : s.heap.get? S = some { cls := .type "list", data := .seq #[] c₀ })
    (hSl : S ≠ l)
    (hR : ∀ h' tk acc' c', (∀ b o, b ≠ S → b ≠ it → s.heap.get? b = some o → h'.get? b = some o) → h'.get? S = some { cls := .type "list", dict := none, data := .seq acc' c', slots := #[] } →
      ItemsOf (fun i v => items[items.size - 1 - i]? = some v) acc' items.size → R (.ok (.ret res)) { s with heap := h', toks := tk }) :
    wpAny (model prog w) A.in1 (Builtin.List.listExtendWith (.ref S) (.ref it) res)
      (fun fin s' => match fin with | .done f => R (.ok f) s' | .again c' => c'.quiet = true ∧ codeAny (model prog w) A c' R s') (fun e s' => R (.error e) s') s := by
  have hT : s.TypeIs (.ref it) "list_reverseiterator" := Heap.IsRevIter.typeIs hit
  have hSi : S ≠ it := fun e => by
    obtain ⟨o, ho, hc⟩ := hT
    rw [← e, hS] at ho; cases ho
    simp at hc
  have W := (Walks.listRev (prog := prog) (w := w) (A := A.in1) hh it l hne items).toS
  have hSf : S ∉ [it, l] := fun hm => by
    rcases List.mem_cons.mp hm with e | hm
    · exact hSi e
    · exact hSl (List.mem_singleton.mp hm)
  have h1 : Builtin.List.listSameRef (.ref S) (.ref it) = false := by simp [Builtin.List.listSameRef, hSi]
  unfold Builtin.List.listExtendWith
  refine wpAny_bind (wpAny_typeOf hT ?_)
  rw [if_neg (by rw [h1]; decide)]
  refine wpAny_bind (wpAny_pyIter_revIter hit ?_)
  refine wpAny_bind (wpAny_holding ?_)
  unfold Builtin.List.listLengthHint
  refine wpAny_bind (wpAny_specialOf hT RT.nolen_lri ?_)
  show wpAny _ A.in1 (specialOf (Value.ref it) (Str.ofString "__length_hint__") >>= _) _ _ _
  refine wpAny_bind (wpAny_specialOf hT RT.hint_lri ?_)
  generalize hid : ("list_reverseiterator.__length_hint__" : String) = id0
  wp_delta
  rw [show splitId id0 = some ("list_reverseiterator", "__length_hint__") from by subst hid; decide +kernel]
  subst hid
  refine wpAny_bind (wpAny_isInstance (b := true) hT (by rw [isSubtype_type]; kernel_rfl) ?_)
  refine wpAny_pure ?_
  rw [if_neg (by decide)]
  have e0 : ((items.size : Nat) : Int) - 1 - ((0 : Nat) : Int) = (items.size : Int) - 1 := by omega
  refine wpAny_pure ⟨plainId_quiet F.plain_extend_loop _, codeAny_extend_loopS W hn _ hSf _ items.size 0 _ _ _ rfl (Nat.zero_le _) ⟨Nat.zero_le _, by rw [e0]; exact hit, hl⟩ hS (ItemsOf.nil _) fun s' acc' c' hm hS' hacc => ?_⟩
  rw [Moved.eq_with hm]
  refine hR s'.heap s'.toks acc' c' (fun b o hb hb2 e => hm.heap b o (fun hmem => ?_) e) hS' hacc
  rcases List.mem_cons.mp hmem with e' | hmem
  · exact hb e'
  · exact hb2 (List.mem_singleton.mp hmem)
theorem call_list_rev {Q : Value → Shared → Prop} {it l : Addr} {items : Array Value} (hh : A.handled = none) (hit : s.heap.IsRevIter it l ((items.size : Int) - 1)) (hl : s.heap.IsList l items) (hne : l ≠ it) (hn : items.size ≤ sizeLine)
    (hQ : ∀ h' tk acc' c', (∀ b o, b ≠ it → s.heap.get? b = some o → h'.get? b = some o) →
      h'.get? s.heap.objs.size = some { cls := .type "list", dict := none, data := .seq acc' c', slots := #[] } → ItemsOf (fun i v => items[items.size - 1 - i]? = some v) acc' items.size → Q (.ref s.heap.objs.size) { s with heap := h', toks := tk }) :
    wpAny (model prog w) A (call (.type "list") [.ref it]) Q E s := by
  refine callType_codes (Q₁ := fun obj s₁ => obj = .ref s.heap.objs.size ∧ s₁ = { s with heap := s.heap.push { cls := .type "list", data := .seq #[] } }) F.called_list (F.typeCall_list_1 _) F.entry_list_init
    (code_list_new _ ⟨rfl, rfl⟩) fun obj s₁ h₁ => ?_
  obtain ⟨rfl, rfl⟩ := h₁
  have hS : (s.heap.push { cls := .type "list", data := .seq #[] }).get? s.heap.objs.size = some { cls := .type "list", data := .seq #[] } := Heap.get?_push_size _ rfl
  have hlt : l < s.heap.objs.size := let ⟨o, e, _⟩ := hl; Heap.lt_size e
  have hSl : s.heap.objs.size ≠ l := fun e => by rw [← e] at hlt; exact Nat.lt_irrefl _ hlt
  refine ⟨⟨_, hS, rfl⟩, F.args_list_init_2 _ _, ?_⟩
  show wpAny _ _ (do let old ← Builtin.List.listItems (.ref s.heap.objs.size); Builtin.List.listUpdate (.ref s.heap.objs.size) (fun _ => #[]); letGo old.toList.reverse; Builtin.List.listExtendWith (.ref s.heap.objs.size) (.ref it) .none) _ _ _
  refine wpAny_bind ?_
  unfold Builtin.List.listItems
  refine wpAny_bind (wpAny_seqItems hS rfl (wpAny_pure ?_))
  show wpAny _ _ (updateSeq s.heap.objs.size (fun _ => #[]) >>= fun _ => letGo (#[] : Array Value).toList.reverse >>= fun _ => Builtin.List.listExtendWith (.ref s.heap.objs.size) (.ref it) .none) _ _ _
  refine wpAny_bind (wpAny_updateSeq hS rfl ?_)
  obtain ⟨c₂, hS₂⟩ : ∃ c, ((s.heap.push { cls := .type "list", data := .seq #[] }).update s.heap.objs.size (Obj.mapSeq (fun _ => (#[] : Array Value)))).get? s.heap.objs.size = some { cls := .type "list", data := .seq #[] c } := ⟨_, Heap.get?_update_self (Obj.mapSeq (fun _ => (#[] : Array Value))) hS rfl⟩
  have oth : ∀ b o, b ≠ s.heap.objs.size → s.heap.get? b = some o → ((s.heap.push { cls := .type "list", data := .seq #[] }).update s.heap.objs.size (Obj.mapSeq (fun _ => (#[] : Array Value)))).get? b = some o :=
    fun b o hb e => (Heap.get?_update_other _ _ (Ne.symm hb)).trans (Heap.get?_push_of_some _ e)
  have oth2 : ∀ b o, s.heap.get? b = some o → ((s.heap.push { cls := .type "list", data := .seq #[] }).update s.heap.objs.size (Obj.mapSeq (fun _ => (#[] : Array Value)))).get? b = some o := fun b o e => oth b o (Nat.ne_of_lt (Heap.lt_size e)) e
  refine wpAny_bind (wpAny_letGo ?_)
  refine extend_rev (A := A.in1) (prog := prog) (w := w) (R := wants (fun r s₂ => r = Value.none ∧ Q (Value.ref s.heap.objs.size) s₂) E) (s := { s with heap := (s.heap.push { cls := .type "list", data := .seq #[] }).update s.heap.objs.size (Obj.mapSeq (fun _ => (#[] : Array Value))) }) (c₀ := c₂) hh (hit.at fun o e => oth2 _ _ e) (hl.at fun o e => oth2 _ _ e) hne hn _ .none hS₂ hSl fun h' tk acc' c' hk hS' hacc => ?_
  exact ⟨rfl, hQ h' tk acc' c' (fun b o hb e => hk b o (Nat.ne_of_lt (Heap.lt_size e)) hb (oth2 b o e)) hS' hacc⟩
end
end Wk.LR
namespace Wk
open PySem L2 PyProof.Rows
def rLstRev (K : PySem.W.Frag) (Q : VK) (v : V) (H1 : Hp) : Prop := ∃ (a : Addr) (xs : List V), v = .ref a ∧ SqL K H1 a xs ∧ ∀ q, H1 q = none → Q (.ref q) (upd H1 q (.lst xs.reverse))
def tLstRev (K : PySem.W.Frag) (te : TE) : TE := fun σ H Q => te σ H (rLstRev K Q)
theorem All.rev {α : Type} {e : Rep α} {F : Hp} : ∀ {vs : List V} {xs : List α}, All e F vs xs → All e F vs.reverse xs.reverse
  | [], [], _ => trivial
  | _ :: _, _ :: _, ⟨a, b⟩ => by rw [List.reverse_cons, List.reverse_cons]; exact (All.rev b).snoc a
  | [], _ :: _, q => q.elim
  | _ :: _, [], q => q.elim
theorem e_lrev {K : PySem.W.Frag} {te : TE} {σ : L2.St} {H : Hp} {Q : VK} (h : te σ H (rLstRev K Q)) : tLstRev K te σ H Q := h
theorem n_lrevX {α : Type} {e : Rep α} {K : PySem.W.Frag} {F0 H0 F H : Hp} {v : V} {xs : List α} {Q : VK} (r : (pL e).r F v xs) (w : Wf F0 H0 F H) (k : ∀ p H', H p = none → Wf F H F H' → XL e H0 F H' p xs.reverse → Q (.ref p) H') : rLstRev K Q v H := by
  obtain ⟨p, vs, rfl, hp, a⟩ := r
  exact ⟨p, vs, rfl, SqL.of (w.f _ _ hp), fun l hl => k l _ hl (Wf.newX w.f hl) ⟨vs.reverse, Xc.mk' w hl, a.rev⟩⟩
theorem n_lrevXX {α : Type} {e : Rep α} {K : PySem.W.Frag} {F0 H0 F H : Hp} {q : Addr} {xs : List α} {Q : VK} (r : XL e H0 F H q xs) (w : Wf F0 H0 F H) (k : ∀ p H', H p = none → Wf F H F H' → XL e H0 F H' p xs.reverse → Q (.ref p) H') : rLstRev K Q (.ref q) H := by
  obtain ⟨vs, hp, a⟩ := r.rd
  exact ⟨q, vs, rfl, SqL.of hp, fun l hl => k l _ hl (Wf.newX w.f hl) ⟨vs.reverse, Xc.mk' w hl, a.rev⟩⟩
section
variable {X : Cx}
theorem pe_lstRev {e : Expr} {te : TE} {p p2 pos pos2 : Pos} (hc : X.calm = true) (hg : Gl X "list") (hm : X.mg "list" = none) (hg2 : Gl X "reversed") (hm2 : X.mg "reversed" = none) (he : PE X e te)
    (hs : starEach [e] X.env = (false, eval e X.env) :: starEach [] X.env := by rfl)
    (hs2 : starEach [.Call (.Name "reversed" p2) [e] [] pos2] X.env = (false, eval (.Call (.Name "reversed" p2) [e] [] pos2) X.env) :: starEach [] X.env := by rfl) :
    PE X (.Call (.Name "list" p) [.Call (.Name "reversed" p2) [e] [] pos2] [] pos) (tLstRev X.K te) := by
  refine ⟨fun pins s σ H Q I h => ?_⟩
  refine Call_ (ld_blt I hg hm PyProof.Rows.boot_list (PyProof.Rows.callWith_type1 (args_cons (Call_ (ld_blt I hg2 hm2 PyProof.Rows.boot_reversed (PyProof.Rows.callWith_type1 (args_cons (thn (he.run pins s σ H _ I h) fun u s1 ⟨v, H1, I1, r1, q1⟩ => args_nil ?_) hs) hs rfl))) hs2) hs2 rfl))
  obtain ⟨a, xs, ev, hq, q⟩ := q1
  subst ev
  obtain rfl : u = Value.ref a := r1
  obtain ⟨its, rv, p', hz⟩ := I1.list hq
  refine call_reversed_list p'.isList (args_nil ?_)
  have k0 : ∀ b o, s1.heap.get? b = some o → (s1.heap.push (revObj a ((its.toArray.size : Int) - 1))).get? b = some o := fun b o e => Heap.get?_push_of_some _ e
  have hl := p'.isList
  obtain ⟨ol, hol, _⟩ := id hl
  have hne : a ≠ s1.heap.objs.size := Nat.ne_of_lt (Heap.lt_size hol)
  have hn : its.toArray.size ≤ sizeLine := by rw [List.size_toArray, ← rv.length]; exact hz
  refine LR.call_list_rev (s := { s1 with heap := s1.heap.push (revObj a ((its.toArray.size : Int) - 1)) }) (I1.ok.hd hc) ⟨_, Heap.get?_push_size _ rfl, rfl, rfl⟩ (hl.push _) hne hn fun h' tk acc c' hk hS hi => ?_
  have hsz : (s1.heap.push (revObj a ((its.toArray.size : Int) - 1))).objs.size = s1.heap.objs.size + 1 := Heap.size_push _ _
  rw [hsz] at hS
  exact ⟨.ref (s1.heap.objs.size + 1), upd H1 (s1.heap.objs.size + 1) (.lst xs.reverse), I1.laid (t' := tk) (fun b u e => hk b u (Nat.ne_of_lt (Heap.lt_size e)) (k0 b u e)) (Nat.le_succ _) (show ObjOk X.prog X.w _ _ _ (.lst xs.reverse) from
    ⟨by rw [List.length_reverse]; exact hz, acc.toList, c', RT.vals_rev rv hi, by rw [Array.toArray_toList]; exact hS⟩), congrArg Value.ref hsz, q _ (I1.hok.fresh (Nat.le_succ _))⟩
end
end Wk
/-! Pl: plain lemmas that no law owns. -/
namespace Wk
section
variable {α β S : Type}
theorem forW_ind {xs : List α} {s : S} {body : α → S → (S → Prop) → (S → Prop) → Prop} {k : S → Prop} (P : List α → S → Prop) (h0 : P [] s)
    (hb : ∀ pre x post s nx bk, xs = pre ++ x :: post → P pre s → (∀ s', P (pre ++ [x]) s' → nx s') → (∀ s', k s' → bk s') → body x s nx bk)
    (hk : ∀ s, P xs s → k s) : forW xs s body k := by
  suffices h : ∀ (post pre : List α) (s : S), xs = pre ++ post → P pre s → forW post s body k from h xs [] s rfl h0
  intro post
  induction post with
  | nil => intro pre s e p; rw [List.append_nil] at e; subst e; exact hk s p
  | cons x post ih => intro pre s e p; exact hb pre x post s _ _ e p (fun s' p' => ih (pre ++ [x]) s' (by rw [e, List.append_assoc]; rfl) p') (fun _ h => h)
theorem forW_foldI {xs : List α} {s : S} {body : α → S → (S → Prop) → (S → Prop) → Prop} {k : S → Prop} (f : S → α → S) (I : S → Prop) (h0 : I s)
    (hb : ∀ x ∈ xs, ∀ s nx bk, I s → (I (f s x) → nx (f s x)) → body x s nx bk) (hi : ∀ x ∈ xs, ∀ s, I s → I (f s x))
    (hk : I (xs.foldl f s) → k (xs.foldl f s)) : forW xs s body k := by
  induction xs generalizing s with
  | nil => exact hk h0
  | cons x xs ih =>
    refine hb x (List.mem_cons_self ..) s _ _ h0 fun h1 => ih (s := f s x) h1 (fun y hy => hb y (List.mem_cons_of_mem _ hy)) (fun y hy => hi y (List.mem_cons_of_mem _ hy)) hk
theorem forW_fold {xs : List α} {s : S} {body : α → S → (S → Prop) → (S → Prop) → Prop} {k : S → Prop} (f : S → α → S)
    (hb : ∀ x ∈ xs, ∀ s nx bk, nx (f s x) → body x s nx bk) (hk : k (xs.foldl f s)) : forW xs s body k :=
  forW_foldI f (fun _ => True) trivial (fun x hx s nx bk _ h => hb x hx s nx bk (h trivial)) (fun _ _ _ _ => trivial) fun _ => hk
theorem forW_unit {xs : List α} {body : α → Unit → (Unit → Prop) → (Unit → Prop) → Prop} {k : Unit → Prop}
    (hb : ∀ x ∈ xs, ∀ nx bk, nx () → body x () nx bk) (hk : k ()) : forW xs () body k :=
  forW_fold (fun s _ => s) (fun x hx _ nx bk h => hb x hx nx bk h) hk
theorem compG_fm {xs : List α} {acc : List β} {b : α → (Option β → Prop) → Prop} {k : List β → Prop} (f : α → Option β) (hb : ∀ x ∈ xs, ∀ kk, kk (f x) → b x kk) (hk : k (acc ++ xs.filterMap f)) : compG xs acc b k := by
  induction xs generalizing acc with
  | nil => simpa [compG] using hk
  | cons x xs ih =>
    refine hb x (List.mem_cons_self ..) _ (ih (fun y hy => hb y (List.mem_cons_of_mem _ hy)) ?_)
    rw [List.filterMap_cons] at hk
    cases h : f x with
    | none => rw [h] at hk; simpa using hk
    | some y => rw [h] at hk; simpa using hk
theorem compW_fm {xs : List α} {b : α → (Option β → Prop) → Prop} {k : List β → Prop} (f : α → Option β) (hb : ∀ x ∈ xs, ∀ kk, kk (f x) → b x kk) (hk : k (xs.filterMap f)) : compW xs b k :=
  compG_fm f hb (by simpa using hk)
theorem compW_map {xs : List α} {b : α → (Option β → Prop) → Prop} {k : List β → Prop} (f : α → β) (hb : ∀ x ∈ xs, ∀ kk, kk (some (f x)) → b x kk) (hk : k (xs.map f)) : compW xs b k :=
  compW_fm (fun x => some (f x)) hb (by rw [show (fun x => some (f x)) = some ∘ f from rfl, List.filterMap_eq_map]; exact hk)
theorem compW_filter {xs : List α} {b : α → (Option α → Prop) → Prop} {k : List α → Prop} (p : α → Bool) (hb : ∀ x ∈ xs, ∀ kk, (p x = true → kk (some x)) → (p x = false → kk none) → b x kk) (hk : k (xs.filter p)) : compW xs b k :=
  compW_fm (fun x => if p x = true then some x else none) (fun x hx kk h => hb x hx kk (fun e => by simpa [e] using h) (fun e => by simpa [e] using h)) (by
    have : (fun x => if p x = true then some x else none) = Option.guard (fun x => p x) := by funext x; by_cases h : p x = true <;> simp [Option.guard, h]
    rw [this, List.filterMap_eq_filter]; exact hk)
theorem whileW_of {test : S → (Bool → Prop) → Prop} {body : S → (S → Prop) → (S → Prop) → Prop} {s : S} {k : S → Prop} (I : S → Prop) (μ : S → Nat) (h0 : I s)
    (hb : ∀ s, I s → test s fun b => if b = true then body s (fun s' => (μ s' < μ s ∧ I s')) k else k s) (hm : ∀ {s p q}, (∀ x, p x → q x) → (test s fun b => if b = true then body s p k else k s) → (test s fun b => if b = true then body s q k else k s)) : whileW test body s k :=
  ⟨fun m s => m = μ s ∧ I s, ⟨_, rfl, h0⟩, fun m s ⟨e, h⟩ => hm (fun s' ⟨a, b⟩ => ⟨μ s', by rw [e]; exact a, rfl, b⟩) (hb s h)⟩
theorem forW_append {xs ys : List α} {s : S} {body : α → S → (S → Prop) → (S → Prop) → Prop} {k : S → Prop} : forW (xs ++ ys) s body k = forW xs s (fun x s nx bk => body x s nx k) (fun s => forW ys s body k) := by
  induction xs generalizing s with
  | nil => rfl
  | cons x xs ih =>
    show body x s (fun s' => forW (xs ++ ys) s' body k) k = body x s (fun s' => forW xs s' _ _) k
    simp only [ih]
/-- a comprehension whose turns are told by what they may give -/
def CR (P : α → Option β → Prop) : List α → List β → Prop
  | [], ys => ys = []
  | x :: xs, ys => ∃ o ys', P x o ∧ ys = o.toList ++ ys' ∧ CR P xs ys'
theorem compG_rel {xs : List α} {acc : List β} {b : α → (Option β → Prop) → Prop} {k : List β → Prop} (P : α → Option β → Prop) (hb : ∀ x ∈ xs, ∀ kk, (∀ o, P x o → kk o) → b x kk) (hk : ∀ ys, CR P xs ys → k (acc ++ ys)) : compG xs acc b k := by
  induction xs generalizing acc with
  | nil => have := hk [] rfl; rwa [List.append_nil] at this
  | cons x xs ih =>
    refine hb x (List.mem_cons_self ..) _ fun o ho => ih (fun y hy => hb y (List.mem_cons_of_mem _ hy)) fun ys hy => ?_
    rw [List.append_assoc]
    exact hk _ ⟨o, ys, ho, rfl, hy⟩
theorem compW_rel {xs : List α} {b : α → (Option β → Prop) → Prop} {k : List β → Prop} (P : α → Option β → Prop) (hb : ∀ x ∈ xs, ∀ kk, (∀ o, P x o → kk o) → b x kk) (hk : ∀ ys, CR P xs ys → k ys) : compW xs b k := compG_rel P hb fun ys h => by rw [List.nil_append]; exact hk ys h
theorem jnI {f : (S → Prop) → Prop} {k : S → Prop} (h : f k) : jn f k := h
/-- a while loop without a measure that must be told -/
theorem whileW_ind {test : S → (Bool → Prop) → Prop} {body : S → (S → Prop) → (S → Prop) → Prop} {s : S} {k : S → Prop} (I : S → Prop) (μ : S → Nat) (h0 : I s)
    (hb : ∀ s (nx : S → Prop), I s → (∀ s', I s' → μ s' < μ s → nx s') → test s fun b => if b = true then body s nx k else k s) : whileW test body s k :=
  ⟨fun m s => m = μ s ∧ I s, ⟨_, rfl, h0⟩, fun m s ⟨e, h⟩ => hb s _ h fun s' h' hl => ⟨μ s', by rw [e]; exact hl, rfl, h'⟩⟩
end
end Wk
/-! Bt: masks as sets of bits. -/
namespace Wk
theorem halfBit (n i : Nat) : (n / 2).testBit i = n.testBit (i + 1) := by rw [Nat.testBit_add_one]
theorem half_xor (a b : Nat) : (a ^^^ b) / 2 = a / 2 ^^^ b / 2 := Nat.eq_of_testBit_eq fun i => by rw [Nat.testBit_xor, halfBit, halfBit, halfBit, Nat.testBit_xor]
theorem half_and (a b : Nat) : (a &&& b) / 2 = a / 2 &&& b / 2 := Nat.eq_of_testBit_eq fun i => by rw [Nat.testBit_and, halfBit, halfBit, halfBit, Nat.testBit_and]
/-- is the number of bits odd? -/
def par (n : Nat) : Bool := if h : n = 0 then false else xor (n.testBit 0) (par (n / 2))
termination_by n
decreasing_by omega
theorem par_zero : par 0 = false := by rw [par]; simp
theorem par_step (n : Nat) : par n = xor (n.testBit 0) (par (n / 2)) := by
  by_cases h : n = 0
  · subst h; simp [par_zero]
  · rw [par, dif_neg h]
theorem par_xor : ∀ a b : Nat, par (a ^^^ b) = xor (par a) (par b) := by
  intro a
  induction a using Nat.strongRecOn with
  | ind a ih =>
    intro b
    by_cases h : a = 0
    · subst h; simp [par_zero]
    · rw [par_step (a ^^^ b), par_step a, par_step b, half_xor, ih (a / 2) (by omega), Nat.testBit_xor]
      cases a.testBit 0 <;> cases b.testBit 0 <;> cases par (a / 2) <;> cases par (b / 2) <;> rfl
theorem par_two_pow (k : Nat) : par (2 ^ k) = true := by
  induction k with
  | zero => rw [par_step]; simp [par_zero]
  | succ k ih =>
    rw [par_step, Nat.testBit_two_pow]
    have e : 2 ^ (k + 1) / 2 = 2 ^ k := by rw [Nat.pow_succ]; omega
    rw [e, ih]; simp
/-- the places of the bits below k -/
def bl (k n : Nat) : List Nat := (List.range k).filter n.testBit
theorem mem_bl {k n j : Nat} : j ∈ bl k n ↔ j < k ∧ n.testBit j = true := by simp [bl, List.mem_filter, List.mem_range]
theorem bl_len (k n : Nat) : (bl k n).length ≤ k := by
  have := List.length_filter_le n.testBit (List.range k)
  rw [List.length_range] at this; exact this
theorem bl_nodup (k n : Nat) : (bl k n).Nodup := (List.nodup_range).filter _
theorem bl_snoc (k n : Nat) : bl (k + 1) n = bl k n ++ if n.testBit k = true then [k] else [] := by
  unfold bl
  rw [List.range_succ, List.filter_append]
  by_cases h : n.testBit k = true
  · rw [if_pos h, List.filter_cons_of_pos h]; rfl
  · rw [if_neg h, List.filter_cons_of_neg h]; rfl
theorem bl_more {p k n : Nat} (h : p ≤ k) (z : n >>> p = 0) : bl k n = bl p n := by
  induction k with
  | zero => have : p = 0 := by omega
            subst this; rfl
  | succ k ih =>
    by_cases e : p = k + 1
    · subst e; rfl
    · rw [bl_snoc, ih (by omega)]
      have : n.testBit k = false := by
        have a : (n >>> p).testBit (k - p) = n.testBit (p + (k - p)) := Nat.testBit_shiftRight ..
        rw [z, Nat.zero_testBit] at a
        rw [show p + (k - p) = k by omega] at a
        exact a.symm
      simp [this]
theorem par_bl {k : Nat} : ∀ {n : Nat}, n < 2 ^ k → par n = decide ((bl k n).length % 2 = 1) := by
  induction k with
  | zero => intro n h; have : n = 0 := by simpa using h
            subst this; simp [par_zero, bl]
  | succ k ih =>
    intro n h
    have e : (bl (k + 1) n).length = (n.testBit 0).toNat + (bl k (n / 2)).length := by
      unfold bl
      rw [List.range_succ_eq_map, List.filter_cons]
      have m : (List.map Nat.succ (List.range k)).filter n.testBit = ((List.range k).filter (n / 2).testBit).map Nat.succ := by
        rw [List.filter_map]
        congr 1
        refine List.filter_congr fun x _ => ?_
        show n.testBit (x + 1) = (n / 2).testBit x
        rw [halfBit]
      rw [m]
      cases n.testBit 0 <;> simp [List.length_map] <;> omega
    rw [par_step, ih (n := n / 2) (by rw [Nat.pow_succ] at h; omega), e]
    cases n.testBit 0
    · simp
    · simp only [Bool.toNat_true]
      by_cases q : (bl k (n / 2)).length % 2 = 1
      · simp [q]; omega
      · simp [q]; omega
/-- the mask of places, each as often as it stands there -/
def mofI (m : Nat) (ps : List Nat) : Nat := ps.foldl (fun m p => m ^^^ 2 ^ p) m
def mof (ps : List Nat) : Nat := mofI 0 ps
theorem mofI_bit (ps : List Nat) (m j : Nat) : (mofI m ps).testBit j = xor (m.testBit j) (decide (ps.count j % 2 = 1)) := by
  induction ps generalizing m with
  | nil => simp [mofI]
  | cons p ps ih =>
    show (mofI (m ^^^ 2 ^ p) ps).testBit j = _
    rw [ih, Nat.testBit_xor, Nat.testBit_two_pow, List.count_cons]
    by_cases h : p = j
    · subst h
      by_cases q : ps.count p % 2 = 1
      · simp [q]; cases m.testBit p <;> simp <;> omega
      · simp [q]; cases m.testBit p <;> simp <;> omega
    · simp [h]
theorem mof_bit (ps : List Nat) (j : Nat) : (mof ps).testBit j = decide (ps.count j % 2 = 1) := by
  unfold mof; rw [mofI_bit, Nat.zero_testBit, Bool.false_xor]
theorem mofI_xor (ps : List Nat) (m : Nat) : mofI m ps = m ^^^ mof ps := Nat.eq_of_testBit_eq fun j => by rw [mofI_bit, Nat.testBit_xor, mof_bit]
theorem mof_append (ps qs : List Nat) : mof (ps ++ qs) = mof ps ^^^ mof qs := Nat.eq_of_testBit_eq fun j => by
  rw [Nat.testBit_xor, mof_bit, mof_bit, mof_bit, List.count_append]
  by_cases a : ps.count j % 2 = 1 <;> by_cases b : qs.count j % 2 = 1 <;> simp [a, b] <;> omega
theorem mof_reverse (ps : List Nat) : mof ps.reverse = mof ps := Nat.eq_of_testBit_eq fun j => by rw [mof_bit, mof_bit, List.count_reverse]
theorem testBit_big {n k j : Nat} (h : n < 2 ^ k) (hj : k ≤ j) : n.testBit j = false := Nat.testBit_lt_two_pow (Nat.lt_of_lt_of_le h (Nat.pow_le_pow_right (by decide) hj))
theorem count_bl {k n j : Nat} : (bl k n).count j = if j < k ∧ n.testBit j = true then 1 else 0 := by
  by_cases h : j < k ∧ n.testBit j = true
  · rw [if_pos h]
    exact Nat.le_antisymm (List.nodup_iff_count.mp (bl_nodup k n) j) (List.count_pos_iff.mpr (mem_bl.mpr h))
  · rw [if_neg h]
    exact List.count_eq_zero.mpr fun z => h (mem_bl.mp z)
theorem mof_bl {k n : Nat} (h : n < 2 ^ k) : mof (bl k n) = n := Nat.eq_of_testBit_eq fun j => by
  rw [mof_bit, count_bl]
  by_cases a : j < k
  · by_cases b : n.testBit j = true <;> simp [a, b]
  · have : n.testBit j = false := testBit_big h (Nat.le_of_not_lt a)
    simp [a, this]
/-! dicts -/
section
variable {κ α : Type} [DecidableEq κ] [KeyT κ]
theorem valT_nil (j : κ) : valT ([] : List (κ × α)) j = none := rfl
theorem valT_app {m : List (κ × α)} {j i : κ} {x : α} (h : hasT m j = false) : valT (m ++ [(j, x)]) i = if j = i then some x else valT m i := by
  induction m with
  | nil => show valT [(j, x)] i = _; rw [valT_cons]
  | cons q m ih =>
    have h' : q.1 ≠ j ∧ hasT m j = false := by
      unfold hasT at h ⊢
      rw [valT_cons] at h
      by_cases e : q.1 = j
      · rw [if_pos e] at h; cases h
      · rw [if_neg e] at h; exact ⟨e, h⟩
    rw [List.cons_append, valT_cons, valT_cons, ih h'.2]
    by_cases e : q.1 = i
    · rw [if_pos e, if_pos e, if_neg]
      intro z; exact h'.1 (e.trans z.symm)
    · rw [if_neg e, if_neg e]
theorem valT_map {m : List (κ × α)} {j i : κ} {x : α} : valT (m.map fun q => if q.1 = j then (q.1, x) else q) i = if j = i ∧ hasT m j = true then some x else valT m i := by
  induction m with
  | nil => show none = _; rw [if_neg (fun z => by cases z.2)]; rfl
  | cons q m ih =>
    rw [List.map_cons, valT_cons, valT_cons, ih]
    have hh : hasT (q :: m) j = if q.1 = j then true else hasT m j := by
      unfold hasT; rw [valT_cons]
      by_cases e : q.1 = j
      · rw [if_pos e, if_pos e]; rfl
      · rw [if_neg e, if_neg e]
    rw [hh]
    by_cases e : q.1 = j
    · rw [if_pos e, if_pos e]
      by_cases f : q.1 = i
      · rw [if_pos f, if_pos ⟨e.symm.trans f, rfl⟩]
      · rw [if_neg f, if_neg (fun z => f (e.trans z.1)), if_neg (fun z => f (e.trans z.1)), if_neg f]
    · rw [if_neg e, if_neg e]
      by_cases f : q.1 = i
      · rw [if_pos f, if_neg (fun z => e (f.trans z.1.symm))]
        rw [if_pos f]
      · rw [if_neg f, if_neg f]
theorem valT_putT {m : List (κ × α)} {j i : κ} {x : α} : valT (putT m j x) i = if j = i then some x else valT m i := by
  unfold putT
  cases h : hasT m j with
  | true =>
    rw [if_pos rfl, valT_map]
    by_cases e : j = i
    · rw [if_pos ⟨e, h⟩, if_pos e]
    · rw [if_neg (fun z => e z.1), if_neg e]
  | false => rw [if_neg (by simp), valT_app h]
theorem hasT_putT {m : List (κ × α)} {j i : κ} {x : α} : hasT (putT m j x) i = (decide (j = i) || hasT m i) := by
  unfold hasT; rw [valT_putT]
  by_cases e : j = i
  · rw [if_pos e, decide_eq_true e]; rfl
  · rw [if_neg e, decide_eq_false e]; rfl
theorem hasT_iff {m : List (κ × α)} {j : κ} : hasT m j = true ↔ j ∈ m.map (·.1) := by
  induction m with
  | nil => exact ⟨fun h => (by cases h), fun h => (by cases h)⟩
  | cons q m ih =>
    unfold hasT at ih ⊢
    rw [valT_cons, List.map_cons, List.mem_cons]
    by_cases e : q.1 = j
    · rw [if_pos e]; exact ⟨fun _ => .inl e.symm, fun _ => rfl⟩
    · rw [if_neg e, ih]; exact ⟨.inr, fun h => h.resolve_left fun z => e z.symm⟩
theorem putT_len {m : List (κ × α)} {j : κ} {x : α} : (putT m j x).length ≤ m.length + 1 := by
  unfold putT
  by_cases h : hasT m j = true
  · rw [if_pos h, List.length_map]; omega
  · rw [if_neg h, List.length_append]; exact Nat.le_refl _
end
theorem NDiv_pow {k : Nat} (h : k < 9000) : NDiv (2 ^ k) := ⟨Nat.two_pow_pos k, by rw [Nat.log2_two_pow]; exact h⟩
end Wk
/-! Gf: sums of masks. -/
namespace Wk
/-! the size of a number -/
theorem bits_zero : bits 0 = 0 := rfl
theorem bits_le {n k : Nat} : bits n ≤ k ↔ n < 2 ^ k := by
  unfold bits
  by_cases h : n = 0
  · subst h; simp [Nat.two_pow_pos]
  · rw [if_neg h]
    exact ⟨fun z => (Nat.log2_lt h).mp (Nat.lt_of_succ_le z), fun z => Nat.succ_le_of_lt ((Nat.log2_lt h).mpr z)⟩
theorem lt_bits (n : Nat) : n < 2 ^ bits n := bits_le.mp (Nat.le_refl _)
theorem bits_pos {n : Nat} (h : n ≠ 0) : 0 < bits n := by unfold bits; rw [if_neg h]; exact Nat.succ_pos _
theorem bits_eq_zero {n : Nat} : bits n = 0 ↔ n = 0 := ⟨fun h => by
  by_cases e : n = 0
  · exact e
  · have := bits_pos e; omega, fun h => by subst h; rfl⟩
theorem bits_ge {n k : Nat} (h : n.testBit k = true) : k < bits n := by
  refine Nat.lt_of_not_le fun z => ?_
  rw [testBit_big (bits_le.mp z) (Nat.le_refl _)] at h; cases h
theorem bits_bit {n : Nat} (h : n ≠ 0) : n.testBit (bits n - 1) = true := by
  have hp := bits_pos h
  have h1 : n < 2 ^ (bits n - 1 + 1) := by rw [Nat.sub_add_cancel hp]; exact lt_bits n
  have h2 : 2 ^ (bits n - 1) ≤ n := by
    refine Nat.le_of_not_lt fun z => ?_
    have := bits_le.mpr z
    omega
  rw [Nat.testBit_eq_decide_div_mod_eq, decide_eq_true_iff]
  have h3 : n / 2 ^ (bits n - 1) = 1 := by
    refine Nat.le_antisymm ?_ ?_
    · refine Nat.le_of_lt_succ (Nat.div_lt_of_lt_mul ?_)
      rw [Nat.pow_succ] at h1; exact h1
    · exact (Nat.one_le_div_iff (Nat.two_pow_pos _)).mpr h2
  rw [h3]
theorem bits_of_bit {n k : Nat} (h : n.testBit k = true) (h2 : n < 2 ^ (k + 1)) : bits n = k + 1 := Nat.le_antisymm (bits_le.mpr h2) (bits_ge h)
theorem bits_xor_ne {u l : Nat} (h : bits u < bits l) : bits (u ^^^ l) = bits l := by
  have hl : l ≠ 0 := fun z => by subst z; rw [bits_zero] at h; omega
  have hp := bits_pos hl
  have e : bits l - 1 + 1 = bits l := Nat.sub_add_cancel hp
  rw [← e]
  refine bits_of_bit ?_ ?_
  · rw [Nat.testBit_xor, bits_bit hl, testBit_big (lt_bits u) (by omega)]; rfl
  · rw [e]; exact Nat.xor_lt_two_pow (Nat.lt_trans (lt_bits u) (Nat.pow_lt_pow_right (by decide) h)) (lt_bits l)
theorem bits_xor_max {u l : Nat} (h : bits u ≠ bits l) : bits (u ^^^ l) = max (bits u) (bits l) := by
  rcases Nat.lt_or_gt_of_ne h with q | q
  · rw [bits_xor_ne q, Nat.max_eq_right (Nat.le_of_lt q)]
  · rw [Nat.xor_comm, bits_xor_ne q, Nat.max_eq_left (Nat.le_of_lt q)]
theorem bits_xor_eq {u l : Nat} (h : bits u = bits l) (hu : u ≠ 0) : bits (u ^^^ l) < bits u := by
  have hl : l ≠ 0 := fun z => by subst z; rw [bits_zero] at h; exact hu (bits_eq_zero.mp h)
  have hp := bits_pos hu
  refine Nat.lt_of_le_of_ne (bits_le.mpr (Nat.xor_lt_two_pow (lt_bits u) (by rw [h]; exact lt_bits l))) fun z => ?_
  have n0 : u ^^^ l ≠ 0 := fun q => by rw [q, bits_zero] at z; omega
  have := bits_bit n0
  rw [z, Nat.testBit_xor, bits_bit hu, h, bits_bit hl] at this
  cases this
theorem xor0 {a b : Nat} (h : a ^^^ b = 0) : a = b := by
  have e : (a ^^^ b) ^^^ b = b := by rw [h, Nat.zero_xor]
  rw [Nat.xor_assoc, Nat.xor_self, Nat.xor_zero] at e; exact e
/-! sums of rows -/
def comb : List Nat → Nat → Nat
  | [], _ => 0
  | r :: rs, S => (if S.testBit 0 = true then r else 0) ^^^ comb rs (S / 2)
theorem comb_xor : ∀ (rs : List Nat) (S T : Nat), comb rs (S ^^^ T) = comb rs S ^^^ comb rs T
  | [], _, _ => by simp [comb]
  | r :: rs, S, T => by
    show (if (S ^^^ T).testBit 0 = true then r else 0) ^^^ comb rs ((S ^^^ T) / 2) = _
    rw [half_xor, comb_xor rs, Nat.testBit_xor]
    show _ = ((if S.testBit 0 = true then r else 0) ^^^ comb rs (S / 2)) ^^^ ((if T.testBit 0 = true then r else 0) ^^^ comb rs (T / 2))
    generalize comb rs (S / 2) = a
    generalize comb rs (T / 2) = b
    cases S.testBit 0 <;> cases T.testBit 0
    · simp
    · simp only [Bool.false_xor, if_true, Bool.false_eq_true, if_false, Nat.zero_xor]
      rw [← Nat.xor_assoc, ← Nat.xor_assoc, Nat.xor_comm a r]
    · simp only [Bool.xor_false, if_true, Bool.false_eq_true, if_false, Nat.zero_xor]
      rw [Nat.xor_assoc]
    · simp only [Bool.xor_self, if_true, Bool.false_eq_true, if_false, Nat.zero_xor]
      rw [Nat.xor_comm r b, ← Nat.xor_assoc, Nat.xor_assoc (r ^^^ a), ]
      rw [Nat.xor_comm r a, Nat.xor_assoc a r, ← Nat.xor_assoc r b r, Nat.xor_comm r b, Nat.xor_assoc b r r, Nat.xor_self, Nat.xor_zero]
theorem comb_zero : ∀ rs : List Nat, comb rs 0 = 0
  | [] => rfl
  | r :: rs => by show (if Nat.testBit 0 0 = true then r else 0) ^^^ comb rs (0 / 2) = 0; rw [Nat.zero_div, comb_zero rs]; simp
theorem comb_ext : ∀ {rs : List Nat} {S T : Nat}, (∀ j, j < rs.length → S.testBit j = T.testBit j) → comb rs S = comb rs T
  | [], _, _, _ => rfl
  | r :: rs, S, T, h => by
    show (if S.testBit 0 = true then r else 0) ^^^ comb rs (S / 2) = (if T.testBit 0 = true then r else 0) ^^^ comb rs (T / 2)
    rw [h 0 (by simp), comb_ext (rs := rs) (S := S / 2) (T := T / 2) fun j hj => by
      rw [halfBit, halfBit]; exact h (j + 1) (by simpa using hj)]
theorem comb_snoc : ∀ (rs : List Nat) (r S : Nat), comb (rs ++ [r]) S = comb rs S ^^^ if S.testBit rs.length = true then r else 0
  | [], r, S => by simp [comb]
  | q :: rs, r, S => by
    show (if S.testBit 0 = true then q else 0) ^^^ comb (rs ++ [r]) (S / 2) = _
    rw [comb_snoc rs, halfBit]
    show _ = ((if S.testBit 0 = true then q else 0) ^^^ comb rs (S / 2)) ^^^ _
    rw [← Nat.xor_assoc]; rfl
theorem comb_lt : ∀ {rs : List Nat} {S k : Nat}, (∀ r ∈ rs, r < 2 ^ k) → comb rs S < 2 ^ k
  | [], _, _, _ => Nat.two_pow_pos _
  | r :: rs, S, k, h => by
    refine Nat.xor_lt_two_pow ?_ (comb_lt fun x hx => h x (List.mem_cons_of_mem _ hx))
    by_cases q : S.testBit 0 = true
    · rw [if_pos q]; exact h r (List.mem_cons_self ..)
    · rw [if_neg q]; exact Nat.two_pow_pos _
theorem comb_pow_len (rs : List Nat) : comb rs (2 ^ rs.length) = 0 := by
  rw [← comb_zero rs]
  refine comb_ext fun j hj => ?_
  rw [Nat.testBit_two_pow, Nat.zero_testBit, decide_eq_false (by omega)]
theorem comb_map (f : Nat → Nat) (h0 : f 0 = 0) (hf : ∀ a b, f (a ^^^ b) = f a ^^^ f b) : ∀ (vs : List Nat) (S : Nat), comb (vs.map f) S = f (comb vs S)
  | [], _ => h0.symm
  | v :: vs, S => by
    show (if S.testBit 0 = true then f v else 0) ^^^ comb (vs.map f) (S / 2) = f ((if S.testBit 0 = true then v else 0) ^^^ comb vs (S / 2))
    rw [comb_map f h0 hf vs, hf]
    by_cases q : S.testBit 0 = true
    · rw [if_pos q, if_pos q]
    · rw [if_neg q, if_neg q, h0]
/-- the sums of the rows -/
def Span (vs : List Nat) (v : Nat) : Prop := ∃ S, comb vs S = v
theorem Span.zero (vs : List Nat) : Span vs 0 := ⟨0, comb_zero vs⟩
theorem Span.xor {vs : List Nat} {u v : Nat} : Span vs u → Span vs v → Span vs (u ^^^ v) := fun ⟨S, a⟩ ⟨T, b⟩ => ⟨S ^^^ T, by rw [comb_xor, a, b]⟩
theorem Span.low {vs : List Nat} {v : Nat} : Span vs v → ∃ S, S < 2 ^ vs.length ∧ comb vs S = v := fun ⟨S, a⟩ => ⟨S % 2 ^ vs.length, Nat.mod_lt _ (Nat.two_pow_pos _), by
  rw [← a]
  refine comb_ext fun j hj => ?_
  rw [Nat.testBit_mod_two_pow, decide_eq_true hj, Bool.true_and]⟩
theorem Span.snoc {vs : List Nat} {r v : Nat} : Span (vs ++ [r]) v ↔ Span vs v ∨ Span vs (v ^^^ r) := by
  constructor
  · rintro ⟨S, h⟩
    rw [comb_snoc] at h
    by_cases q : S.testBit vs.length = true
    · rw [if_pos q] at h
      exact .inr ⟨S, by rw [← h, Nat.xor_assoc, Nat.xor_self, Nat.xor_zero]⟩
    · rw [if_neg q, Nat.xor_zero] at h
      exact .inl ⟨S, h⟩
  · rintro (h | h)
    · obtain ⟨S, hl, e⟩ := h.low
      exact ⟨S, by rw [comb_snoc, testBit_big hl (Nat.le_refl _), e]; simp⟩
    · obtain ⟨S, hl, e⟩ := h.low
      refine ⟨S ^^^ 2 ^ vs.length, ?_⟩
      rw [comb_snoc, comb_xor, comb_pow_len, e, Nat.testBit_xor, testBit_big hl (Nat.le_refl _), Nat.testBit_two_pow, decide_eq_true rfl]
      simp [Nat.xor_assoc]
theorem Span.nil {v : Nat} : Span [] v ↔ v = 0 := ⟨fun ⟨_, h⟩ => h.symm, fun h => by subst h; exact Span.zero _⟩
theorem Span.inj {vs : List Nat} {k : Nat} (f : Nat → Nat) (h0 : f 0 = 0) (hf : ∀ a b, f (a ^^^ b) = f a ^^^ f b) (hi : ∀ a, a < 2 ^ k → f a = 0 → a = 0) (hv : ∀ v ∈ vs, v < 2 ^ k) {v : Nat} (hk : v < 2 ^ k) : Span (vs.map f) (f v) ↔ Span vs v := by
  constructor
  · rintro ⟨S, h⟩
    rw [comb_map f h0 hf] at h
    refine ⟨S, ?_⟩
    have : comb vs S ^^^ v = 0 := hi _ (Nat.xor_lt_two_pow (comb_lt hv) hk) (by rw [hf, h, Nat.xor_self])
    exact xor0 this
  · rintro ⟨S, h⟩
    exact ⟨S, by rw [comb_map f h0 hf, h]⟩
/-- masks with unlike highest bits, rising -/
def Incr (ws : List Nat) : Prop := ws.Pairwise (fun a b => bits a < bits b) ∧ ∀ w ∈ ws, w ≠ 0
theorem Incr.snoc {ws : List Nat} {w : Nat} (h : Incr ws) (hb : ∀ x ∈ ws, bits x < bits w) (h0 : w ≠ 0) : Incr (ws ++ [w]) := ⟨List.pairwise_append.mpr ⟨h.1, List.pairwise_singleton _ _, fun a ha b hb' => by rw [List.mem_singleton.mp hb']; exact hb a ha⟩, fun x hx => by
  rcases List.mem_append.mp hx with q | q
  · exact h.2 x q
  · rw [List.mem_singleton.mp q]; exact h0⟩
theorem comb_snoc_bits {ws : List Nat} {w S : Nat} (hb : ∀ x ∈ ws, bits x < bits w) : bits (comb ws S) < bits w ∨ w = 0 := by
  by_cases h : w = 0
  · exact .inr h
  · left
    have hp := bits_pos h
    refine Nat.lt_of_le_of_lt (bits_le.mpr (comb_lt (k := bits w - 1) fun x hx => ?_)) (by omega)
    have := hb x hx
    exact bits_le.mp (by omega)
theorem Incr.inj : ∀ {ws : List Nat} {S : Nat}, Incr ws → S < 2 ^ ws.length → comb ws S = 0 → S = 0 := by
  intro ws
  induction hn : ws.length generalizing ws with
  | zero => intro S _ hS _; simpa using hS
  | succ n ih =>
    intro S hI hS h
    obtain ⟨us, w, rfl⟩ : ∃ us w, ws = us ++ [w] := ⟨ws.dropLast, ws.getLast (by intro z; subst z; cases hn), (List.dropLast_concat_getLast _).symm⟩
    have hl : us.length = n := by rw [List.length_append] at hn; simpa using hn
    obtain ⟨hp, h0⟩ := hI
    rw [List.pairwise_append] at hp
    have hw : w ≠ 0 := h0 w (List.mem_append_right _ (List.mem_singleton_self _))
    have hb : ∀ x ∈ us, bits x < bits w := fun x hx => hp.2.2 x hx w (List.mem_singleton_self _)
    rw [comb_snoc, hl] at h
    by_cases q : S.testBit n = true
    · rw [if_pos q] at h
      have e := xor0 h
      rcases comb_snoc_bits (S := S) hb with z | z
      · rw [e] at z; exact absurd z (Nat.lt_irrefl _)
      · exact absurd z hw
    · rw [if_neg q, Nat.xor_zero] at h
      have hS' : S < 2 ^ n := by
        refine Nat.lt_pow_two_of_testBit _ fun j hj => ?_
        by_cases e : j = n
        · subst e; simpa using q
        · exact testBit_big hS (by omega)
      exact ih (ws := us) hl ⟨hp.1, fun x hx => h0 x (List.mem_append_left _ hx)⟩ hS' h
/-- the places of rows that are no sums of rows ahead -/
noncomputable def fndP (rs : List Nat) : List Nat := open Classical in (List.range rs.length).filter fun j => decide (¬ Span (rs.take j) (rs.getD j 0))
theorem fndP_nil : fndP [] = [] := rfl
theorem fndP_snoc (rs : List Nat) (r : Nat) : fndP (rs ++ [r]) = fndP rs ++ open Classical in if Span rs r then [] else [rs.length] := by
  classical
  unfold fndP
  rw [List.length_append, List.length_singleton, List.range_succ, List.filter_append]
  congr 1
  · refine List.filter_congr fun j hj => ?_
    have hj' := List.mem_range.mp hj
    rw [List.take_append_of_le_length (Nat.le_of_lt hj'), List.getD_eq_getElem?_getD, List.getD_eq_getElem?_getD, List.getElem?_append_left hj']
  · have e1 : (rs ++ [r]).take rs.length = rs := by rw [List.take_append_of_le_length (Nat.le_refl _), List.take_length]
    have e2 : (rs ++ [r]).getD rs.length 0 = r := by rw [List.getD_eq_getElem?_getD, List.getElem?_append_right (Nat.le_refl _), Nat.sub_self]; rfl
    by_cases q : Span rs r
    · rw [if_pos q, List.filter_cons_of_neg (by rw [e1, e2]; simpa using q)]; rfl
    · rw [if_neg q, List.filter_cons_of_pos (by rw [e1, e2]; simpa using q)]; rfl
theorem fndP_len (rs : List Nat) : (fndP rs).length ≤ rs.length := by
  unfold fndP
  have := List.length_filter_le (fun j => open Classical in decide (¬ Span (rs.take j) (rs.getD j 0))) (List.range rs.length)
  rw [List.length_range] at this; exact this
theorem fndP_congr {rs qs : List Nat} (hl : rs.length = qs.length) (h : ∀ j, j < rs.length → (Span (rs.take j) (rs.getD j 0) ↔ Span (qs.take j) (qs.getD j 0))) : fndP rs = fndP qs := by
  classical
  unfold fndP
  rw [← hl]
  refine List.filter_congr fun j hj => ?_
  rw [decide_eq_decide, h j (List.mem_range.mp hj)]
theorem fndP_map {rs : List Nat} {k : Nat} (f : Nat → Nat) (h0 : f 0 = 0) (hf : ∀ a b, f (a ^^^ b) = f a ^^^ f b) (hi : ∀ a, a < 2 ^ k → f a = 0 → a = 0) (hv : ∀ v ∈ rs, v < 2 ^ k) : fndP (rs.map f) = fndP rs := by
  refine fndP_congr (List.length_map _) fun j hj => ?_
  rw [List.length_map] at hj
  rw [← List.map_take]
  have e : (rs.map f).getD j 0 = f (rs.getD j 0) := by
    rw [List.getD_eq_getElem?_getD, List.getD_eq_getElem?_getD, List.getElem?_map, List.getElem?_eq_getElem hj]; rfl
  rw [e]
  have hm : rs.getD j 0 ∈ rs := by rw [List.getD_eq_getElem?_getD, List.getElem?_eq_getElem hj]; exact List.getElem_mem hj
  exact Span.inj f h0 hf hi (fun v hv' => hv v (List.mem_of_mem_take hv')) (hv _ hm)
/-- numbers below k, none twice: at most k of them -/
theorem nodup_len : ∀ {k : Nat} {l : List Nat}, l.Nodup → (∀ x ∈ l, x < k) → l.length ≤ k
  | 0, l, _, h => by cases l with
    | nil => exact Nat.le_refl _
    | cons x l => exact absurd (h x (List.mem_cons_self ..)) (Nat.not_lt_zero _)
  | k + 1, l, hn, h => by
    have h1 : (l.erase k).length ≤ k := nodup_len (hn.erase k) fun x hx => by
      have hm := List.mem_of_mem_erase hx
      have := h x hm
      have hk : x ≠ k := fun z => by subst z; exact (List.Nodup.not_mem_erase hn) hx
      omega
    have h2 : l.length ≤ (l.erase k).length + 1 := by
      by_cases q : k ∈ l
      · rw [List.length_erase_of_mem q]; omega
      · rw [List.erase_of_not_mem q]; omega
    omega
end Wk
/-! Po: polynomials over two elements, as masks. -/
namespace Wk
def pm (a b : Nat) : Nat := if h : b = 0 then 0 else (if b.testBit 0 = true then a else 0) ^^^ pm (2 * a) (b / 2)
termination_by b
decreasing_by omega
theorem pm_zero (a : Nat) : pm a 0 = 0 := by rw [pm]; simp
theorem pm_step (a b : Nat) : pm a b = (if b.testBit 0 = true then a else 0) ^^^ pm (2 * a) (b / 2) := by
  by_cases h : b = 0
  · subst h; simp [pm_zero]
  · rw [pm, dif_neg h]
theorem two_xor (a b : Nat) : 2 * (a ^^^ b) = 2 * a ^^^ 2 * b := Nat.eq_of_testBit_eq fun i => by
  rw [Nat.testBit_xor]
  cases i with
  | zero => simp [Nat.testBit_zero]
  | succ i => rw [Nat.testBit_add_one, Nat.testBit_add_one, Nat.testBit_add_one]; simp [Nat.testBit_xor]
theorem ifx {c : Bool} {a b : Nat} : (if c = true then a ^^^ b else 0) = (if c = true then a else 0) ^^^ (if c = true then b else 0) := by cases c <;> simp
theorem xor_swap (a b c d : Nat) : (a ^^^ b) ^^^ (c ^^^ d) = (a ^^^ c) ^^^ (b ^^^ d) := by
  rw [Nat.xor_assoc, ← Nat.xor_assoc b c d, Nat.xor_comm b c, Nat.xor_assoc c b d, ← Nat.xor_assoc]
theorem pm_xor_r (b : Nat) : ∀ a c : Nat, pm a (b ^^^ c) = pm a b ^^^ pm a c := by
  induction b using Nat.strongRecOn with
  | ind b ih =>
    intro a c
    by_cases h : b = 0
    · subst h; rw [Nat.zero_xor, pm_zero, Nat.zero_xor]
    · rw [pm_step a (b ^^^ c), pm_step a b, pm_step a c, half_xor, ih (b / 2) (by omega), Nat.testBit_xor, xor_swap]
      congr 1
      cases b.testBit 0 <;> cases c.testBit 0 <;> simp
theorem pm_xor_l (c : Nat) : ∀ a b : Nat, pm (a ^^^ b) c = pm a c ^^^ pm b c := by
  induction c using Nat.strongRecOn with
  | ind c ih =>
    intro a b
    by_cases h : c = 0
    · subst h; simp [pm_zero]
    · rw [pm_step (a ^^^ b), pm_step a c, pm_step b c, two_xor, ih (c / 2) (by omega), ifx, xor_swap]
theorem pm_dbl (b : Nat) : ∀ a, pm (2 * a) b = 2 * pm a b := by
  induction b using Nat.strongRecOn with
  | ind b ih =>
    intro a
    by_cases h : b = 0
    · subst h; simp [pm_zero]
    · rw [pm_step (2 * a), pm_step a, ih (b / 2) (by omega), two_xor]
      congr 1
      cases b.testBit 0 <;> simp
theorem pm_half (a b : Nat) : pm a b = (if b.testBit 0 = true then a else 0) ^^^ 2 * pm a (b / 2) := by rw [pm_step, pm_dbl]
theorem pm_zero_l (b : Nat) : pm 0 b = 0 := by
  induction b using Nat.strongRecOn with
  | ind b ih =>
    by_cases h : b = 0
    · subst h; exact pm_zero 0
    · rw [pm_half, ih (b / 2) (by omega)]; simp
theorem pm_one_l (b : Nat) : pm 1 b = b := by
  induction b using Nat.strongRecOn with
  | ind b ih =>
    by_cases h : b = 0
    · subst h; exact pm_zero 1
    · rw [pm_half, ih (b / 2) (by omega), Nat.testBit_zero]
      rcases Nat.mod_two_eq_zero_or_one b with e | e
      · rw [if_neg (by simp [e]), Nat.zero_xor]; omega
      · rw [if_pos (by simp [e])]
        have : 1 ^^^ 2 * (b / 2) = 2 * (b / 2) + 1 := Nat.eq_of_testBit_eq fun i => by
          rw [Nat.testBit_xor]
          cases i with
          | zero => simp [Nat.testBit_zero]
          | succ i =>
            rw [Nat.testBit_add_one, Nat.testBit_add_one, Nat.testBit_add_one]
            have a : (2 * (b / 2) + 1) / 2 = 2 * (b / 2) / 2 := by omega
            rw [a]; simp
        rw [this]; omega
theorem dbl_half (b : Nat) : b = (if b.testBit 0 = true then 1 else 0) ^^^ 2 * (b / 2) := by
  have := pm_half 1 b
  rw [pm_one_l, pm_one_l] at this; exact this
theorem pm_comm (b : Nat) : ∀ a, pm a b = pm b a := by
  induction b using Nat.strongRecOn with
  | ind b ih =>
    intro a
    by_cases h : b = 0
    · subst h; rw [pm_zero, pm_zero_l]
    · rw [pm_half a b, ih (b / 2) (by omega)]
      conv => rhs; rw [dbl_half b]
      rw [pm_xor_l, pm_dbl]
      congr 1
      cases b.testBit 0 <;> simp [pm_one_l, pm_zero_l]
theorem pm_assoc (c : Nat) : ∀ a b, pm (pm a b) c = pm a (pm b c) := by
  induction c using Nat.strongRecOn with
  | ind c ih =>
    intro a b
    by_cases h : c = 0
    · subst h; simp [pm_zero]
    · rw [pm_half (pm a b) c, pm_half b c, pm_xor_r, ih (c / 2) (by omega)]
      congr 1
      · cases c.testBit 0 <;> simp [pm_zero]
      · rw [pm_comm (2 * pm b (c / 2)), pm_dbl, pm_comm a]
theorem pm_pow (a k : Nat) : pm a (2 ^ k) = a <<< k := by
  induction k with
  | zero => rw [Nat.pow_zero, pm_comm, pm_one_l, Nat.shiftLeft_zero]
  | succ k ih =>
    rw [pm_half, Nat.testBit_two_pow, decide_eq_false (by omega), Nat.pow_succ, Nat.mul_div_cancel _ (by decide), ih]
    simp [Nat.shiftLeft_eq, Nat.pow_succ, Nat.mul_comm, Nat.mul_left_comm]
theorem bits_shl {a : Nat} (h : a ≠ 0) (k : Nat) : bits (a <<< k) = bits a + k := by
  have hp := bits_pos h
  have e : bits a + k = (bits a - 1 + k) + 1 := by omega
  rw [e]
  refine bits_of_bit ?_ ?_
  · rw [Nat.testBit_shiftLeft, decide_eq_true (by omega), Bool.true_and, show bits a - 1 + k - k = bits a - 1 by omega]
    exact bits_bit h
  · rw [Nat.shiftLeft_eq, show bits a - 1 + k + 1 = bits a + k by omega, Nat.pow_add]
    exact Nat.mul_lt_mul_of_pos_right (lt_bits a) (Nat.two_pow_pos k)
theorem bits_pm (b : Nat) : ∀ a, a ≠ 0 → b ≠ 0 → bits (pm a b) + 1 = bits a + bits b := by
  induction b using Nat.strongRecOn with
  | ind b ih =>
    intro a ha hb
    have hp := bits_pos hb
    have hpa := bits_pos ha
    generalize hk : bits b - 1 = k
    have tb : b.testBit k = true := by rw [← hk]; exact bits_bit hb
    have e : b = (b ^^^ 2 ^ k) ^^^ 2 ^ k := by rw [Nat.xor_assoc, Nat.xor_self, Nat.xor_zero]
    have bp : bits (2 ^ k) = k + 1 := bits_of_bit (by rw [Nat.testBit_two_pow]; simp) (Nat.pow_lt_pow_right (by decide) (Nat.lt_succ_self _))
    have lt : bits (b ^^^ 2 ^ k) < bits b := bits_xor_eq (by rw [bp]; omega) hb
    have ltn : b ^^^ 2 ^ k < b := by
      have h1 : b ^^^ 2 ^ k < 2 ^ k := bits_le.mp (by omega)
      have h2 : 2 ^ k ≤ b := by
        refine Nat.le_of_not_lt fun z => ?_
        have := bits_le.mpr z
        omega
      omega
    have e1 : pm a b = pm a (b ^^^ 2 ^ k) ^^^ a <<< k := by
      conv => lhs; rw [e]
      rw [pm_xor_r, pm_pow]
    have s := bits_shl ha k
    have l2 : bits (pm a (b ^^^ 2 ^ k)) < bits (a <<< k) := by
      by_cases z : b ^^^ 2 ^ k = 0
      · rw [z, pm_zero, bits_zero, s]; omega
      · have := ih _ ltn a ha z
        rw [s]; omega
    rw [e1, bits_xor_ne l2, s]; omega
theorem pm_ne {a b : Nat} (ha : a ≠ 0) (hb : b ≠ 0) : pm a b ≠ 0 := fun z => by
  have := bits_pm b a ha hb
  rw [z, bits_zero] at this
  have := bits_pos ha
  have := bits_pos hb
  omega
theorem bits_pm_le (a b : Nat) : bits (pm a b) ≤ bits a + bits b := by
  by_cases ha : a = 0
  · subst ha; rw [pm_zero_l, bits_zero]; omega
  · by_cases hb : b = 0
    · subst hb; rw [pm_zero, bits_zero]; omega
    · have := bits_pm b a ha hb; omega
/-- d goes into a -/
def Dv (d a : Nat) : Prop := ∃ q, pm q d = a
theorem Dv.zero (d : Nat) : Dv d 0 := ⟨0, pm_zero_l d⟩
theorem Dv.rfl' (d : Nat) : Dv d d := ⟨1, pm_one_l d⟩
theorem Dv.xor {d a b : Nat} : Dv d a → Dv d b → Dv d (a ^^^ b) := fun ⟨q, h⟩ ⟨r, k⟩ => ⟨q ^^^ r, by rw [pm_xor_l, h, k]⟩
theorem Dv.mul {d a : Nat} (c : Nat) : Dv d a → Dv d (pm a c) := fun ⟨q, h⟩ => ⟨pm q c, by rw [pm_assoc, pm_comm d, ← pm_assoc, h]⟩
theorem Dv.mul' {d a : Nat} (c : Nat) (h : Dv d a) : Dv d (pm c a) := by rw [pm_comm]; exact h.mul c
theorem Dv.tr {a b c : Nat} : Dv a b → Dv b c → Dv a c := fun ⟨q, h⟩ ⟨r, k⟩ => ⟨pm r q, by rw [pm_assoc, h, k]⟩
theorem Dv.le {d a : Nat} (h : Dv d a) (ha : a ≠ 0) : bits d ≤ bits a ∧ d ≠ 0 := by
  obtain ⟨q, rfl⟩ := h
  have hq : q ≠ 0 := fun z => ha (by rw [z, pm_zero_l])
  have hd : d ≠ 0 := fun z => ha (by rw [z, pm_zero])
  have := bits_pm d q hq hd
  have := bits_pos hq
  exact ⟨by omega, hd⟩
theorem Dv.eq {d a : Nat} (h : Dv d a) (hb : bits a ≤ bits d) : a = d ∨ a = 0 := by
  by_cases ha : a = 0
  · exact .inr ha
  · left
    obtain ⟨q, rfl⟩ := h
    have hq : q ≠ 0 := fun z => ha (by rw [z, pm_zero_l])
    have hd : d ≠ 0 := fun z => ha (by rw [z, pm_zero])
    have := bits_pm d q hq hd
    have q1 : bits q ≤ 1 := by omega
    have : q < 2 := bits_le.mp q1
    have : q = 1 := by omega
    rw [this, pm_one_l]
theorem Dv.anti {a b : Nat} (h : Dv a b) (k : Dv b a) : a = b := by
  by_cases hb : b = 0
  · subst hb
    obtain ⟨q, h⟩ := k
    rw [← h, pm_zero]
  · have ha : a ≠ 0 := (h.le hb).2
    rcases h.eq (k.le ha).1 with e | e
    · exact e.symm
    · exact absurd e hb
/-- the rest is one alone -/
theorem rest_one {o q r q' r' : Nat} (hr : bits r < bits o) (hr' : bits r' < bits o) (e : pm q o ^^^ r = pm q' o ^^^ r') : q = q' ∧ r = r' := by
  have e1 : pm (q ^^^ q') o = r ^^^ r' := by
    rw [pm_xor_l]
    have : (pm q o ^^^ r) ^^^ (pm q' o ^^^ r') = 0 := by rw [e, Nat.xor_self]
    rw [xor_swap] at this
    exact xor0 this
  have ho : o ≠ 0 := fun z => by rw [z, bits_zero] at hr; omega
  have hl : bits (r ^^^ r') < bits o := by
    have h1 : r < 2 ^ (bits o - 1) := bits_le.mp (by omega)
    have h2 : r' < 2 ^ (bits o - 1) := bits_le.mp (by omega)
    have := bits_le.mpr (Nat.xor_lt_two_pow h1 h2)
    omega
  by_cases hq : q ^^^ q' = 0
  · have := xor0 hq
    subst this
    rw [Nat.xor_self, pm_zero_l] at e1
    exact ⟨rfl, xor0 e1.symm⟩
  · have := bits_pm o _ hq ho
    rw [e1] at this
    have := bits_pos hq
    omega
end Wk
/-! Ob: walks of any kind, objects with fields, things that are only read. -/
namespace Wk
open PySem L2
section
variable {α β S : Type} {K : PySem.W.Frag} {σ : L2.St} {F0 H0 F F' H H' : Hp} {te tl ta tb to : TE} {tt tc : TT} {tA : TA} {Q : VK} {v w u : V} {xs ys : List α} {x y : α} {D : Ends} {tu : TS} {p q : Addr} {n : Nat} {i : Int} {g : TG} {J : It} {e : Rep α} {b : Rep β} {zs : List β} {o : HO}
/-! ### walks -/
def kFor (g : TG) (tu : TS) (D : Ends) (σ : L2.St) (J : It) (H : Hp) : Prop := ∃ W : Nat → Nat → L2.St → Hp → Prop, (∃ m, W 0 m σ H) ∧ ∀ i m σ H, W i m σ H →
  (J.stop i H ∧ D.nx σ H) ∨ (J.go i H ∧ ∃ N : L2.St → Hp → Prop, (∀ σ' H', N σ' H' → ∃ m', m' < m ∧ W (i + 1) m' σ' H') ∧ ∀ x H', J.yld i H x H' → g x σ H' fun σ2 H2 => tu { D with nx := N, ct := N, bk := D.nx } σ2 H2)
def kCp (g : TG) (tc : TT) (te : TE) (vs : List Nat) (σ : L2.St) (Q : VK) (J : It) (H : Hp) : Prop := ∀ D, H D = none → ∃ W : Nat → Nat → Hp → Prop, (∃ m, W 0 m (upd H D (.lst []))) ∧ ∀ i m H, W i m H →
  (J.stop i H ∧ Q (.ref D) H) ∨ (J.go i H ∧ ∃ Nx : Hp → Prop, (∀ H', Nx H' → ∃ m', m' < m ∧ W (i + 1) m' H') ∧ ∀ x H', J.yld i H x H' → g x (wipe σ vs) H' fun σ2 H2 => wipe σ2 vs = wipe σ vs ∧ tc σ2 H2 fun b H3 =>
    if b = true then te σ2 H3 fun y H4 => ∃ acc, H4 D = some (.lst acc) ∧ acc.length < sizeLine ∧ Nx (upd H4 D (.lst (acc ++ [y]))) else Nx H3)
/-- a walk over frozen things: its turns give the items of zs -/
def TWk (J : It) (F : Hp) (b : Rep β) (zs : List β) : Prop := ∃ G Y, Walk J zs.length G Y ∧ (∀ F' H', Ex F F' → Ex F' H' → G H') ∧
  ∀ i H x H' F', i < zs.length → Ex F F' → Ex F' H → Y i H x H' → ∃ z F1, zs[i]? = some z ∧ Wf F' H F1 H' ∧ b.r F1 x z
theorem f_J {wi : TI} (h : wi σ H (kFor g tu D σ)) : tFor wi g tu D σ H := h
theorem c_J {wi : TI} {vs : List Nat} (h : wi σ H (kCp g tc te vs σ Q)) : tLc wi g tc te vs σ H Q := h
theorem w_forG {s0 : S} {k : S → Prop} {body : β → S → (S → Prop) → (S → Prop) → Prop} (T : TWk J F b zs) (Inv : S → L2.St → Hp → Hp → Prop) (hW : forW zs s0 body k) (h0 : Inv s0 σ F H)
    (ex : ∀ s σ' F' H', Inv s σ' F' H' → Ex F F' ∧ Ex F' H') (f : Ex F H)
    (turn : ∀ (N Bk : L2.St → Hp → Prop) x u s σ' F' H' F1 H1 (nx bk : S → Prop), Inv s σ' F' H' → x ∈ zs → Wf F' H' F1 H1 → b.r F1 u x → body x s nx bk → (∀ s' σ2 F2 H2, Inv s' σ2 F2 H2 → nx s' → N σ2 H2) → (∀ s' σ2 F2 H2, Inv s' σ2 F2 H2 → bk s' → Bk σ2 H2) →
      g u σ' H1 fun σ2 H2 => tu { D with nx := N, ct := N, bk := Bk } σ2 H2)
    (done : ∀ s σ' F' H', Inv s σ' F' H' → k s → D.nx σ' H') : kFor g tu D σ J H := by
  obtain ⟨G, Y, wk, hG, hY⟩ := T
  refine for_it wk (fun i σ' H' => ∃ s F', Inv s σ' F' H' ∧ forW (zs.drop i) s body k) ⟨s0, F, h0, hW⟩ (fun i σ' H' _ ⟨s, F', hI, _⟩ => hG F' H' (ex _ _ _ _ hI).1 (ex _ _ _ _ hI).2) ?_ ?_
  · rintro i u σ' H' H1 hi ⟨s, F', hI, hw⟩ hy
    obtain ⟨x, F1, hx, q, rx⟩ := hY i H' u H1 F' hi (ex _ _ _ _ hI).1 (ex _ _ _ _ hI).2 hy
    have e : zs.drop i = x :: zs.drop (i + 1) := by
      obtain ⟨h1, h2⟩ := List.getElem?_eq_some_iff.mp hx
      rw [← h2]; exact List.drop_eq_getElem_cons h1
    rw [e] at hw
    exact turn _ _ x u s σ' F' H' F1 H1 _ _ hI (List.mem_of_getElem? hx) q rx hw (fun s' σ2 F2 H2 q n => ⟨s', F2, q, n⟩) (fun s' σ2 F2 H2 q n => done s' σ2 F2 H2 q n)
  · rintro σ' H' ⟨s, F', hI, hw⟩
    rw [List.drop_of_length_le (Nat.le_refl _)] at hw
    exact done _ _ _ _ hI hw
theorem w_compG {vs : List Nat} {bd : β → (Option α → Prop) → Prop} {kk : List α → Prop} (T : TWk J F b zs) (w : Wf F0 H0 F H) (hn : zs.length < 1000000) (hW : compW zs bd kk)
    (turn : ∀ (Qy : V → Hp → Prop) (Qn : Hp → Prop) x u F1 H1 (R : Option α → Prop), Wf F H F1 H1 → x ∈ zs → b.r F1 u x → bd x R → (∀ y z F2 H2, Wf F1 H1 F2 H2 → e.r F2 y z → R (some z) → Qy y H2) → (∀ F2 H2, Wf F1 H1 F2 H2 → R none → Qn H2) →
      g u (wipe σ vs) H1 fun σ2 H2 => wipe σ2 vs = wipe σ vs ∧ tc σ2 H2 fun b H3 => if b = true then te σ2 H3 Qy else Qn H3)
    (done : ∀ p ys F' H', H p = none → Wf F H F' H' → XL e H0 F' H' p ys → kk ys → Q (.ref p) H') : kCp g tc te vs σ Q J H := by
  obtain ⟨G, Y, wk, hG, hY⟩ := T
  intro D hD
  refine lc_it wk (fun i H' => ∃ F' ac ys, Wf F H F' H' ∧ Xc H F' H' D (.lst ac) ∧ All e F' ac ys ∧ ys.length ≤ i ∧ compG (zs.drop i) ys bd kk)
    ⟨F, [], [], Wf.newX w.f hD, Xc.mk' (Wf.id w.f) hD, trivial, Nat.le_refl _, hW⟩ (fun i H' _ ⟨F', ac, ys, q, _⟩ => hG F' H' q.g q.f) ?_ ?_
  · rintro i u H' H1 hi ⟨F', ac, ys, q, xc, al, hl, hw⟩ hy
    obtain ⟨x, F1, hx, q1, rx⟩ := hY i H' u H1 F' hi q.g q.f hy
    have e' : zs.drop i = x :: zs.drop (i + 1) := by
      obtain ⟨h1, h2⟩ := List.getElem?_eq_some_iff.mp hx
      rw [← h2]; exact List.drop_eq_getElem_cons h1
    rw [e'] at hw
    have xc1 := xc.step q1
    have al1 := al.mono q1.g
    refine turn _ _ x u F1 H1 _ (q.tr q1) (List.mem_of_getElem? hx) rx hw (fun y z F2 H2 s ry hR => ?_) (fun F2 H2 s hR => ?_)
    · have xc2 := xc1.step s
      exact ⟨ac, xc2.h, by rw [al.len]; exact small_len (by omega), F2, ac ++ [y], ys ++ [z], ((q.tr q1).tr s).set xc2, xc2.set, (al1.mono s.g).snoc ry, by rw [List.length_append]; exact Nat.succ_le_succ hl, hR⟩
    · exact ⟨F2, ac, ys, (q.tr q1).tr s, xc1.step s, al1.mono s.g, Nat.le_succ_of_le hl, by simpa using hR⟩
  · rintro H' ⟨F', ac, ys, q, xc, al, hl, hw⟩
    rw [List.drop_of_length_le (Nat.le_refl _)] at hw
    exact done D ys F' H' hD q ⟨ac, ⟨w.h.non hD, xc.n, xc.h⟩, al⟩ hw
/-! sources -/
theorem TWk.pairs {γ δ : Type} {c : Rep γ} {d : Rep δ} {G : Hp → Prop} {X Y : Nat → Option V} {us : List (γ × δ)} (wk : Walk J us.length G (YPair X Y)) (hG : ∀ F' H', Ex F F' → Ex F' H' → G H')
    (hx : ∀ i F' x, Ex F F' → i < us.length → X i = some x → ∃ z, (us[i]?.map Prod.fst) = some z ∧ c.r F' x z) (hy : ∀ i F' x, Ex F F' → i < us.length → Y i = some x → ∃ z, (us[i]?.map Prod.snd) = some z ∧ d.r F' x z) : TWk J F (pT2 c d) us := by
  refine ⟨G, _, wk, hG, fun i H v H' F' hi f g hy' => ?_⟩
  obtain ⟨T, x, y, rfl, hT, rfl, h1, h2⟩ := hy'
  obtain ⟨z1, e1, r1⟩ := hx i F' x f hi h1
  obtain ⟨z2, e2, r2⟩ := hy i F' y f hi h2
  have e : us[i]? = some (z1, z2) := by
    cases q : us[i]? with
    | none => rw [q] at e1; cases e1
    | some t =>
      rw [q] at e1 e2
      have a : t.1 = z1 := Option.some.inj e1
      have b : t.2 = z2 := Option.some.inj e2
      rw [← a, ← b]
  exact ⟨(z1, z2), _, e, Wf.new g hT, ⟨T, x, y, rfl, upd_same, c.mono (Ex.new (g.non hT)) r1, d.mono (Ex.new (g.non hT)) r2⟩⟩
def enumT (xs : List α) : List (Nat × α) := (List.range xs.length).zip xs
theorem enumT_len (xs : List α) : (enumT xs).length = xs.length := by unfold enumT; rw [List.length_zip, List.length_range]; exact Nat.min_self _
theorem enumT_get (xs : List α) (i : Nat) : (enumT xs)[i]? = xs[i]?.map fun x => (i, x) := by
  show ((List.range xs.length).zip xs)[i]? = _
  by_cases h : i < xs.length
  · have h2 : i < ((List.range xs.length).zip xs).length := by rw [List.length_zip, List.length_range]; omega
    rw [List.getElem?_eq_getElem h2, List.getElem?_eq_getElem h, List.getElem_zip, List.getElem_range]; rfl
  · rw [List.getElem?_eq_none (by rw [List.length_zip, List.length_range]; omega), List.getElem?_eq_none (by omega)]; rfl
/-- enumerate(xs) -/
theorem src_enum {R : It → Hp → Prop} (r : (pL e).r F v xs) (f : Ex F H) (k : ∀ a, TWk (Ite K a) F (pT2 pN e) (enumT xs) → R (Ite K a) H) : ∃ a ws, [v] = [V.ref a] ∧ SqL K H a ws ∧ R (Ite K a) H := by
  obtain ⟨p, vs, rfl, hp, a⟩ := r
  refine ⟨p, vs, rfl, SqL.of (f _ _ hp), k p ?_⟩
  refine TWk.pairs (G := fun H => SqL K H p vs) (X := fun i => some (.int (i : Nat))) (Y := fun i => vs[i]?) (by rw [enumT_len, ← a.len]; exact walk_enum) (fun F' H' h1 h2 => SqL.of (h2 _ _ (h1 _ _ hp))) ?_ ?_
  · intro i F' x _ hi hx
    rw [enumT_len] at hi
    rw [enumT_get, List.getElem?_eq_getElem hi]
    exact ⟨i, rfl, (Option.some.inj hx).symm⟩
  · intro i F' x h1 hi hx
    obtain ⟨z, hz, rz⟩ := a.got hx
    rw [enumT_get, hz]
    exact ⟨z, rfl, e.mono h1 rz⟩
/-- zip(xs, ys) -/
theorem src_zip {γ : Type} {c : Rep γ} {us : List γ} {R : It → Hp → Prop} (r : (pL e).r F v xs) (s : (pL c).r F w us) (f : Ex F H) (k : ∀ a b, TWk (Itz K a b) F (pT2 e c) (xs.zip us) → R (Itz K a b) H) : ∃ a b ws us, [v, w] = [V.ref a, V.ref b] ∧ SqL K H a ws ∧ SqL K H b us ∧ R (Itz K a b) H := by
  obtain ⟨p, vs, rfl, hp, a⟩ := r
  obtain ⟨q, ws, rfl, hq, b⟩ := s
  refine ⟨p, q, vs, ws, rfl, SqL.of (f _ _ hp), SqL.of (f _ _ hq), k p q ?_⟩
  refine TWk.pairs (G := fun H => SqL K H p vs ∧ SqL K H q ws) (X := fun i => vs[i]?) (Y := fun i => ws[i]?) (walk_zip (by rw [List.length_zip, a.len, b.len])) (fun F' H' h1 h2 => ⟨SqL.of (h2 _ _ (h1 _ _ hp)), SqL.of (h2 _ _ (h1 _ _ hq))⟩) ?_ ?_
  · intro i F' x h1 hi hx
    obtain ⟨z, hz, rz⟩ := a.got hx
    obtain ⟨u, hu⟩ : ∃ u, us[i]? = some u := ⟨_, List.getElem?_eq_getElem (by rw [List.length_zip] at hi; omega)⟩
    exact ⟨z, by rw [(List.getElem?_zip_eq_some (z := (z, u))).mpr ⟨hz, hu⟩]; rfl, e.mono h1 rz⟩
  · intro i F' x h1 hi hx
    obtain ⟨u, hu, ru⟩ := b.got hx
    obtain ⟨z, hz⟩ : ∃ z, xs[i]? = some z := ⟨_, List.getElem?_eq_getElem (by rw [List.length_zip] at hi; omega)⟩
    exact ⟨u, by rw [(List.getElem?_zip_eq_some (z := (z, u))).mpr ⟨hz, hu⟩]; rfl, c.mono h1 ru⟩
/-- a tuple -/
theorem src_tup {R : It → Hp → Prop} (r : (pTL e).r F v xs) (f : Ex F H) (k : ∀ a, TWk (Itt K a) F e xs → R (Itt K a) H) : ∃ a, v = .ref a ∧ (∃ ws, SqT K H a ws) ∧ R (Itt K a) H := by
  obtain ⟨p, vs, rfl, hp, a⟩ := r
  refine ⟨p, rfl, ⟨vs, SqT.of (f _ _ hp)⟩, k p ⟨_, _, by rw [← a.len]; exact walk_tup, fun F' H' h1 h2 => SqT.of (h2 _ _ (h1 _ _ hp)), fun i H v H' F' hi h1 h2 hy => ?_⟩⟩
  obtain ⟨rfl, hv⟩ := hy
  obtain ⟨z, hz, rz⟩ := a.got hv
  exact ⟨z, F', hz, Wf.id h2, e.mono h1 rz⟩
/-- range(i, j) -/
theorem src_range2 {R : It → Hp → Prop} {i j : Nat} (hj : j < 1000000) (hi : i < 1000000) (k : TWk (Itr (i : Int) ((j : Int) - (i : Int)).toNat) F pN (List.range' i (j - i)) → R (Itr (i : Int) ((j : Int) - (i : Int)).toNat) H) : ∃ i' j' : Int, [V.int (i : Int), V.int (j : Int)] = [.int i', .int j'] ∧ (-(2 ^ 62) ≤ i' ∧ i' < 2 ^ 62 ∧ -(2 ^ 62) ≤ j' ∧ j' < 2 ^ 62) ∧ R (Itr i' (j' - i').toNat) H := by
  refine ⟨i, j, rfl, ⟨by omega, by omega, by omega, by omega⟩, k ⟨fun _ => True, YFn fun m => .int ((i : Int) + (m : Nat)), ?_, fun _ _ _ _ => trivial, fun m H x H' F' hm h1 h2 hy => ?_⟩⟩
  · have : ((j : Int) - (i : Int)).toNat = (List.range' i (j - i)).length := by rw [List.length_range']; omega
    rw [this]; exact walk_range
  · obtain ⟨rfl, rfl⟩ := hy
    rw [List.length_range'] at hm
    exact ⟨i + m, F', by rw [List.getElem?_range' hm]; simp, Wf.id h2, by show V.int _ = V.int _; congr 1⟩
/-! ### objects -/
theorem lk_ne {k g : Str} {v : V} {r : List (Str × V)} (h : (k == g) = false) : List.lookup k ((g, v) :: r) = List.lookup k r := by simp only [List.lookup, h]
theorem lk_eq {k : Str} {v : V} {r : List (Str × V)} : List.lookup k ((k, v) :: r) = some v := by
  have e : (k == k) = true := beq_self_eq_true k
  simp only [List.lookup, e]
/-- an instance of C that stays as it is: its fields, all told by Fs -/
def pOb (C : Addr) (Fs : Hp → List (Str × V) → α → Prop) (mono : ∀ {F F' : Hp} {fs : List (Str × V)} {x : α}, Ex F F' → Fs F fs x → Fs F' fs x) : Rep α :=
  ⟨fun F v x => ∃ p dx fs, v = .ref p ∧ F p = some (.ins C dx fs) ∧ Fs F fs x, fun h ⟨p, dx, fs, a, b, c⟩ => ⟨p, dx, fs, a, h _ _ b, mono h c⟩⟩
def F1s {α : Type} (n : Str) (e : Rep α) (F : Hp) (fs : List (Str × V)) (x : α) : Prop := ∃ u, fs = [(n, u)] ∧ e.r F u x
def F2s {α β : Type} (n m : Str) (e : Rep α) (f : Rep β) (F : Hp) (fs : List (Str × V)) (x : α × β) : Prop := ∃ u w, fs = [(n, u), (m, w)] ∧ e.r F u x.1 ∧ f.r F w x.2
def F3s {α β γ : Type} (n m l : Str) (e : Rep α) (f : Rep β) (g : Rep γ) (F : Hp) (fs : List (Str × V)) (x : α × β × γ) : Prop := ∃ u w y, fs = [(n, u), (m, w), (l, y)] ∧ e.r F u x.1 ∧ f.r F w x.2.1 ∧ g.r F y x.2.2
theorem F1s.mono {α : Type} {n : Str} {e : Rep α} {F F' : Hp} {fs : List (Str × V)} {x : α} (h : Ex F F') : F1s n e F fs x → F1s n e F' fs x := fun ⟨u, a, b⟩ => ⟨u, a, e.mono h b⟩
theorem F2s.mono {α β : Type} {n m : Str} {e : Rep α} {f : Rep β} {F F' : Hp} {fs : List (Str × V)} {x : α × β} (h : Ex F F') : F2s n m e f F fs x → F2s n m e f F' fs x := fun ⟨u, w, a, b, c⟩ => ⟨u, w, a, e.mono h b, f.mono h c⟩
theorem F3s.mono {α β γ : Type} {n m l : Str} {e : Rep α} {f : Rep β} {g : Rep γ} {F F' : Hp} {fs : List (Str × V)} {x : α × β × γ} (h : Ex F F') : F3s n m l e f g F fs x → F3s n m l e f g F' fs x := fun ⟨u, w, y, a, b, c, d⟩ => ⟨u, w, y, a, e.mono h b, f.mono h c, g.mono h d⟩
def pO1 {α : Type} (C : Addr) (n : Str) (e : Rep α) : Rep α := pOb C (F1s n e) F1s.mono
def pO2 {α β : Type} (C : Addr) (n m : Str) (e : Rep α) (f : Rep β) : Rep (α × β) := pOb C (F2s n m e f) F2s.mono
def pO3 {α β γ : Type} (C : Addr) (n m l : Str) (e : Rep α) (f : Rep β) (g : Rep γ) : Rep (α × β × γ) := pOb C (F3s n m l e f g) F3s.mono
section
variable {γ : Type} {C : Addr} {a b c : Str} {f : Rep β} {g' : Rep γ} {s : α} {t : α × β} {z : α × β × γ}
/-- reading o.f -/
theorem fl_11 (cl : Cls K C) (na : NoAttr K C a) (r : (pO1 C a e).r F v s) (h : Ex F H) : ∃ w, e.r F w s ∧ ∀ ⦃σ ta⦄, Val ta σ H v → Val (tFld K ta a) σ H w := by
  obtain ⟨p, dx, fs, rfl, hp, u, rfl, r1⟩ := r
  exact ⟨u, r1, fun _ _ ha Q k => ha _ ⟨p, C, dx, _, u, rfl, h _ _ hp, cl, na, lk_eq, k⟩⟩
theorem fl_21 (cl : Cls K C) (na : NoAttr K C a) (r : (pO2 C a b e f).r F v t) (h : Ex F H) : ∃ w, e.r F w t.1 ∧ ∀ ⦃σ ta⦄, Val ta σ H v → Val (tFld K ta a) σ H w := by
  obtain ⟨p, dx, fs, rfl, hp, u, w, rfl, r1, r2⟩ := r
  exact ⟨u, r1, fun _ _ ha Q k => ha _ ⟨p, C, dx, _, u, rfl, h _ _ hp, cl, na, lk_eq, k⟩⟩
theorem fl_22 (cl : Cls K C) (na : NoAttr K C b) (r : (pO2 C a b e f).r F v t) (h : Ex F H) (h1 : (b == a) = false := by decide +kernel) : ∃ w, f.r F w t.2 ∧ ∀ ⦃σ ta⦄, Val ta σ H v → Val (tFld K ta b) σ H w := by
  obtain ⟨p, dx, fs, rfl, hp, u, w, rfl, r1, r2⟩ := r
  exact ⟨w, r2, fun _ _ ha Q k => ha _ ⟨p, C, dx, _, w, rfl, h _ _ hp, cl, na, (lk_ne h1).trans lk_eq, k⟩⟩
theorem fl_31 (cl : Cls K C) (na : NoAttr K C a) (r : (pO3 C a b c e f g').r F v z) (h : Ex F H) : ∃ w, e.r F w z.1 ∧ ∀ ⦃σ ta⦄, Val ta σ H v → Val (tFld K ta a) σ H w := by
  obtain ⟨p, dx, fs, rfl, hp, u, w, y, rfl, r1, r2, r3⟩ := r
  exact ⟨u, r1, fun _ _ ha Q k => ha _ ⟨p, C, dx, _, u, rfl, h _ _ hp, cl, na, lk_eq, k⟩⟩
theorem fl_32 (cl : Cls K C) (na : NoAttr K C b) (r : (pO3 C a b c e f g').r F v z) (h : Ex F H) (h1 : (b == a) = false := by decide +kernel) : ∃ w, f.r F w z.2.1 ∧ ∀ ⦃σ ta⦄, Val ta σ H v → Val (tFld K ta b) σ H w := by
  obtain ⟨p, dx, fs, rfl, hp, u, w, y, rfl, r1, r2, r3⟩ := r
  exact ⟨w, r2, fun _ _ ha Q k => ha _ ⟨p, C, dx, _, w, rfl, h _ _ hp, cl, na, (lk_ne h1).trans lk_eq, k⟩⟩
theorem fl_33 (cl : Cls K C) (na : NoAttr K C c) (r : (pO3 C a b c e f g').r F v z) (h : Ex F H) (h1 : (c == a) = false := by decide +kernel) (h2 : (c == b) = false := by decide +kernel) : ∃ w, g'.r F w z.2.2 ∧ ∀ ⦃σ ta⦄, Val ta σ H v → Val (tFld K ta c) σ H w := by
  obtain ⟨p, dx, fs, rfl, hp, u, w, y, rfl, r1, r2, r3⟩ := r
  exact ⟨y, r3, fun _ _ ha Q k => ha _ ⟨p, C, dx, _, y, rfl, h _ _ hp, cl, na, (lk_ne h1).trans ((lk_ne h2).trans lk_eq), k⟩⟩
/-- the object of a method's call -/
theorem me_1 {m : Str} (r : (pO1 C a e).r F v s) (h : Ex F H) (h1 : (m == a) = false := by decide +kernel) : ∃ p dx fs, v = .ref p ∧ H p = some (.ins C dx fs) ∧ fs.lookup m = none := by
  obtain ⟨p, dx, fs, rfl, hp, u, rfl, _⟩ := r
  exact ⟨p, dx, _, rfl, h _ _ hp, (lk_ne h1).trans rfl⟩
theorem me_2 {m : Str} (r : (pO2 C a b e f).r F v t) (h : Ex F H) (h1 : (m == a) = false := by decide +kernel) (h2 : (m == b) = false := by decide +kernel) : ∃ p dx fs, v = .ref p ∧ H p = some (.ins C dx fs) ∧ fs.lookup m = none := by
  obtain ⟨p, dx, fs, rfl, hp, u, w, rfl, _⟩ := r
  exact ⟨p, dx, _, rfl, h _ _ hp, (lk_ne h1).trans ((lk_ne h2).trans rfl)⟩
theorem me_3 {m : Str} (r : (pO3 C a b c e f g').r F v z) (h : Ex F H) (h1 : (m == a) = false := by decide +kernel) (h2 : (m == b) = false := by decide +kernel) (h3 : (m == c) = false := by decide +kernel) : ∃ p dx fs, v = .ref p ∧ H p = some (.ins C dx fs) ∧ fs.lookup m = none := by
  obtain ⟨p, dx, fs, rfl, hp, u, w, y, rfl, _⟩ := r
  exact ⟨p, dx, _, rfl, h _ _ hp, (lk_ne h1).trans ((lk_ne h2).trans ((lk_ne h3).trans rfl))⟩
end
/-! one's own object, while it is made -/
/-- the heap without p -/
def wo (H : Hp) (p : Addr) : Hp := fun a => if a = p then none else H a
theorem wo_same {H : Hp} {p : Addr} : wo H p p = none := if_pos rfl
theorem wo_ne {H : Hp} {p q : Addr} (h : q ≠ p) : wo H p q = H q := if_neg h
theorem Wf.start (f : Ex F H) (n : F p = none) : Wf F (wo H p) F H := ⟨fun a o h => by
    by_cases q : a = p
    · subst q; rw [wo_same] at h; cases h
    · rw [wo_ne q] at h; exact h, f, Ex.rfl', fun a o h h0 => by rw [h] at h0; cases h0⟩
theorem Xc.start (n : F p = none) (h : H p = some o) : Xc (wo H p) F H p o := ⟨wo_same, n, h⟩
/-- behind the making of x -/
theorem Wf.made {x dx : Addr} {o u : HO} (nx : H x = none) (nd : H dx = none) (w : Wf F (wo (upd (upd H dx o) x u) x) F' H') : Wf F H F' H' := by
  have e : Ex H (wo (upd (upd H dx o) x u) x) := fun a v h => by
    have h1 : a ≠ x := ne_of_none h nx
    have h2 : a ≠ dx := ne_of_none h nd
    rw [wo_ne h1, upd_ne h1, upd_ne h2]; exact h
  exact ⟨e.tr w.h, w.f, w.g, fun a o h h0 => e.non (w.n a o h h0)⟩
theorem Ex.made {x dx : Addr} {o u : HO} (f : Ex F H) (nx : H x = none) (nd : H dx = none) : Ex F (upd (upd H dx o) x u) := fun a v h => by
  have h' := f a v h
  rw [upd_ne (ne_of_none h' nx), upd_ne (ne_of_none h' nd)]; exact h'
theorem Xc.frzO {u : HO} (x : Xc H0 F H q u) (h : Fz F F' p) (hq : q ≠ p) (g : Ex F F') : Xc H0 F' H q u := ⟨x.z, h _ hq x.n, x.h⟩
/-- self.f = v -/
theorem a_fld {C dx : Addr} {fs : List (Str × V)} {a : Str} (cl : Cls K C) (na : NoAttr K C a) (x : Xc H0 F H p (.ins C dx fs)) (w : Wf F0 H0 F H) (hl : fs.length < 1000) (ho : Val to σ H (.ref p))
    (k : ∀ H', Wf F0 H0 F H' → Xc H0 F H' p (.ins C dx (putF a v fs)) → (∀ q o, H q = some o → q ≠ p → H' q = some o) → D.nx σ H') :
    (fun y H1 => to σ H1 fun x H2 => ∃ a' C' dx' fs', x = .ref a' ∧ H2 a' = some (.ins C' dx' fs') ∧ Cls K C' ∧ NoAttr K C' a ∧ fs'.length < 1000 ∧ D.nx σ (upd H2 a' (.ins C' dx' (putF a y fs')))) v H :=
  ho _ ⟨p, C, dx, fs, rfl, x.h, cl, na, hl, k _ (w.set x) x.set fun q o h hq => by rw [upd_ne hq]; exact h⟩
theorem e_fld {tv : TE} {a : Str} (h : tv σ H fun y H1 => to σ H1 fun x H2 => ∃ a' C' dx' fs', x = .ref a' ∧ H2 a' = some (.ins C' dx' fs') ∧ Cls K C' ∧ NoAttr K C' a ∧ fs'.length < 1000 ∧ D.nx σ (upd H2 a' (.ins C' dx' (putF a y fs')))) : sFld K to tv a D σ H := h
/-- reading a field of one's own object -/
theorem fl_X {C dx : Addr} {fs : List (Str × V)} {a : Str} (cl : Cls K C) (na : NoAttr K C a) (x : Xc H0 F H p (.ins C dx fs)) (hl : fs.lookup a = some u) (ho : Val to σ H (.ref p)) : Val (tFld K to a) σ H u :=
  fun Q k => ho _ ⟨p, C, dx, fs, u, rfl, x.h, cl, na, hl, k⟩
/-- it is made: it changes no more -/
theorem Xc.frzE {o : HO} (x : Xc H0 F H p o) (w : Wf F0 H0 F H) : ∃ F', Wf F0 H0 F' H ∧ Ex F F' ∧ F' p = some o := ⟨_, w.freeze x, Ex.new x.n, upd_same⟩
/-! ### borrowed lists and dicts: read only, their place not told -/
structure BL {α : Type} (e : Rep α) (F H : Hp) (p : Addr) (xs : List α) : Prop where
  x : ∃ vs, H p = some (.lst vs) ∧ All e F vs xs
structure BD {κ α : Type} [KeyT κ] (e : Rep α) (F H : Hp) (p : Addr) (m : List (κ × α)) : Prop where
  x : ∃ kvs, H p = some (.dK kvs) ∧ DA e F kvs m
theorem BL.step (x : BL e F H p xs) (w : Wf F H F' H') : BL e F' H' p xs := let ⟨vs, a, b⟩ := x.x; ⟨vs, w.h _ _ a, b.mono w.g⟩
theorem BL.ne (x : BL e F H p xs) (h : H q = none) : p ≠ q := let ⟨_, a, _⟩ := x.x; ne_of_none a h
theorem BL.frzO {X : Prop} (x : BL e F H q xs) (h : X) (hq : q ≠ p) (g : Ex F F') : BL e F' H q xs := let ⟨vs, a, b⟩ := x.x; ⟨vs, a, b.mono g⟩
theorem BL.kept (x : BL e F H q xs) (h : ∀ q o, H q = some o → q ≠ p → H' q = some o) (hq : q ≠ p) : BL e F H' q xs := let ⟨vs, a, b⟩ := x.x; ⟨vs, h _ _ a hq, b⟩
theorem XL.bw (x : XL e H0 F H p xs) : BL e F H p xs := let ⟨vs, a, b⟩ := x.x; ⟨vs, a.h, b⟩
end
section
variable {κ α : Type} [DecidableEq κ] [KeyT κ] {e : Rep α} {K : PySem.W.Frag} {σ : L2.St} {F0 H0 F F' H H' : Hp} {te td ty tx tv : TE} {Q : VK} {v w y z : V} {m : List (κ × α)} {p q : Addr} {j : κ} {x : α} {D : Ends}
omit [DecidableEq κ] in
theorem BD.step (x : BD e F H p m) (w : Wf F H F' H') : BD e F' H' p m := let ⟨vs, a, b⟩ := x.x; ⟨vs, w.h _ _ a, b.mono w.g⟩
omit [DecidableEq κ] in
theorem BD.ne (x : BD e F H p m) (h : H q = none) : p ≠ q := let ⟨_, a, _⟩ := x.x; ne_of_none a h
omit [DecidableEq κ] in
theorem BD.frzO {X : Prop} (x : BD e F H q m) (h : X) (hq : q ≠ p) (g : Ex F F') : BD e F' H q m := let ⟨vs, a, b⟩ := x.x; ⟨vs, a, b.mono g⟩
omit [DecidableEq κ] in
theorem BD.kept (x : BD e F H q m) (h : ∀ q o, H q = some o → q ≠ p → H' q = some o) (hq : q ≠ p) : BD e F H' q m := let ⟨vs, a, b⟩ := x.x; ⟨vs, h _ _ a hq, b⟩
omit [DecidableEq κ] in
theorem XD.bw (x : XD e H0 F H p m) : BD e F H p m := let ⟨vs, a, b⟩ := x.x; ⟨vs, a.h, b⟩
omit [DecidableEq κ] in
theorem D_bw (r : (pD e).r F v m) (f : Ex F H) : ∃ p, v = .ref p ∧ BD e F H p m := let ⟨p, vs, a, b, c⟩ := r; ⟨p, a, ⟨vs, f _ _ b, c⟩⟩
theorem in_BD (r : BD e F H p m) (hy : Val ty σ H (kV (KeyT.k j))) (hd : Val td σ H (.ref p)) : Val (tDIn ty td) σ H (.bl (hasT m j)) := by
  obtain ⟨kvs, hp, a⟩ := r.x
  exact fun Q k => hy _ (hd _ ⟨p, _, rfl, DGet.k hp, by rw [a.has j]; exact k⟩)
theorem ix_BD (r : BD e F H p m) (hx : valT m j = some x) : ∃ w, e.r F w x ∧ ∀ ⦃σ td ty⦄, Val td σ H (.ref p) → Val ty σ H (kV (KeyT.k j)) → Val (tDGet td ty) σ H w := by
  obtain ⟨kvs, hp, a⟩ := r.x
  obtain ⟨w, h1, h2⟩ := (a.get j).1 x hx
  exact ⟨w, h2, fun _ _ _ hd hy Q k => hd _ (hy _ ⟨p, w, rfl, by rw [← h1]; exact DGet.k hp, k⟩)⟩
/-- list(d) -/
def keyC (κ : Type) [KeyT κ] (b : Rep κ) : Prop := ∀ (F : Hp) (k : κ), b.r F (kV (KeyT.k k)) k
theorem keyN : keyC Nat pN := fun _ _ => rfl
theorem keyI : keyC Int pI := fun _ _ => rfl
theorem keyS : keyC Str pS := fun _ _ => rfl
omit [DecidableEq κ] in
theorem DA.keys {b : Rep κ} (hb : keyC κ b) : ∀ {kvs : List (Key × V)} {m : List (κ × α)}, DA e F kvs m → All b F (kvs.map fun kv => kV kv.1) (m.map (·.1))
  | [], [], _ => trivial
  | p :: r, q :: s, ⟨a, _, c⟩ => ⟨by show b.r F (kV p.1) q.1; rw [a]; exact hb F q.1, DA.keys hb c⟩
  | [], _ :: _, q => q.elim
  | _ :: _, [], q => q.elim
def rListD : List V → Hp → VK → Prop := fun xs H Q => ∃ (a : Addr) (kvs : List (Key × V)), xs = [.ref a] ∧ Rd H a (.dK kvs) ∧ ∀ p, H p = none → Q (.ref p) (upd H p (.lst (kvs.map fun kv => kV kv.1)))
omit [DecidableEq κ] in
theorem n_listD {b : Rep κ} (hb : keyC κ b) (r : (pD e).r F v m) (w : Wf F0 H0 F H) (k : ∀ p H', H p = none → Wf F H F H' → XL b H0 F H' p (m.map (·.1)) → Q (.ref p) H') : rListD [v] H Q := by
  obtain ⟨p, kvs, rfl, hp, a⟩ := r
  exact ⟨p, kvs, rfl, .inl (w.f _ _ hp), fun l hl => k l _ hl (Wf.newX w.f hl) ⟨_, Xc.mk' w hl, a.keys hb⟩⟩
theorem n_listXD {b : Rep κ} (hb : keyC κ b) (r : XD e H0 F H q m) (w : Wf F0 H0 F H) (k : ∀ p H', H p = none → Wf F H F H' → XL b H0 F H' p (m.map (·.1)) → Q (.ref p) H') : rListD [.ref q] H Q := by
  obtain ⟨kvs, hp, a⟩ := r.rd
  exact ⟨q, kvs, rfl, .inl hp, fun l hl => k l _ hl (Wf.newX w.f hl) ⟨_, Xc.mk' w hl, a.keys hb⟩⟩
end
/-- a method that may be called -/
structure Md (P : Program) (w : World) (K : PySem.W.Frag) (mg : Str → Option Value) (base : Heap) (CX : CXT) (k : Nat) (C : Addr) (m : Str) (ps : List Str) (sp : Sp) : Prop where
  ex : ∃ f fd, FnOk P w K mg base CX k f fd ps sp ∧ Meth K C m f ∧ Binds K fd ps []
/-- a class that makes -/
structure Nw (P : Program) (w : World) (K : PySem.W.Frag) (mg : Str → Option Value) (base : Heap) (CX : CXT) (k : Nat) (C : Addr) (x : Str) (ps : List Str) (sp : Sp) : Prop where
  ex : ∃ f fd, FnOk P w K mg base CX k f fd ps sp ∧ Mk K C f ∧ mg x = some (.ref C) ∧ Binds K fd ps []
section
variable {X : Cx} {k : Nat} {C : Addr} {x m : Str} {ps : List Str} {sp : Sp} {o e : Expr} {es : List Expr} {p pos apos : Pos} {ta : TE} {t : TA} {pl : Sem Bool}
theorem pe_md (M : Md X.prog X.w X.K X.mg X.base CX0 k C m ps sp) (cl : Cls X.K C) (hr : Room k X.A) (he : PE X o ta) (ha : PA X (e :: es) t)
    (hst : starEach (e :: es) X.env = (false, eval e X.env) :: starEach es X.env := by rfl) (hpl : (backTo pos (starEach es X.env)).any (·.1) = false := by rfl)
    (ht : eval (.Call (.Attribute o m apos) (e :: es) [] pos) X.env = (do
      let ov ← eval o X.env
      standAt apos.atName
      let (f, first) ← holding [ov] (getMethod ov m pl)
      callWith pos f first (backTo pos (starEach (e :: es) X.env)) (backToKw pos (keywordEach [] X.env))) := by rfl) :
    PE X (.Call (.Attribute o m apos) (e :: es) [] pos) (tMeth C m sp [] E0 ta t) := by
  obtain ⟨f, fd, F, hm, hb⟩ := M.ex
  exact pe_meth he cl hm F hr hb .nil pass0 ha hst hpl ht
theorem pe_md0 (M : Md X.prog X.w X.K X.mg X.base CX0 k C m ps sp) (cl : Cls X.K C) (hr : Room k X.A) (he : PE X o ta)
    (ht : eval (.Call (.Attribute o m apos) [] [] pos) X.env = (do
      let ov ← eval o X.env
      standAt apos.atName
      let (f, first) ← holding [ov] (getMethod ov m pl)
      callWith pos f first (backTo pos (starEach [] X.env)) (backToKw pos (keywordEach [] X.env))) := by rfl) :
    PE X (.Call (.Attribute o m apos) [] [] pos) (tMeth C m sp [] E0 ta tNil) := by
  obtain ⟨f, fd, F, hm, hb⟩ := M.ex
  exact pe_meth0 he cl hm F hr hb .nil pass0 ht
theorem pe_nw (M : Nw X.prog X.w X.K X.mg X.base CX0 k C x ps sp) (hr : Room (k + 1) X.A) (hg : Gl X x) (ha : PA X (e :: es) t) (hdb : (x == ("__debug__" : Str)) = false := by decide)
    (he : starEach (e :: es) X.env = (false, eval e X.env) :: starEach es X.env := by rfl) (hpl : (backTo pos (starEach es X.env)).any (·.1) = false := by rfl) : PE X (.Call (.Name x p) (e :: es) [] pos) (tMake C sp [] E0 t) := by
  obtain ⟨f, fd, F, hk, hm, hb⟩ := M.ex
  exact pe_make hk F hr hg hm hb .nil pass0 ha hdb he hpl
end
section
variable {σ : L2.St} {H : Hp} {C : Addr} {m : Str} {sp : Sp} {E : XK} {ta : TE} {t : TA} {Q : VK} {v : V} {p dx : Addr} {fs : List (Str × V)} {vs : List V}
theorem e_md (h : ta σ H fun x H1 => ∃ a dx fs, x = .ref a ∧ H1 a = some (.ins C dx fs) ∧ fs.lookup m = none ∧ t σ H1 fun vs H2 => sp (x :: vs) H2 Q E) : tMeth C m sp [] E ta t σ H Q := by
  show ta σ H fun x H1 => ∃ a dx fs, x = .ref a ∧ H1 a = some (.ins C dx fs) ∧ fs.lookup m = none ∧ t σ H1 fun vs H2 => sp (x :: (vs ++ [])) H2 Q E
  simpa only [List.append_nil] using h
theorem e_nw (h : t σ H fun vs H1 => ∀ x dx, H1 x = none → H1 dx = none → dx ≠ x → sp (.ref x :: vs) (upd (upd H1 dx (.own x)) x (.ins C dx [])) (fun v H2 => v = .non ∧ Q (.ref x) H2) E) : tMake C sp [] E t σ H Q := by
  show t σ H fun vs H1 => ∀ x dx, H1 x = none → H1 dx = none → dx ≠ x → sp (.ref x :: (vs ++ [])) (upd (upd H1 dx (.own x)) x (.ins C dx [])) (fun v H2 => v = .non ∧ Q (.ref x) H2) E
  simpa only [List.append_nil] using h
end
/-- an object of which only the fields are read -/
structure BO (C : Addr) (F H : Hp) (p dx : Addr) (fs : List (Str × V)) : Prop where
  h : H p = some (.ins C dx fs)
section
variable {α β γ : Type} {K : PySem.W.Frag} {σ : L2.St} {C p q dx : Addr} {fs : List (Str × V)} {H0 F F' H H' : Hp} {to ta : TE} {Q : VK} {a b c m : Str} {u v : V} {o : HO}
theorem BO.step (x : BO C F H p dx fs) (w : Wf F H F' H') : BO C F' H' p dx fs := ⟨w.h _ _ x.h⟩
theorem BO.ne (x : BO C F H p dx fs) (h : H q = none) : p ≠ q := ne_of_none x.h h
theorem BO.frzO {X : Prop} (x : BO C F H q dx fs) (h : X) (hq : q ≠ p) (g : Ex F F') : BO C F' H q dx fs := ⟨x.h⟩
theorem BO.kept (x : BO C F H q dx fs) (h : ∀ q o, H q = some o → q ≠ p → H' q = some o) (hq : q ≠ p) : BO C F H' q dx fs := ⟨h _ _ x.h hq⟩
theorem fl_B (na : NoAttr K C a) (cl : Cls K C) (x : BO C F H p dx fs) (hl : fs.lookup a = some u) (ho : Val to σ H (.ref p)) : Val (tFld K to a) σ H u :=
  fun Q k => ho _ ⟨p, C, dx, fs, u, rfl, x.h, cl, na, hl, k⟩
def kFld (K : PySem.W.Frag) (a : Str) (Q : VK) (x : V) (H1 : Hp) : Prop := ∃ a' C dx fs v, x = .ref a' ∧ H1 a' = some (.ins C dx fs) ∧ Cls K C ∧ NoAttr K C a ∧ fs.lookup a = some v ∧ Q v H1
theorem e_tfld (h : ta σ H (kFld K a Q)) : tFld K ta a σ H Q := h
theorem fl_val (h : Val (tFld K (tC v) a) [] H u) (q : Q u H) : kFld K a Q v H := h Q q
theorem put_ne {f g : Str} {v x : V} {r : List (Str × V)} (h : ¬ g = f) : putF f v ((g, x) :: r) = (g, x) :: putF f v r := if_neg h
theorem put_eq {f : Str} {v x : V} {r : List (Str × V)} : putF f v ((f, x) :: r) = (f, v) :: r := if_pos rfl
theorem Xc.cast {fs' : List (Str × V)} (x : Xc H0 F H p (.ins C dx fs)) (e : fs = fs') : Xc H0 F H p (.ins C dx fs') := e ▸ x
/-- the first field, a dict, as it is borrowed -/
theorem st_bw {κ : Type} [KeyT κ] {e : Rep α} {f : Rep β} {g : Rep γ} {z : List (κ × α) × β × γ} (r : (pO3 C a b c (pD e) f g).r F v z) (h : Ex F H) (h1 : (m == a) = false := by decide +kernel) (h2 : (m == b) = false := by decide +kernel) (h3 : (m == c) = false := by decide +kernel) :
    ∃ p dx fs d, v = .ref p ∧ H p = some (.ins C dx fs) ∧ fs.lookup a = some (.ref d) ∧ BD e F H d z.1 ∧ fs.lookup m = none := by
  obtain ⟨p, dx, fs, rfl, hp, u, w, y, rfl, r1, r2, r3⟩ := r
  obtain ⟨d, rfl, bd⟩ := D_bw r1 h
  exact ⟨p, dx, _, d, rfl, h _ _ hp, lk_eq, bd, (lk_ne h1).trans ((lk_ne h2).trans ((lk_ne h3).trans rfl))⟩
end
section
variable {κ α : Type} [KeyT κ] {e : Rep α} {σ : L2.St} {F0 H0 F H : Hp} {tk tv : TE} {Q : VK} {v : V} {j : κ} {x : α}
/-- {k: v} -/
theorem n_disp1 (hk : ∀ H, Val tk σ H (kV (KeyT.k j))) (hv : ∀ H, Val tv σ H v) (r : e.r F v x) (w : Wf F0 H0 F H) (k : ∀ p H', H p = none → Wf F H F H' → XD e H0 F H' p [(j, x)] → Q (.ref p) H') : tDisp [(tk, tv)] σ H Q := fun p hp => by
  refine hk _ _ (hv _ _ ⟨upd_same, [(KeyT.k j, v)], rfl, (show 1 ≤ 15 by decide), ?_⟩)
  rw [upd_upd]
  exact k p _ hp (Wf.newX w.f hp) ⟨[(KeyT.k j, v)], Xc.mk' w hp, rfl, r, trivial⟩
end
theorem m_list0 {α : Type} {e : Rep α} {K : PySem.W.Frag} {σ : L2.St} {H0 F H : Hp} {p : Addr} {xs : List α} {to : TE} {Q : VK} {r : V → List V → Hp → VK → Prop} (z : XL e H0 F H p xs) (ho : Val to σ H (.ref p)) (k : r (.ref p) [] H Q) : tBM0 K "list" r to σ H Q := ho _ ⟨let ⟨_, a, _⟩ := z.x; Or.inl ⟨rfl, _, Or.inl (Or.inl a.h)⟩, k⟩
end Wk

namespace Wk
open PySem L2
section
variable {K : PySem.W.Frag} {σ : L2.St} {F0 H0 F H H' : Hp} {ta to : TE} {Q : VK} {v : V} {xs : List Nat} {p q : Addr} {x : Nat}
theorem nats_eq {vs : List V} {F : Hp} (a : All pN F vs xs) : vs = (xs.map Int.ofNat).map V.int := a.nats
def maxT (xs : List Nat) : Nat := xs.foldl max 0
theorem maxT_aux : ∀ (xs : List Nat) (a : Nat), a ≤ xs.foldl max a ∧ (∀ y ∈ xs, y ≤ xs.foldl max a) ∧ (xs.foldl max a = a ∨ xs.foldl max a ∈ xs)
  | [], a => ⟨Nat.le_refl _, fun y h => (by cases h), .inl rfl⟩
  | x :: xs, a => by
    obtain ⟨h1, h2, h3⟩ := maxT_aux xs (max a x)
    refine ⟨Nat.le_trans (Nat.le_max_left a x) h1, fun y hy => ?_, ?_⟩
    · rcases List.mem_cons.mp hy with e | m
      · subst e; exact Nat.le_trans (Nat.le_max_right a y) h1
      · exact h2 y m
    · show xs.foldl max (max a x) = a ∨ xs.foldl max (max a x) ∈ x :: xs
      rcases h3 with e | m
      · rw [e]
        rcases Nat.le_total a x with o | o
        · rw [Nat.max_eq_right o]; exact .inr (List.mem_cons_self ..)
        · rw [Nat.max_eq_left o]; exact .inl rfl
      · exact .inr (List.mem_cons_of_mem _ m)
theorem maxT_le {y : Nat} (h : y ∈ xs) : y ≤ maxT xs := (maxT_aux xs 0).2.1 y h
theorem maxT_mem (h : 0 < xs.length) : maxT xs ∈ xs := by
  rcases (maxT_aux xs 0).2.2 with e | m
  · obtain ⟨y, hy⟩ : ∃ y, y ∈ xs := by cases xs with
      | nil => exact absurd h (Nat.lt_irrefl _)
      | cons y _ => exact ⟨y, List.mem_cons_self ..⟩
    have := maxT_le hy
    have e2 : maxT xs = 0 := e
    rw [e2] at this ⊢
    have : y = 0 := by omega
    subst this; exact hy
  · exact m
/-- max(xs) -/
theorem vn_max (r : (pL pN).r F v xs) (f : Ex F H) (hl : 0 < xs.length) (ha : Val ta σ H v) : Val (tCB (L2.rMax K) (tCons ta tNil)) σ H (.int ((maxT xs : Nat) : Int)) := by
  obtain ⟨p, vs, rfl, hp, a⟩ := L_rd r f
  rw [nats_eq a] at hp
  refine v_cb1 ha fun Q k => ⟨p, _, rfl, SqL.of hp, by rw [List.length_map]; exact hl, fun m hm hle => ?_⟩
  have : m = ((maxT xs : Nat) : Int) := by
    obtain ⟨n, hn, rfl⟩ := List.mem_map.mp hm
    have h1 := maxT_le hn
    have h2 := hle _ (List.mem_map.mpr ⟨_, maxT_mem hl, rfl⟩)
    simp only [Int.ofNat_eq_natCast] at h2 ⊢
    omega
  rw [this]; exact k
theorem vn_maxX (r : XL pN H0 F H p xs) (hl : 0 < xs.length) (ha : Val ta σ H (.ref p)) : Val (tCB (L2.rMax K) (tCons ta tNil)) σ H (.int ((maxT xs : Nat) : Int)) := by
  obtain ⟨vs, hp, a⟩ := r.rd
  rw [nats_eq a] at hp
  refine v_cb1 ha fun Q k => ⟨p, _, rfl, SqL.of hp, by rw [List.length_map]; exact hl, fun m hm hle => ?_⟩
  have : m = ((maxT xs : Nat) : Int) := by
    obtain ⟨n, hn, rfl⟩ := List.mem_map.mp hm
    have h1 := maxT_le hn
    have h2 := hle _ (List.mem_map.mpr ⟨_, maxT_mem hl, rfl⟩)
    simp only [Int.ofNat_eq_natCast] at h2 ⊢
    omega
  rw [this]; exact k
theorem sum_nats : ∀ xs : List Nat, (xs.map Int.ofNat).sum = ((xs.sum : Nat) : Int)
  | [] => rfl
  | x :: xs => by rw [List.map_cons, List.sum_cons, List.sum_cons, sum_nats xs]; simp
/-- sum(xs) -/
theorem vn_sum (r : (pL pN).r F v xs) (f : Ex F H) (ha : Val ta σ H v) : Val (tCB (L2.rSum K) (tCons ta tNil)) σ H (.int ((xs.sum : Nat) : Int)) := by
  obtain ⟨p, vs, rfl, hp, a⟩ := L_rd r f
  rw [nats_eq a] at hp
  exact v_cb1 ha fun Q k => ⟨p, _, rfl, SqL.of hp, by rw [sum_nats]; exact k⟩
theorem vn_sumX (r : XL pN H0 F H p xs) (ha : Val ta σ H (.ref p)) : Val (tCB (L2.rSum K) (tCons ta tNil)) σ H (.int ((xs.sum : Nat) : Int)) := by
  obtain ⟨vs, hp, a⟩ := r.rd
  rw [nats_eq a] at hp
  exact v_cb1 ha fun Q k => ⟨p, _, rfl, SqL.of hp, by rw [sum_nats]; exact k⟩
/-- xs.remove(x) -/
theorem first_of {x : Nat} : ∀ {xs : List Nat}, x ∈ xs → ∃ j, xs[j]? = some x ∧ (∀ m, m < j → xs[m]? ≠ some x) ∧ xs.eraseIdx j = xs.erase x
  | [], h => by cases h
  | y :: xs, h => by
    by_cases e : y = x
    · subst e
      exact ⟨0, rfl, fun m hm => absurd hm (Nat.not_lt_zero _), by simp⟩
    · obtain ⟨j, h1, h2, h3⟩ := first_of (xs := xs) ((List.mem_cons.mp h).resolve_left fun z => e z.symm)
      refine ⟨j + 1, by simpa using h1, fun m hm => ?_, ?_⟩
      · cases m with
        | zero => simpa using e
        | succ m => simpa using h2 m (by omega)
      · rw [List.eraseIdx_cons_succ, h3, List.erase_cons_tail (by simpa using e)]
theorem erase_map {α β : Type} (f : α → β) : ∀ (xs : List α) (j : Nat), (xs.map f).eraseIdx j = (xs.eraseIdx j).map f
  | [], _ => rfl
  | _ :: _, 0 => rfl
  | x :: xs, j + 1 => by rw [List.map_cons, List.eraseIdx_cons_succ, List.eraseIdx_cons_succ, List.map_cons, erase_map f xs j]
theorem a_rem (z : XL pN H0 F H p xs) (w : Wf F0 H0 F H) (hx : x ∈ xs) (k : ∀ H', Wf F0 H0 F H' → XL pN H0 F H' p (xs.erase x) → (∀ q o, H q = some o → q ≠ p → H' q = some o) → Q .non H') : L2.rRemI (.ref p) [.int (x : Int)] H Q := by
  obtain ⟨vs, a, b⟩ := z.x
  have e := nats_eq b
  obtain ⟨j, h1, h2, h3⟩ := first_of hx
  have hh := a.h
  rw [e] at hh
  refine ⟨p, _, _, j, rfl, rfl, hh, by rw [List.getElem?_map, h1]; rfl, fun m hm z => h2 m hm ?_, ?_⟩
  · rw [List.getElem?_map] at z
    cases q : xs[m]? with
    | none => rw [q] at z; cases z
    | some y =>
      rw [q] at z
      have : Int.ofNat y = (x : Int) := Option.some.inj z
      have : y = x := by simp only [Int.ofNat_eq_natCast] at this; omega
      rw [this]
  · refine k _ (w.set a) ⟨_, a.set, ?_⟩ fun q o h hq => by rw [upd_ne hq]; exact h
    have e4 : ((xs.map Int.ofNat).eraseIdx j).map V.int = ((xs.erase x).map Int.ofNat).map V.int := by
      rw [← h3, erase_map]
    rw [e4]
    have go : ∀ ys : List Nat, All pN F ((ys.map Int.ofNat).map V.int) ys := by
      intro ys
      induction ys with
      | nil => trivial
      | cons y ys ih => exact ⟨rfl, ih⟩
    exact go _
/-- sorted(d), the keys numbers -/
def rSortedDI : List V → Hp → VK → Prop := fun xs H Q => ∃ (a : Addr) (kvs : List (Key × V)) (ks : List Int), xs = [.ref a] ∧ Rd H a (.dK kvs) ∧ kvs.map (·.1) = ks.map Sum.inl ∧ ks.length < 64 ∧ ∀ (ys : List Int) (p : Addr), ys.Perm ks → ys.Pairwise (· ≤ ·) → H p = none → Q (.ref p) (upd H p (.lst (ys.map V.int)))
theorem DA.nkeys {α : Type} {e : Rep α} {F : Hp} : ∀ {kvs : List (Key × V)} {m : List (Nat × α)}, DA e F kvs m → kvs.map (·.1) = ((m.map (·.1)).map Int.ofNat).map Sum.inl
  | [], [], _ => rfl
  | p :: r, q :: s, ⟨a, _, c⟩ => by rw [List.map_cons, List.map_cons, List.map_cons, List.map_cons, DA.nkeys c, a]; rfl
  | [], _ :: _, q => q.elim
  | _ :: _, [], q => q.elim
theorem n_sortD {α : Type} {e : Rep α} {m : List (Nat × α)} (r : (pD e).r F v m) (w : Wf F0 H0 F H) (hl : m.length < 64) (k : ∀ (ys : List Nat) p H', ys.Perm (m.map (·.1)) → ys.Pairwise (· ≤ ·) → H p = none → Wf F H F H' → XL pN H0 F H' p ys → Q (.ref p) H') : rSortedDI [v] H Q := by
  obtain ⟨p, kvs, rfl, hp, a⟩ := r
  refine ⟨p, kvs, (m.map (·.1)).map Int.ofNat, rfl, .inl (w.f _ _ hp), a.nkeys, by rw [List.length_map, List.length_map]; exact hl, fun ys q hperm hs hq => ?_⟩
  have e1 : ys = (ys.map Int.toNat).map Int.ofNat := by
    rw [List.map_map]
    have : ys.map (Int.ofNat ∘ Int.toNat) = ys.map id := List.map_congr_left fun y hy => by
      obtain ⟨n, _, rfl⟩ := List.mem_map.mp (hperm.mem_iff.mp hy)
      rfl
    rw [this, List.map_id]
  have e2 : (ys.map Int.toNat).Perm (m.map (·.1)) := by
    have := hperm.map Int.toNat
    rw [List.map_map (l := m.map (·.1))] at this
    have z : (m.map (·.1)).map (Int.toNat ∘ Int.ofNat) = (m.map (·.1)).map id := List.map_congr_left fun y _ => rfl
    rw [z, List.map_id] at this
    exact this
  have e3 : (ys.map Int.toNat).Pairwise (· ≤ ·) := List.pairwise_map.mpr (hs.imp fun h => Int.toNat_le_toNat h)
  have go : ∀ zs : List Nat, All pN F ((zs.map Int.ofNat).map V.int) zs := by
    intro zs
    induction zs with
    | nil => trivial
    | cons y zs ih => exact ⟨rfl, ih⟩
  have a2 := go (ys.map Int.toNat)
  rw [← e1] at a2
  exact k _ q _ e2 e3 hq (Wf.newX w.f hq) ⟨_, Xc.mk' w hq, a2⟩
end
end Wk

namespace Wk
open PySem L2
/-- one of two kinds -/
def pAlt {α β : Type} (e : Rep α) (f : Rep β) : Rep (Sum α β) := ⟨fun F v x => match x with | .inl a => e.r F v a | .inr b => f.r F v b, fun {_ _ _ x} h q => by cases x with | inl a => exact e.mono h q | inr b => exact f.mono h q⟩
theorem alt_n {α : Type} {e : Rep α} {F : Hp} {v : V} {x : Sum α Nat} {y : Nat} (r : (pAlt e pN).r F v x) (h : x = Sum.inr y) : v = .int ((y : Nat) : Int) := by subst h; exact r
theorem alt_l {α β : Type} {e : Rep α} {f : Rep β} {F : Hp} {v : V} {x : Sum α β} {y : α} (r : (pAlt e f).r F v x) (h : x = Sum.inl y) : e.r F v y := by subst h; exact r
def rLenD : List V → Hp → VK → Prop := fun xs H Q => ∃ (p : Addr) (kvs : List (Key × V)), xs = [.ref p] ∧ H p = some (.dK kvs) ∧ Q (.int kvs.length) H
theorem len_D {κ α : Type} [DecidableEq κ] [KeyT κ] {e : Rep α} {F H : Hp} {v : V} {m : List (κ × α)} {σ : L2.St} {ta : TE} (r : (pD e).r F v m) (f : Ex F H) (ha : Val ta σ H v) : Val (tCB rLenD (tCons ta tNil)) σ H (.int ((m.length : Nat) : Int)) := by
  obtain ⟨p, kvs, rfl, hp, a⟩ := D_rd r f
  exact v_cb1 ha fun Q k => ⟨p, kvs, rfl, hp, by rw [a.len]; exact k⟩
end Wk
/-! SrtD: sorted(d) of a dict whose keys are numbers, however many (after the rule for fewer than 64, with the sort of SortInts). -/
namespace Wk
open PySem PySem.Spec PyProof.Rows L2
/-- sorted(d), any number of keys -/
def rSortedDX : List V → Hp → VK → Prop := fun xs H Q => ∃ (a : Addr) (kvs : List (Key × V)) (ks : List Int), xs = [.ref a] ∧ Rd H a (.dK kvs) ∧ kvs.map (·.1) = ks.map Sum.inl ∧ ks.length < 1000000 ∧ ∀ (ys : List Int) (p : Addr), ys.Perm ks → ys.Pairwise (· ≤ ·) → H p = none → Q (.ref p) (upd H p (.lst (ys.map V.int)))
section
variable {X : Cx}
theorem call_sortedDX (hcalm : X.calm = true) : CallR X (.builtin "sorted") rSortedDX := by
  intro pins s σ H xs us Q Iv rr qq
  obtain ⟨da, kvs, ks, ex, hd, hks, hbig, qq⟩ := qq
  subst ex
  obtain ⟨u1, eu, rx⟩ := vals1 rr
  subst eu
  cases rx
  obtain ⟨zz, lo, vs, rel, dd⟩ := dk_rd Iv.hok hd
  obtain ⟨ep, hat⟩ := dd.dictAt
  have hks2 : vs.map (·.1) = ks.map Sum.inl := rel.keys.symm.trans hks
  have hln : vs.length = ks.length := by
    have el := congrArg List.length hks2
    rw [List.length_map, List.length_map] at el; exact el
  have hsz : ks.length ≤ sizeLine := by rw [sizeLine_eq]; omega
  refine Calls.call_function_entry kind_sorted plain_sorted entry_sorted (args_sorted1 _) ?_
  unfold Builtin.«sorted»
  refine wpAny_bind (m := checkCount "sorted" 1 1 _) (wpAny_pure ?_)
  refine wpAny_bind (PySem.W.kdu_collect (A := X.A.in1) (PySem.W.kdl_dict (knd := mixKind X.prog X.w) (kvs := vs) (ep := ep) lo) (Iv.ok.hd hcalm) hat (by rw [hln]; exact hsz) fun hp2 tk2 ac hkp hac => ?_)
  have hal2 : ac.toList.length = ks.length := by rw [Array.length_toList, hac.1, hln]
  have hInt : IntsAre ac.toList ks := ints_each hal2 fun j v e => by
    obtain ⟨key, x, e1, e2⟩ := hac.2 j v (by rw [← Array.getElem?_toList]; exact e)
    have e3 : (vs.map (·.1))[j]? = some key := by rw [List.getElem?_map, e1]; rfl
    rw [hks2, List.getElem?_map] at e3
    cases e4 : ks[j]? with
    | none => rw [e4] at e3; cases e3
    | some y =>
      rw [e4] at e3
      have e5 : Sum.inl y = key := Option.some.inj e3
      subst e5
      rcases keyIs_shape (show keyIs (Sum.inl y) v = true from e2) with ⟨i, t, ek, ev⟩ | ⟨z, t, ek, ev⟩
      · cases ek; exact ⟨y, t, rfl, ev⟩
      · cases ek
  have Iv2 : Inv X pins σ H { s with heap := hp2, toks := tk2 } := Iv.kept hkp
  refine wpAny_bind (wpAny_newList ?_ (by rw [hal2]; exact hsz))
  have hob2 : (hp2.push (seqObj "list" ac.toList.toArray 0)).get? hp2.objs.size = some (seqObj "list" ac.toList.toArray 0) := Heap.get?_push_size _ rfl
  show wpAny _ _ _ _ _ { s with heap := hp2.push (seqObj "list" ac.toList.toArray 0), toks := tk2 }
  refine wpAny_bind (wpAny_holding (wpAny_call_entry slot_list_sort ⟨_, hob2, rfl⟩ entry_list_sort
    (SrtO.list_sort_ord (s := { s with heap := hp2.push (seqObj "list" ac.toList.toArray 0), toks := tk2 }) SrtO.swo_int hob2 (by rw [hal2]; exact hsz) (fun h2 => SrtO.ints_sortable hInt h2) fun out g1 g2 => ⟨_, rfl, ?_⟩) (args_list_sort _)))
  obtain ⟨k1, k2, k3⟩ := SrtO.ints_out hInt g1 g2
  obtain ⟨ep2, hep2⟩ := sortedHeap_at (vs := ac.toList) (out := out.toArray) hob2
  have hlen2 : ((out.map SrtO.iv).map V.int).length ≤ sizeLine := by rw [List.length_map, k2.length_eq]; exact hsz
  refine wpAny_pure ⟨_, rfl, .ref hp2.objs.size, upd H hp2.objs.size (.lst ((out.map SrtO.iv).map V.int)), Iv2.laid (t' := tk2) (fun b u e => ?_) (Nat.le_refl _)
    (show ObjOk X.prog X.w _ _ _ (.lst ((out.map SrtO.iv).map V.int)) from ⟨hlen2, out, ep2, vals_of_ints k1, hep2⟩), rfl, qq _ _ k2 k3 (Iv2.hok.fresh (Nat.le_refl _))⟩
  have hbl : b < hp2.objs.size := Heap.lt_size e
  rw [sortedHeap_old (Nat.ne_of_lt hbl) (by rw [size_push']; exact Nat.lt_succ_of_lt hbl)]
  exact Heap.get?_push_of_some _ e
end
section
variable {K : PySem.W.Frag} {F0 H0 F H H' : Hp} {Q : VK} {v : V}
theorem n_sortDX {α : Type} {e : Rep α} {m : List (Nat × α)} (r : (pD e).r F v m) (w : Wf F0 H0 F H) (hl : m.length < 1000000) (k : ∀ (ys : List Nat) p H', ys.Perm (m.map (·.1)) → ys.Pairwise (· ≤ ·) → H p = none → Wf F H F H' → XL pN H0 F H' p ys → Q (.ref p) H') : rSortedDX [v] H Q := by
  obtain ⟨p, kvs, rfl, hp, a⟩ := r
  refine ⟨p, kvs, (m.map (·.1)).map Int.ofNat, rfl, .inl (w.f _ _ hp), a.nkeys, by rw [List.length_map, List.length_map]; exact hl, fun ys q hperm hs hq => ?_⟩
  have e1 : ys = (ys.map Int.toNat).map Int.ofNat := by
    rw [List.map_map]
    have : ys.map (Int.ofNat ∘ Int.toNat) = ys.map id := List.map_congr_left fun y hy => by
      obtain ⟨n, _, rfl⟩ := List.mem_map.mp (hperm.mem_iff.mp hy)
      rfl
    rw [this, List.map_id]
  have e2 : (ys.map Int.toNat).Perm (m.map (·.1)) := by
    have := hperm.map Int.toNat
    rw [List.map_map (l := m.map (·.1))] at this
    have z : (m.map (·.1)).map (Int.toNat ∘ Int.ofNat) = (m.map (·.1)).map id := List.map_congr_left fun y _ => rfl
    rw [z, List.map_id] at this
    exact this
  have e3 : (ys.map Int.toNat).Pairwise (· ≤ ·) := List.pairwise_map.mpr (hs.imp fun h => Int.toNat_le_toNat h)
  have go : ∀ zs : List Nat, All pN F ((zs.map Int.ofNat).map V.int) zs := by
    intro zs
    induction zs with
    | nil => trivial
    | cons y zs ih => exact ⟨rfl, ih⟩
  have a2 := go (ys.map Int.toNat)
  rw [← e1] at a2
  exact k _ q _ e2 e3 hq (Wf.newX w.f hq) ⟨_, Xc.mk' w hq, a2⟩
end
end Wk
/-! Xn: defs that may raise; try. -/
namespace Wk
open PySem L2
def tTry (K : PySem.W.Frag) (c : Value) (tb : WX → TS) (ts : Addr → Value → Option Addr → TS) (Wout : WX) : TS := fun D σ H => tb (wOnly K c ts Wout D) D σ H
theorem a_tryI {K : PySem.W.Frag} {c : Value} {tb : WX → TS} {ts : Addr → Value → Option Addr → TS} {Wout : WX} {D : Ends} {σ : L2.St} {H : Hp} (h : tb (wOnly K c ts Wout D) D σ H) : tTry K c tb ts Wout D σ H := h
theorem a_exc {K : PySem.W.Frag} {c cls : Value} {d : Option Addr} {ts : Addr → Value → Option Addr → TS} {Wout : WX} {D : Ends} {σ : L2.St} {H : Hp} (he : PySem.W.exmOne K cls c = some true) (h : ∀ a, H a = none → ts a cls d D σ H) : wOnly K c ts Wout D cls d σ H :=
  ⟨true, he, fun _ => h, fun q => Bool.noConfusion q⟩
theorem a_excO {K : PySem.W.Frag} {c cls : Value} {d : Option Addr} {ts : Addr → Value → Option Addr → TS} {Wout : WX} {D : Ends} {σ : L2.St} {H : Hp} (he : PySem.W.exmOne K cls c = some false) (h : Wout cls d σ H) : wOnly K c ts Wout D cls d σ H :=
  ⟨false, he, fun q => Bool.noConfusion q, fun _ => h⟩
/-- raise, in short -/
def tRaise (W : WX) (C : Addr) : TS := fun _ σ H => W (.ref C) none σ H
theorem e_callS {sp : Sp} {E : L2.St → XK} {tA : TA} {σ : L2.St} {H : Hp} {Q : VK} (h : tA σ H fun vs H1 => sp vs H1 Q (E σ)) : tCallS sp E tA σ H Q := h
/-- what the walk asks of an exception's class -/
structure XC (K : PySem.W.Frag) (mg : Str → Option Value) (n : Str) (C : Addr) : Prop where
  x : PySem.W.excIn K C [.type "ValueError", .type "Exception", .type "BaseException", .type "object"] "ValueError.__new__" = true
  g : mg n = some (.ref C)
  k : PySem.W.keepIn K (.ref C) = true
  b : PySem.W.subIn K (.ref C) (.type "BaseException") = some true
  t : PySem.W.typeIn K (.ref C) = some (.type "type")
theorem exm_of {K : PySem.W.Frag} {S T : Addr} {b : Bool} (h1 : PySem.W.subIn K (.ref T) (.type "BaseException") = some true) (h2 : PySem.W.isClsIn K T = true) (h3 : PySem.W.typeIn K (.ref T) = some (.type "type")) (h4 : PySem.W.subIn K (.ref S) (.ref T) = some b) :
    PySem.W.exmOne K (.ref S) (.ref T) = some b := by
  have e1 : (PySem.W.subIn K (.ref T) (.type "BaseException") == some true) = true := by rw [h1]; rfl
  have e2 : ((PySem.W.clsIn K T).isSome && PySem.W.typeIn K (.ref T) == some (.type "type")) = true := by
    have h2' : (PySem.W.clsIn K T).isSome = true := h2
    rw [h2', h3]; rfl
  show (if (PySem.W.subIn K (.ref T) (.type "BaseException") == some true) = true then (if ((PySem.W.clsIn K T).isSome && PySem.W.typeIn K (.ref T) == some (.type "type")) = true then PySem.W.subIn K (.ref S) (.ref T) else none) else none) = some b
  rw [if_pos e1, if_pos e2]; exact h4
section
variable {X : Cx} {k : Nat} {C : Addr} {x m : Str} {ps : List Str} {sp : Sp} {W : WX} {o e : Expr} {es : List Expr} {p pos apos : Pos} {ta : TE} {t : TA} {pl : Sem Bool}
theorem pe_fnL (F : Fn X.prog X.w X.K X.mg X.base (L2.CX X.prog X.w) k x ps sp) (hr : Room k X.A) (hg : Gl X x) (ha : PA X (e :: es) t) (hdb : (x == ("__debug__" : Str)) = false := by decide)
    (he : starEach (e :: es) X.env = (false, eval e X.env) :: starEach es X.env := by rfl) (hpl : (backTo pos (starEach es X.env)).any (·.1) = false := by rfl) : PE X (.Call (.Name x p) (e :: es) [] pos) (tCall sp [] E0 t) := by
  obtain ⟨f, fd, F, hm, hk, hb⟩ := F.ex
  exact pe_call F hr hg hm hk hb .nil passL ha hdb he hpl
theorem pe_fnS (F : Fn X.prog X.w X.K X.mg X.base (L2.CX X.prog X.w) k x ps sp) (tk : Takes X W) (hr : Room k X.A) (hg : Gl X x) (ha : PA X (e :: es) t) (hdb : (x == ("__debug__" : Str)) = false := by decide)
    (he : starEach (e :: es) X.env = (false, eval e X.env) :: starEach es X.env := by rfl) (hpl : (backTo pos (starEach es X.env)).any (·.1) = false := by rfl) : PE X (.Call (.Name x p) (e :: es) [] pos) (tCallS sp (WE W) t) := by
  obtain ⟨f, fd, F, hm, hk, hb⟩ := F.ex
  exact pe_callS F hr hg hm hk hb (fun σ => passAt tk σ) ha hdb he hpl
/-- methods -/
theorem pe_mdL (M : Md X.prog X.w X.K X.mg X.base (L2.CX X.prog X.w) k C m ps sp) (cl : Cls X.K C) (hr : Room k X.A) (he : PE X o ta) (ha : PA X (e :: es) t)
    (hst : starEach (e :: es) X.env = (false, eval e X.env) :: starEach es X.env := by rfl) (hpl : (backTo pos (starEach es X.env)).any (·.1) = false := by rfl)
    (ht : eval (.Call (.Attribute o m apos) (e :: es) [] pos) X.env = (do
      let ov ← eval o X.env
      standAt apos.atName
      let (f, first) ← holding [ov] (getMethod ov m pl)
      callWith pos f first (backTo pos (starEach (e :: es) X.env)) (backToKw pos (keywordEach [] X.env))) := by rfl) :
    PE X (.Call (.Attribute o m apos) (e :: es) [] pos) (tMeth C m sp [] E0 ta t) := by
  obtain ⟨f, fd, F, hm, hb⟩ := M.ex
  exact pe_meth he cl hm F hr hb .nil passL ha hst hpl ht
def tMdS (C : Addr) (m : Str) (sp : Sp) (E : L2.St → XK) (ta : TE) (t : TA) : TE := fun σ H Q => ta σ H fun x H1 => ∃ a dx fs, x = .ref a ∧ H1 a = some (.ins C dx fs) ∧ fs.lookup m = none ∧ t σ H1 fun vs H2 => sp (x :: vs) H2 Q (E σ)
theorem e_mdS {E : L2.St → XK} {σ : L2.St} {H : Hp} {Q : VK} (h : ta σ H fun x H1 => ∃ a dx fs, x = .ref a ∧ H1 a = some (.ins C dx fs) ∧ fs.lookup m = none ∧ t σ H1 fun vs H2 => sp (x :: vs) H2 Q (E σ)) : tMdS C m sp E ta t σ H Q := h
theorem pe_mdS (M : Md X.prog X.w X.K X.mg X.base (L2.CX X.prog X.w) k C m ps sp) (tk : Takes X W) (cl : Cls X.K C) (hr : Room k X.A) (he : PE X o ta) (ha : PA X (e :: es) t)
    (hst : starEach (e :: es) X.env = (false, eval e X.env) :: starEach es X.env := by rfl) (hpl : (backTo pos (starEach es X.env)).any (·.1) = false := by rfl)
    (ht : eval (.Call (.Attribute o m apos) (e :: es) [] pos) X.env = (do
      let ov ← eval o X.env
      standAt apos.atName
      let (f, first) ← holding [ov] (getMethod ov m pl)
      callWith pos f first (backTo pos (starEach (e :: es) X.env)) (backToKw pos (keywordEach [] X.env))) := by rfl) :
    PE X (.Call (.Attribute o m apos) (e :: es) [] pos) (tMdS C m sp (WE W) ta t) := by
  obtain ⟨f, fd, F, hm, hb⟩ := M.ex
  refine ⟨fun pins s σ H Q Iv hh => ?_⟩
  refine PySem.W.methodCall_KW (pl := pl) (thn (he.run pins s σ H _ Iv hh) fun u s1 ⟨x, H1, Iv1, rx, a, dx, fs, ex, ea, lk, qq⟩ => ?_) ht
  subst ex
  obtain rfl : u = Value.ref a := rx
  refine getmeth_ok Iv1 ea cl hm lk ?_
  refine PySem.W.callWith_K (first := [.ref a]) (h₀ := X.base) Iv1.ok.mod.kin hm.kp (thn (ha.run pos pins s1 σ H1 _ Iv1 qq) fun us s2 ⟨vs, H2, Iv2, rv, q2⟩ => ⟨Iv2.kIn, ?_⟩) hst hpl
  exact run_fnS (us := .ref a :: us) (vs := .ref a :: vs) F hr hb (passAt tk σ) Iv2 (.cons rfl rv) q2
end
theorem a_par {i j : Nat} {tA : TA} {D : Ends} {σ : L2.St} {H : Hp} (h : tA σ H fun vs H1 => ∃ v w, vs = [v, w] ∧ D.nx ((σ.set i (some v)).set j (some w)) H1) : tPar i j tA D σ H := h
theorem a_raise {W : WX} {C : Addr} {D : Ends} {σ : L2.St} {H : Hp} (h : W (.ref C) none σ H) : tRaise W C D σ H := h
end Wk
/-! An: things of any kind; constants of the module. -/
namespace Wk
open PySem L2
/-- a thing: a whole number, a truth, None, a text, or another one of a kind that is told -/
inductive An where
  | i (n : Int)
  | b (b : Bool)
  | n
  | s (x : Str)
  | o (T : String)
  | l (xs : List An)
  | t (xs : List An)
mutual
def anR (F : Hp) : An → V → Prop
  | .i n, v => v = .int n
  | .b b, v => v = .bl b
  | .n, v => v = .non
  | .s x, v => v = .str x
  | .o T, v => ∃ p, v = .ref p ∧ ((T = "list" ∧ ∃ vs, F p = some (.lst vs)) ∨ (T = "tuple" ∧ ∃ vs, F p = some (.tup vs)) ∨ (T = "dict" ∧ ∃ kvs, F p = some (.dK kvs)))
  | .l xs, v => ∃ p vs, v = .ref p ∧ F p = some (.lst vs) ∧ anRs F xs vs
  | .t xs, v => ∃ p vs, v = .ref p ∧ F p = some (.tup vs) ∧ anRs F xs vs
def anRs (F : Hp) : List An → List V → Prop
  | [], [] => True
  | x :: xs, v :: vs => anR F x v ∧ anRs F xs vs
  | _, _ => False
end
mutual
theorem anR_mono {F F' : Hp} (h : Ex F F') : ∀ {x : An} {v : V}, anR F x v → anR F' x v
  | .i _, _, r => r
  | .b _, _, r => r
  | .n, _, r => r
  | .s _, _, r => r
  | .o T, v, r => by
    obtain ⟨p, e, q⟩ := (show ∃ p, v = .ref p ∧ _ from r)
    refine ⟨p, e, ?_⟩
    rcases q with ⟨t, vs, q⟩ | ⟨t, vs, q⟩ | ⟨t, vs, q⟩
    · exact .inl ⟨t, vs, h _ _ q⟩
    · exact .inr (.inl ⟨t, vs, h _ _ q⟩)
    · exact .inr (.inr ⟨t, vs, h _ _ q⟩)
  | .l _, _, ⟨p, vs, a, b, c⟩ => ⟨p, vs, a, h _ _ b, anRs_mono h c⟩
  | .t _, _, ⟨p, vs, a, b, c⟩ => ⟨p, vs, a, h _ _ b, anRs_mono h c⟩
theorem anRs_mono {F F' : Hp} (h : Ex F F') : ∀ {xs : List An} {vs : List V}, anRs F xs vs → anRs F' xs vs
  | [], [], _ => trivial
  | _ :: _, _ :: _, ⟨a, b⟩ => ⟨anR_mono h a, anRs_mono h b⟩
  | [], _ :: _, r => r.elim
  | _ :: _, [], r => r.elim
end
def pA : Rep An := ⟨fun F v x => anR F x v, fun h r => anR_mono h r⟩
theorem anRs_all {F : Hp} : ∀ {xs : List An} {vs : List V}, anRs F xs vs ↔ All pA F vs xs
  | [], [] => Iff.rfl
  | x :: xs, v :: vs => ⟨fun ⟨a, b⟩ => ⟨a, anRs_all.mp b⟩, fun ⟨a, b⟩ => ⟨a, anRs_all.mpr b⟩⟩
  | [], _ :: _ => ⟨fun q => q.elim, fun q => q.elim⟩
  | _ :: _, [] => ⟨fun q => q.elim, fun q => q.elim⟩
theorem an_l {F : Hp} {v : V} {xs : List An} : pA.r F v (.l xs) ↔ (pL pA).r F v xs :=
  ⟨fun r => let ⟨p, vs, a, b, c⟩ := (show ∃ p vs, v = .ref p ∧ F p = some (.lst vs) ∧ anRs F xs vs from r); ⟨p, vs, a, b, anRs_all.mp c⟩, fun ⟨p, vs, a, b, c⟩ => (show ∃ p vs, v = .ref p ∧ F p = some (.lst vs) ∧ anRs F xs vs from ⟨p, vs, a, b, anRs_all.mpr c⟩)⟩
theorem an_t {F : Hp} {v : V} {xs : List An} : pA.r F v (.t xs) ↔ (pTL pA).r F v xs :=
  ⟨fun r => let ⟨p, vs, a, b, c⟩ := (show ∃ p vs, v = .ref p ∧ F p = some (.tup vs) ∧ anRs F xs vs from r); ⟨p, vs, a, b, anRs_all.mp c⟩, fun ⟨p, vs, a, b, c⟩ => (show ∃ p vs, v = .ref p ∧ F p = some (.tup vs) ∧ anRs F xs vs from ⟨p, vs, a, b, anRs_all.mpr c⟩)⟩
/-- readings as things of any kind -/
def Cv {α : Type} (e : Rep α) (f : α → An) : Prop := ∀ {F : Hp} {v : V} {x : α}, e.r F v x → pA.r F v (f x)
theorem cv_nat : Cv pN (fun n => .i (n : Int)) := fun r => r
theorem cv_int : Cv pI .i := fun r => r
theorem cv_bool : Cv pB .b := fun r => r
theorem cv_str : Cv pS .s := fun r => r
theorem cv_any : Cv pA (fun x => x) := fun r => r
theorem cv_unit : Cv pU (fun _ => .n) := fun r => r
theorem cv_all {α : Type} {e : Rep α} {f : α → An} (h : Cv e f) {F : Hp} : ∀ {vs : List V} {xs : List α}, All e F vs xs → All pA F vs (xs.map f)
  | [], [], _ => trivial
  | _ :: _, _ :: _, ⟨a, b⟩ => ⟨h a, cv_all h b⟩
  | [], _ :: _, q => q.elim
  | _ :: _, [], q => q.elim
theorem cv_L {α : Type} {e : Rep α} {f : α → An} (h : Cv e f) : Cv (pL e) (fun xs => .l (xs.map f)) := fun ⟨p, vs, a, b, c⟩ => an_l.mpr ⟨p, vs, a, b, cv_all h c⟩
theorem cv_TL {α : Type} {e : Rep α} {f : α → An} (h : Cv e f) : Cv (pTL e) (fun xs => .t (xs.map f)) := fun ⟨p, vs, a, b, c⟩ => an_t.mpr ⟨p, vs, a, b, cv_all h c⟩
theorem cv_T2 {α β : Type} {e : Rep α} {g : Rep β} {f : α → An} {k : β → An} (h : Cv e f) (h2 : Cv g k) : Cv (pT2 e g) (fun x => .t [f x.1, k x.2]) := fun ⟨p, u, w, a, b, c, d⟩ => an_t.mpr ⟨p, _, a, b, h c, h2 d, trivial⟩
theorem cv_T3 {α β γ : Type} {e : Rep α} {g : Rep β} {g2 : Rep γ} {f : α → An} {k : β → An} {k2 : γ → An} (h : Cv e f) (h2 : Cv g k) (h3 : Cv g2 k2) : Cv (pT3 e g g2) (fun x => .t [f x.1, k x.2.1, k2 x.2.2]) := fun ⟨p, u, w, y, a, b, c, d, q⟩ => an_t.mpr ⟨p, _, a, b, h c, h2 d, h3 q, trivial⟩
def An.ty : An → String
  | .i _ => "int"
  | .b _ => "bool"
  | .n => "NoneType"
  | .s _ => "str"
  | .o T => T
  | .l _ => "list"
  | .t _ => "tuple"
/-- isinstance(x, T) for a built-in T -/
def isA (T : String) (x : An) : Bool := x.ty == T || (T == "int" && x.ty == "bool")
section
variable {α β : Type} {e : Rep α} {f : Rep β} {K : PySem.W.Frag} {σ : L2.St} {F F' H : Hp} {ta : TE} {v : V} {x : An} {xs : List α} {y : α × β}
theorem an_L (r : (pL e).r F v xs) : pA.r F v (.o "list") := let ⟨p, vs, a, b, _⟩ := r; (show ∃ p, v = .ref p ∧ _ from ⟨p, a, .inl ⟨rfl, vs, b⟩⟩)
theorem an_TL (r : (pTL e).r F v xs) : pA.r F v (.o "tuple") := let ⟨p, vs, a, b, _⟩ := r; (show ∃ p, v = .ref p ∧ _ from ⟨p, a, .inr (.inl ⟨rfl, vs, b⟩)⟩)
theorem an_T2 (r : (pT2 e f).r F v y) : pA.r F v (.o "tuple") := let ⟨p, u, w, a, b, _⟩ := r; (show ∃ p, v = .ref p ∧ _ from ⟨p, a, .inr (.inl ⟨rfl, _, b⟩)⟩)
theorem an_ty (r : pA.r F v x) (h : Ex F H) : TyX K H v (.type x.ty) := by
  cases x with
  | i n => cases (show v = V.int n from r); exact .base (.int _)
  | b b => cases (show v = V.bl b from r); exact .base (.bl _)
  | n => cases (show v = V.non from r); exact .base .non
  | s x => cases (show v = V.str x from r); exact .base (.str _)
  | o T =>
    obtain ⟨p, rfl, q⟩ := (show ∃ p, v = .ref p ∧ _ from r)
    rcases q with ⟨rfl, vs, q⟩ | ⟨rfl, vs, q⟩ | ⟨rfl, vs, q⟩
    · exact .base (.lst (h _ _ q))
    · exact .base (.tup (h _ _ q))
    · exact .base (.dK (h _ _ q))
  | l xs =>
    obtain ⟨p, vs, rfl, q, _⟩ := an_l.mp r
    exact .base (.lst (h _ _ q))
  | t xs =>
    obtain ⟨p, vs, rfl, q, _⟩ := an_t.mp r
    exact .base (.tup (h _ _ q))
/-- the classes that are asked for -/
def okT (T : String) : Bool := ["int", "bool", "str", "list", "tuple", "dict"].all fun t => ["int", "bool", "NoneType", "str", "list", "tuple", "dict"].all fun u => kitB u T == some (u == T || (T == "int" && u == "bool"))
theorem kit_isA (T : String) (r : pA.r F v x) (hT : ∀ u ∈ ["int", "bool", "NoneType", "str", "list", "tuple", "dict"], kitB u T = some (u == T || (T == "int" && u == "bool"))) : kitB x.ty T = some (isA T x) := by
  unfold isA
  cases x with
  | i n => exact hT "int" (by simp)
  | b b => exact hT "bool" (by simp)
  | n => exact hT "NoneType" (by simp)
  | s x => exact hT "str" (by simp)
  | o T' =>
    obtain ⟨p, _, q⟩ := (show ∃ p, v = .ref p ∧ _ from r)
    rcases q with ⟨e, _⟩ | ⟨e, _⟩ | ⟨e, _⟩ <;> subst e
    · exact hT "list" (by simp)
    · exact hT "tuple" (by simp)
    · exact hT "dict" (by simp)
  | l xs => exact hT "list" (by simp)
  | t xs => exact hT "tuple" (by simp)
theorem v_isiA (T : String) (ha : Val ta σ H v) (r : pA.r F v x) (h : Ex F H) (hT : ∀ u ∈ ["int", "bool", "NoneType", "str", "list", "tuple", "dict"], kitB u T = some (u == T || (T == "int" && u == "bool")) := by decide +kernel) : Val (tCB (rIsi K) (tCons ta (tCons (tC (.ty T)) tNil))) σ H (.bl (isA T x)) :=
  v_isi ha (an_ty r h) (kit_isA T r hT)
theorem an_i {n : Int} (r : pA.r F v x) (h : x = An.i n) : v = .int n := by subst h; exact r
theorem an_toL {ys : List An} (r : pA.r F v x) (h : x = An.l ys) : (pL pA).r F v ys := by subst h; exact an_l.mp r
end
/-- a constant of the module -/
theorem pe_globE {X : Cx} {x : Str} {v : V} {pos : Pos} (h : ∃ u, X.mg x = some u ∧ RelV v u) (hg : Gl X x) (hd : (x == ("__debug__" : Str)) = false := by decide) : PE X (.Name x pos) (tC v) := by
  obtain ⟨u, h1, h2⟩ := h
  exact pe_glob hg h1 h2 hd
end Wk
/-! ETup: enumerate(a tuple), after the rule for lists. -/
namespace PySem
open Sem (wp)
open AutoSeq1 (wpAny_loadPart')
theorem enumT_meets (tt : Addr) (o : Obj) (items : Array Value) (n : Nat) (hcls : o.cls = .type "tuple") (hdat : o.data = .seq items n) :
    Meets (Builtin.«enumerate.__new__» ⟨[.type "enumerate", .ref tt], []⟩) (fun _ R s => s.heap.get? tt = some o ∧
      R (.ok (.ret (.ref (s.heap.push { cls := .type "tuple_iterator", data := .fields #[.ref tt, .int 0 0] }).objs.size)))
        { s with heap := (s.heap.push { cls := .type "tuple_iterator", data := .fields #[.ref tt, .int 0 0] }).push { cls := .type "enumerate", data := .fields #[.none, .bool false, .ref s.heap.objs.size, rawInt 0, .none, .none] } }) :=
  .of_wp fun prog w A R s h => by
    obtain ⟨hp, g, d, tk, os⟩ := s
    obtain ⟨hl, h⟩ := h
    have hsub := sub_enumerate
    obtain ⟨oc, od, odt, osl⟩ := o
    replace hcls : oc = .type "tuple" := hcls
    replace hdat : odt = .seq items n := hdat
    subst hcls hdat
    have hT : Heap.IsTuple (Shared.heap ⟨hp, g, d, tk, os⟩) tt items := ⟨_, hl, rfl, n, rfl⟩
    wp_walk using wpAny_loadPart' hl
    refine wpAny_stack_any fun st => wpAny_pure ?_
    split
    · rename_i c _ _ _ _ _
      cases (c == Value.type "enumerate")
      · (wp_walk using wpAny_loadPart' hl, wpAny_pyIter_tuple hT); exact ⟨_, rfl, h⟩
      · (wp_walk using wpAny_loadPart' hl, wpAny_pyIter_tuple hT); exact ⟨_, rfl, h⟩
    · (wp_walk using wpAny_loadPart' hl, wpAny_pyIter_tuple hT); exact ⟨_, rfl, h⟩
section
variable {prog : Program} {w : World} {A : Around} {E : Value → Shared → Prop} {s : Shared}
theorem call_enumT {tt : Addr} {items : Array Value} {Q : Value → Shared → Prop} (hL : s.heap.IsTuple tt items)
    (h : ∀ h', IsEnum h' (s.heap.objs.size + 1) s.heap.objs.size 0 .none → h'.IsTupleIter s.heap.objs.size tt 0 → h'.objs.size = s.heap.objs.size + 2 → (∀ b o, s.heap.get? b = some o → h'.get? b = some o) → Q (.ref (s.heap.objs.size + 1)) { s with heap := h' }) :
    wpAny (model prog w) A (call (.type "enumerate") [.ref tt]) Q E s := by
  obtain ⟨ob, hl, hcl, n, hda⟩ := hL
  refine callType_new F.called_enumerate (by decide) (F.typeCall_enumerate_1 _) (F.newCall_enumerate_1 _) (fun obj => F.args_object_init_2 obj _) F.entry_enumerate_new (enumT_meets tt ob items n hcl hda) ⟨hl, ?_⟩
  have hsz : (s.heap.push { cls := .type "tuple_iterator", data := .fields #[.ref tt, .int 0 0] }).objs.size = s.heap.objs.size + 1 := Heap.size_push ..
  show _ ∧ _
  rw [hsz]
  have hen : IsEnum ((s.heap.push { cls := .type "tuple_iterator", data := .fields #[.ref tt, .int 0 0] }).push { cls := .type "enumerate", data := .fields #[.none, .bool false, .ref s.heap.objs.size, rawInt 0, .none, .none] }) (s.heap.objs.size + 1) s.heap.objs.size 0 .none := by
    have q := Heap.get?_push_size (s.heap.push { cls := .type "tuple_iterator", data := .fields #[.ref tt, .int 0 0] }) (o := { cls := .type "enumerate", data := .fields #[.none, .bool false, .ref s.heap.objs.size, rawInt 0, .none, .none] }) rfl
    rw [hsz] at q; exact q
  exact ⟨⟨_, hen, rfl⟩, h _ hen ⟨_, Heap.get?_push_of_some _ (Heap.get?_push_size _ rfl), rfl, rfl⟩ (by rw [Heap.size_push, hsz]) fun b o x => Heap.get?_push_of_some _ (Heap.get?_push_of_some _ x)⟩
end
end PySem
namespace Wk
open PySem PySem.Spec PyProof.Rows L2
/-- the tuple at a as it stands at each turn, each item in a new pair -/
def IteT (K : PySem.W.Frag) (a : Addr) : It :=
  ⟨fun i H => ∃ (xs : List V) (x : V), SqT K H a xs ∧ xs[i]? = some x, fun i H v H' => ∃ T x, v = .ref T ∧ H T = none ∧ H' = upd H T (.tup [.int (i : Nat), x]) ∧ ∀ xs, SqT K H a xs → xs[i]? = some x, fun i H => ∃ xs : List V, SqT K H a xs ∧ xs.length ≤ i⟩
theorem enumT_end {prog : Program} {w : World} {A : Around} {E : Value → Shared → Prop} {s : Shared} {en iw tt : Addr} {c : Int} {i : Nat} {items : Array Value} {old : Value} {Q : Option Value → Shared → Prop} (hh : A.handled = none)
    (hen : IsEnum s.heap en iw c old) (hit : s.heap.IsTupleIter iw tt i) (ht : s.heap.IsTuple tt items) (hx : items[i]? = none) (hQ : ∀ h', Heap.ExtBut iw s.heap h' → Q none { s with heap := h' }) : wpAny (model prog w) A (pyNext (.ref en)) Q E s := by
  have hTy2 : s.TypeIs (.ref en) "enumerate" := ⟨_, hen, rfl⟩
  unfold pyNext
  refine wpAny_bind (wpAny_attempt (wpAny_callSpecial?_slot (name := Str.ofString "__next__") hTy2 F.slot_enumerate_next (wpAny_call_entry F.slot_enumerate_next hTy2 F.entry_enumerate_next ?_ (F.args_enumerate_next_1 _))))
  show wpAny _ _ (field (.ref en) 2 >>= _) _ _ _
  refine wpAny_bind (wpAny_field hen rfl (x := .ref iw) rfl ?_)
  refine wpAny_bind (wpAny_nextOf_tuple_end hh hit ht hx fun h' x2 hx1 hx2 => ?_)
  obtain ⟨ob, ho, hcl⟩ := hx2
  refine wpAny_bind (wpAny_isInstance (T := "StopIteration") (b := true) ⟨ob, ho, hcl⟩ isSubtype_stop ?_)
  exact wpAny_pure (hQ _ hx1)
theorem turn_enumT {P : Program} {w : World} {K : PySem.W.Frag} {elts : List Expr} {kk : Nat} {tpos : Pos} (a en iw : Addr) :
    Turn P w K (.Tuple elts kk tpos) (IteT K a) [en, iw] en (fun i h => (∃ old, IsEnum h en iw ((i : Nat) : Int) old) ∧ h.IsTupleIter iw a i ∧ en ≠ iw ∧ a ≠ iw ∧ en ≠ a) where
  mem := by simp
  obj := fun i h stt b hb => by
    obtain ⟨⟨old, hen⟩, ⟨o, ho, hc, hd⟩, _⟩ := stt
    have e' : b = en ∨ b = iw := by simpa using hb
    rcases e' with z | z
    · rw [z]; exact ⟨_, hen, fun v q => nomatch q⟩
    · rw [z]; exact ⟨o, ho, fun v q => by rw [hd] at q; cases q⟩
  keep := fun i h h' stt k => let ⟨⟨old, hen⟩, hi, hne⟩ := stt; ⟨⟨old, k en (by simp) _ hen⟩, hi.at fun o q => k iw (by simp) o q, hne⟩
  item := by
    intro X hP hw hK hc i pins s σ H E Iv hff stt hg
    subst hP hw hK
    obtain ⟨⟨old, hen⟩, hit, hne, hai, hea⟩ := stt
    obtain ⟨xs, x, hq, hx⟩ := hg
    obtain ⟨its, rv, pt, hz⟩ := Iv.tuple hq
    obtain ⟨u, hu, ru⟩ := rv.get hx
    have hT0 : s.heap.IsTuple a its.toArray := pt
    have hel : en < s.heap.objs.size := Heap.lt_size hen
    have hil : iw < s.heap.objs.size := by obtain ⟨_, q, _⟩ := hit; exact Heap.lt_size q
    have hlt : i < its.toArray.size := by rw [List.size_toArray]; exact (List.getElem?_eq_some_iff.mp hu).1
    refine wpAny_pyNext_enum_itemD (Draws.tuple (A := X.A.in1) (Iv.ok.hd hc) iw a hai its.toArray) hen ⟨hit, hT0⟩ hlt hne (by simp [hne, hea]) fun x2 h' tk hP ho hstt' hT hsz hkp => ?_
    obtain rfl : x2 = u := by
      have h1 : its[i]? = some x2 := by simpa using hP
      rw [hu] at h1; exact (Option.some.inj h1).symm
    refine ⟨_, rfl, wpAny_letOwnedTupleGo_enum (s := { s with heap := h', toks := tk + 1 }) ho fun h'' he' sb => ?_⟩
    have hT2 : h''.get? s.heap.objs.size = some { cls := .type "tuple", data := .seq #[.int i tk, x2] } := (sb.2 _ (Nat.ne_of_gt hel)).trans hT
    have newt : ObjOk X.prog X.w (upd H s.heap.objs.size (.tup [.int (i : Nat), x])) h'' s.heap.objs.size (.tup [.int (i : Nat), x]) :=
      ⟨by show 2 ≤ sizeLine; decide, [.int i tk, x2], .cons ⟨_, rfl⟩ (.cons ru .nil), ⟨_, hT2, rfl, _, rfl⟩⟩
    have Iv1 : Inv X pins σ (upd H s.heap.objs.size (.tup [.int (i : Nat), x])) { s with heap := h'', toks := tk + 1 } :=
      Iv.turnedNew (ch := [en, iw]) (fun b ob hb q => (sb.2 b (fun z => hb (by simp [z]))).trans (hkp b ob (fun z => hb (by simp [z])) (fun z => hb (by simp [z])) q)) hff (Nat.le_refl _) newt
    refine ⟨.ref s.heap.objs.size, _, Iv1, rfl, ⟨_, x, rfl, Iv.hok.fresh (Nat.le_refl _), rfl, fun ys hy => by rw [Iv.tuple_inj hy hq]; exact hx⟩, ⟨⟨x2, ?_⟩, hstt'.1.at fun o q => (sb.2 iw (Ne.symm hne)).trans q, hne, hai, hea⟩, fun b hb => ?_⟩
    · have e1 : ((i + 1 : Nat) : Int) = (i : Int) + 1 := by omega
      rw [e1]; exact he'
    · have hb' : b < s.heap.objs.size := by
        have e' : b = en ∨ b = iw := by simpa using hb
        rcases e' with z | z <;> rw [z] <;> assumption
      rw [upd_ne (Nat.ne_of_lt hb')]
      exact (hff b hb).1
  done := by
    intro X hP hw hK hc i pins s σ H E Iv hff stt hg
    subst hP hw hK
    obtain ⟨⟨old, hen⟩, hit, hne, hai, hea⟩ := stt
    obtain ⟨xs, hq, hx⟩ := hg
    obtain ⟨its, rv, pt, hz⟩ := Iv.tuple hq
    obtain ⟨f0, f1, f2, f3, f4, f5⟩ := hff iw (by simp)
    have hlen := rv.length
    have hT0 : s.heap.IsTuple a its.toArray := pt
    exact enumT_end (Iv.ok.hd hc) hen hit hT0 (by simp; omega) fun h' eb => ⟨rfl, Iv.turned (t' := s.toks) (fun b o hb q => eb b o hb q) f0 f1 f3 f4 f5⟩
  self := fun A i s Q E stt h => let ⟨⟨_, hen⟩, _⟩ := stt; wpAny_pyIter_enum hen h
def iEnumT (K : PySem.W.Frag) (ta : TA) : TI := fun σ H R => ta σ H fun vs H1 => ∃ a xs, vs = [.ref a] ∧ SqT K H1 a xs ∧ R (IteT K a) H1
theorem pi_enumT {X : Cx} {e : Expr} {ta : TA} {p pos tpos : Pos} {elts : List Expr} {kk : Nat} (hg : Gl X "enumerate") (hm : X.mg "enumerate" = none) (ha : PA X [e] ta) (hs : starEach [e] X.env = [(false, eval e X.env)] := by rfl) :
    PI X (.Tuple elts kk tpos) (.Call (.Name "enumerate" p) [e] [] pos) (iEnumT X.K ta) := by
  refine ⟨fun pins s σ H R Iv h => ?_⟩
  refine Call_ (ld_blt Iv hg hm boot_enumerate (PyProof.Rows.callWith_type1 (thn (ha.run pos pins s σ H _ Iv h) fun us s1 ⟨vs, H1, Iv1, r1, q1⟩ => ?_) hs rfl))
  obtain ⟨a, xs, ex, hq, qq⟩ := q1
  subst ex
  cases r1 with
  | cons r rr =>
    cases rr
    cases r
    obtain ⟨its, rv, pt, hz⟩ := Iv1.tuple hq
    have hT0 : s1.heap.IsTuple a its.toArray := pt
    have hal : a < s1.heap.objs.size := by obtain ⟨o, ho, _⟩ := hT0; exact Heap.lt_size ho
    refine call_enumT hT0 fun h' hen hit hsz hkp => wpAny_pyIter_enum hen ?_
    have Iv2 : Inv X pins σ H1 { s1 with heap := h' } := Iv1.kept (t' := s1.toks) hkp
    refine ⟨s1.heap.objs.size + 1, [s1.heap.objs.size + 1, s1.heap.objs.size], _, _, H1, rfl, Iv2, turn_enumT a (s1.heap.objs.size + 1) s1.heap.objs.size, ⟨⟨.none, hen⟩, hit, Nat.succ_ne_self _, Nat.ne_of_lt hal, Nat.ne_of_gt (Nat.lt_succ_of_lt hal)⟩, fun b hb => ?_, qq⟩
    have hle2 : s1.heap.objs.size ≤ b := by
      have z : b = s1.heap.objs.size + 1 ∨ b = s1.heap.objs.size := by simpa using hb
      rcases z with z | z
      · rw [z]; exact Nat.le_succ _
      · rw [z]; exact Nat.le_refl _
    exact Iv1.fpOk hle2 (Iv1.hok.fresh hle2)
section
variable {α : Type} {e : Rep α} {K : PySem.W.Frag} {F H : Hp} {v : V} {xs : List α}
theorem src_enumT {R : It → Hp → Prop} (r : (pTL e).r F v xs) (f : Ex F H) (k : ∀ a, TWk (IteT K a) F (pT2 pN e) (enumT xs) → R (IteT K a) H) : ∃ a ws, [v] = [V.ref a] ∧ SqT K H a ws ∧ R (IteT K a) H := by
  obtain ⟨p, vs, rfl, hp, a⟩ := r
  refine ⟨p, vs, rfl, SqT.of (f _ _ hp), k p ?_⟩
  refine TWk.pairs (G := fun H => SqT K H p vs) (X := fun i => some (.int (i : Nat))) (Y := fun i => vs[i]?) ?_ (fun F' H' h1 h2 => SqT.of (h2 _ _ (h1 _ _ hp))) ?_ ?_
  · rw [enumT_len, ← a.len]
    refine ⟨fun i _ hi q => ⟨vs, vs[i], q, by simp [hi]⟩, fun _ q => ⟨vs, q, Nat.le_refl _⟩, fun i H v H' _ q y => ?_⟩
    obtain ⟨T, x, h1, h2, h3, h4⟩ := y
    exact ⟨T, .int (i : Nat), x, h1, h2, h3, rfl, h4 vs q⟩
  · intro i F' x _ hi hx
    rw [enumT_len] at hi
    rw [enumT_get, List.getElem?_eq_getElem hi]
    exact ⟨i, rfl, (Option.some.inj hx).symm⟩
  · intro i F' x h1 hi hx
    obtain ⟨z, hz, rz⟩ := a.got hx
    rw [enumT_get, hz]
    exact ⟨z, rfl, e.mono h1 rz⟩
/-- tuple(a list) -/
def rTupOf (K : PySem.W.Frag) : List V → Hp → VK → Prop := fun xs H Q => ∃ p ys, xs = [.ref p] ∧ ((SqL K H p ys ∧ ∀ l, H l = none → Q (.ref l) (upd H l (.tup ys))) ∨ (SqT K H p ys ∧ Q (.ref p) H))
theorem n_tupOf {F0 H0 : Hp} {Q : VK} (r : (pL e).r F v xs) (w : Wf F0 H0 F H) (k : ∀ p F' H', Wf F H F' H' → (pTL e).r F' (.ref p) xs → Q (.ref p) H') : rTupOf K [v] H Q := by
  obtain ⟨p, vs, rfl, hp, a⟩ := r
  exact ⟨p, vs, rfl, .inl ⟨SqL.of (w.f _ _ hp), fun l hl => k l _ _ (Wf.new w.f hl) ⟨l, vs, rfl, upd_same, a.mono (Ex.new (w.f.non hl))⟩⟩⟩
end
end Wk
namespace Wk
open PySem PySem.Spec PyProof.Rows L2
/-- a list or a tuple of things of one kind -/
def pSq {α : Type} (e : Rep α) : Rep (List α) := ⟨fun F v xs => ∃ p vs, v = .ref p ∧ (F p = some (.lst vs) ∨ F p = some (.tup vs)) ∧ All e F vs xs, fun h ⟨p, vs, a, b, c⟩ => ⟨p, vs, a, b.imp (h _ _) (h _ _), c.mono h⟩⟩
def iEnumA (K : PySem.W.Frag) (ta : TA) : TI := fun σ H R => ta σ H fun vs H1 => ∃ a xs, vs = [.ref a] ∧ ((SqL K H1 a xs ∧ R (Ite K a) H1) ∨ (SqT K H1 a xs ∧ R (IteT K a) H1))
theorem pi_enumA {X : Cx} {e : Expr} {ta : TA} {p pos tpos : Pos} {elts : List Expr} {kk : Nat} (hg : Gl X "enumerate") (hm : X.mg "enumerate" = none) (ha : PA X [e] ta) (hs : starEach [e] X.env = [(false, eval e X.env)] := by rfl) :
    PI X (.Tuple elts kk tpos) (.Call (.Name "enumerate" p) [e] [] pos) (iEnumA X.K ta) := by
  refine ⟨fun pins s σ H R Iv h => ?_⟩
  refine Call_ (ld_blt Iv hg hm boot_enumerate (PyProof.Rows.callWith_type1 (thn (ha.run pos pins s σ H _ Iv h) fun us s1 ⟨vs, H1, Iv1, r1, q1⟩ => ?_) hs rfl))
  obtain ⟨a, xs, ex, qq⟩ := q1
  subst ex
  cases r1 with
  | cons r rr =>
    cases rr
    cases r
    have hle3 : ∀ b ∈ [s1.heap.objs.size + 1, s1.heap.objs.size], FpOk X pins H1 b := fun b hb => by
      have hle2 : s1.heap.objs.size ≤ b := by
        have z : b = s1.heap.objs.size + 1 ∨ b = s1.heap.objs.size := by simpa using hb
        rcases z with z | z
        · rw [z]; exact Nat.le_succ _
        · rw [z]; exact Nat.le_refl _
      exact Iv1.fpOk hle2 (Iv1.hok.fresh hle2)
    rcases qq with ⟨hq, qq⟩ | ⟨hq, qq⟩
    · obtain ⟨its, rv, pt, hz⟩ := Iv1.list hq
      refine call_enumerate_list pt.isList fun h' hen hit hsz hkp => wpAny_pyIter_enum hen ?_
      have Iv2 : Inv X pins σ H1 { s1 with heap := h' } := Iv1.kept (t' := s1.toks) hkp
      exact ⟨s1.heap.objs.size + 1, [s1.heap.objs.size + 1, s1.heap.objs.size], _, _, H1, rfl, Iv2, turn_enum a (s1.heap.objs.size + 1) s1.heap.objs.size, ⟨⟨.none, hen⟩, hit, Nat.succ_ne_self _⟩, hle3, qq⟩
    · obtain ⟨its, rv, pt, hz⟩ := Iv1.tuple hq
      have hT0 : s1.heap.IsTuple a its.toArray := pt
      have hal : a < s1.heap.objs.size := by obtain ⟨o, ho, _⟩ := hT0; exact Heap.lt_size ho
      refine call_enumT hT0 fun h' hen hit hsz hkp => wpAny_pyIter_enum hen ?_
      have Iv2 : Inv X pins σ H1 { s1 with heap := h' } := Iv1.kept (t' := s1.toks) hkp
      exact ⟨s1.heap.objs.size + 1, [s1.heap.objs.size + 1, s1.heap.objs.size], _, _, H1, rfl, Iv2, turn_enumT a (s1.heap.objs.size + 1) s1.heap.objs.size, ⟨⟨.none, hen⟩, hit, Nat.succ_ne_self _, Nat.ne_of_lt hal, Nat.ne_of_gt (Nat.lt_succ_of_lt hal)⟩, hle3, qq⟩
section
variable {α : Type} {e : Rep α} {K : PySem.W.Frag} {F H : Hp} {v : V} {xs : List α}
theorem sq_L (r : (pL e).r F v xs) : (pSq e).r F v xs := let ⟨p, vs, a, b, c⟩ := r; ⟨p, vs, a, .inl b, c⟩
theorem sq_TL (r : (pTL e).r F v xs) : (pSq e).r F v xs := let ⟨p, vs, a, b, c⟩ := r; ⟨p, vs, a, .inr b, c⟩
theorem src_enumA {R : It → Hp → Prop} (r : (pSq e).r F v xs) (f : Ex F H) (k : ∀ J, TWk J F (pT2 pN e) (enumT xs) → R J H) : ∃ a ws, [v] = [V.ref a] ∧ ((SqL K H a ws ∧ R (Ite K a) H) ∨ (SqT K H a ws ∧ R (IteT K a) H)) := by
  obtain ⟨p, vs, rfl, hp, a⟩ := r
  rcases hp with hp | hp
  · obtain ⟨q, ws, e1, e2, e3⟩ := src_enum (K := K) (R := R) ⟨p, vs, rfl, hp, a⟩ f fun b T => k _ T
    exact ⟨q, ws, e1, .inl ⟨e2, e3⟩⟩
  · obtain ⟨q, ws, e1, e2, e3⟩ := src_enumT (K := K) (R := R) ⟨p, vs, rfl, hp, a⟩ f fun b T => k _ T
    exact ⟨q, ws, e1, .inr ⟨e2, e3⟩⟩
end
end Wk
namespace Wk
open PySem L2
/-- xs[i] = v -/
theorem a_lset {α : Type} {e : Rep α} {σ : L2.St} {F0 H0 F H : Hp} {p : Addr} {xs : List α} {y : α} {i : Nat} {v : V} {to ti : TE} {Q : L2.St → Hp → Prop} (x : XL e H0 F H p xs) (w : Wf F0 H0 F H) (hi : i < xs.length) (r : e.r F v y) (ho : Val to σ H (.ref p)) (hx : Val ti σ H (.int (i : Int)))
    (k : ∀ H', Wf F0 H0 F H' → XL e H0 F H' p (xs.set i y) → (∀ q o, H q = some o → q ≠ p → H' q = some o) → Q σ H') : gSub to ti rSetL v σ H Q := by
  obtain ⟨vs, a, b⟩ := x.x
  refine ho _ (hx _ ⟨p, vs, _, i, rfl, rfl, a.h, ?_, k _ (w.set a) ⟨_, a.set, b.set i r⟩ fun q o h hq => by rw [upd_ne hq]; exact h⟩)
  unfold ixN
  rw [if_pos (by omega), if_pos (by rw [b.len]; omega)]; rfl
theorem rcb1' {r : List V → Hp → VK → Prop} {x z : V} {H : Hp} {Q : VK} (h : Val (tCB r (tCons (tC x) tNil)) [] H z) (q : Q z H) : r [x] H Q := h Q q
end Wk
namespace Wk
open PySem L2
theorem kCpR_int {g : TG} {tc : TT} {te : TE} {vs : List Nat} {σ : L2.St} {Q : VK} {H : Hp} {j : Int} (h1 : -1000000 < j) (h : kCpR g tc te vs σ Q (.int ((j.toNat : Nat) : Int)) H) : kCpR g tc te vs σ Q (.int j) H := by
  obtain ⟨j', e, a, b, c⟩ := h
  have e' : ((j.toNat : Nat) : Int) = j' := V.int.inj (List.cons.inj e).1
  refine ⟨j, rfl, by omega, by omega, ?_⟩
  have : j'.toNat = j.toNat := by omega
  rw [← this]; exact c
end Wk
/-! Rc: rows of bits that go on by a rule. -/
namespace Wk
def dot (c : Nat) (f : Nat → Bool) : Nat → Bool
  | 0 => false
  | m + 1 => xor (dot c f m) (c.testBit m && f m)
theorem dot_congr {c : Nat} {f g : Nat → Bool} : ∀ {m : Nat}, (∀ j, j < m → f j = g j) → dot c f m = dot c g m
  | 0, _ => rfl
  | m + 1, h => by
    show xor (dot c f m) (c.testBit m && f m) = xor (dot c g m) (c.testBit m && g m)
    rw [dot_congr (m := m) fun j hj => h j (by omega), h m (by omega)]
theorem dot_false {c : Nat} : ∀ m : Nat, dot c (fun _ => false) m = false
  | 0 => rfl
  | m + 1 => by show xor (dot c _ m) (c.testBit m && false) = false; rw [dot_false m]; simp
theorem dot_xor {c : Nat} {f g : Nat → Bool} : ∀ m : Nat, dot c (fun i => xor (f i) (g i)) m = xor (dot c f m) (dot c g m)
  | 0 => rfl
  | m + 1 => by
    show xor (dot c _ m) (c.testBit m && xor (f m) (g m)) = xor (xor (dot c f m) (c.testBit m && f m)) (xor (dot c g m) (c.testBit m && g m))
    rw [dot_xor m]
    cases dot c f m <;> cases dot c g m <;> cases c.testBit m <;> cases f m <;> cases g m <;> rfl
theorem dot_and {c : Nat} {f : Nat → Bool} (b : Bool) : ∀ m : Nat, dot c (fun i => b && f i) m = (b && dot c f m)
  | 0 => by cases b <;> rfl
  | m + 1 => by
    show xor (dot c _ m) (c.testBit m && (b && f m)) = (b && xor (dot c f m) (c.testBit m && f m))
    rw [dot_and b m]
    cases b <;> cases dot c f m <;> cases c.testBit m <;> cases f m <;> rfl
theorem dot_swap {c d : Nat} {F : Nat → Nat → Bool} (p : Nat) : ∀ q : Nat, dot d (fun j => dot c (fun i => F j i) p) q = dot c (fun i => dot d (fun j => F j i) q) p
  | 0 => (dot_false p).symm
  | q + 1 => by
    show xor (dot d _ q) (d.testBit q && dot c (fun i => F q i) p) = dot c (fun i => xor (dot d (fun j => F j i) q) (d.testBit q && F q i)) p
    rw [dot_swap p q, dot_xor, dot_and]
/-- a rule that holds for ever, and one that holds long enough -/
theorem goes_on {a : Nat → Bool} {c d m0 m L : Nat} (h0 : ∀ t, a (t + m0) = dot c (fun i => a (t + i)) m0) (h : ∀ t, t < L → a (t + m) = dot d (fun j => a (t + j)) m) (hL : m0 ≤ L) : ∀ t, a (t + m) = dot d (fun j => a (t + j)) m := by
  intro t
  have e : xor (a (t + m)) (dot d (fun j => a (t + j)) m) = false := by
    induction t using Nat.strongRecOn with
    | ind t ih =>
      by_cases c1 : t < L
      · rw [h t c1]; simp
      · obtain ⟨u, rfl⟩ : ∃ u, t = u + m0 := ⟨t - m0, by omega⟩
        have e1 : a (u + m0 + m) = dot c (fun i => a (u + i + m)) m0 := by
          rw [show u + m0 + m = (u + m) + m0 by omega, h0]
          exact dot_congr fun i _ => by rw [show u + m + i = u + i + m by omega]
        have e2 : dot d (fun j => a (u + m0 + j)) m = dot c (fun i => dot d (fun j => a (u + i + j)) m) m0 := by
          rw [← dot_swap]
          refine dot_congr fun j _ => ?_
          rw [show u + m0 + j = (u + j) + m0 by omega, h0]
          exact dot_congr fun i _ => by rw [show u + j + i = u + i + j by omega]
        rw [e1, e2, ← dot_xor]
        by_cases z : m0 = 0
        · subst z; rfl
        · rw [← dot_false (c := c) m0]
          exact dot_congr fun i hi => ih (u + i) (by omega)
  revert e
  cases a (t + m) <;> cases dot d (fun j => a (t + j)) m <;> simp
theorem dot_and_l {c : Nat} {f : Nat → Bool} : ∀ {m : Nat}, (∀ j, m ≤ j → f j = false) → ∀ k, dot c f (m + k) = dot c f m
  | m, h, 0 => rfl
  | m, h, k + 1 => by
    show xor (dot c f (m + k)) (c.testBit (m + k) && f (m + k)) = _
    rw [h (m + k) (by omega), dot_and_l h k]; simp
/-- parity as a sum -/
theorem par_dot {s : Nat} : ∀ {m c : Nat}, c < 2 ^ m → par (c &&& s) = dot c s.testBit m
  | 0, c, h => by
    have : c = 0 := by simpa using h
    subst this; rw [Nat.zero_and, par_zero]; rfl
  | m + 1, c, h => by
    have hl : c % 2 ^ m < 2 ^ m := Nat.mod_lt _ (Nat.two_pow_pos m)
    have e : c = (c % 2 ^ m) ^^^ (if c.testBit m = true then 2 ^ m else 0) := Nat.eq_of_testBit_eq fun i => by
      rw [Nat.testBit_xor, Nat.testBit_mod_two_pow]
      by_cases q : c.testBit m = true
      · rw [if_pos q, Nat.testBit_two_pow]
        by_cases o : i = m
        · subst o; rw [q]; simp
        · by_cases o2 : i < m
          · rw [decide_eq_true o2, decide_eq_false (fun z => o z.symm)]; simp
          · rw [decide_eq_false o2, decide_eq_false (fun z => o z.symm), testBit_big h (by omega)]; rfl
      · rw [if_neg q, Nat.zero_testBit]
        by_cases o2 : i < m
        · rw [decide_eq_true o2]; simp
        · rw [decide_eq_false o2]
          by_cases o : i = m
          · subst o; simpa using q
          · rw [testBit_big h (by omega)]; rfl
    have ih := par_dot (s := s) hl
    have e3 : par (c &&& s) = xor (par ((c % 2 ^ m) &&& s)) (c.testBit m && s.testBit m) := by
      conv => lhs; rw [e]
      have ax : ∀ a b c : Nat, (a ^^^ b) &&& c = (a &&& c) ^^^ (b &&& c) := fun a b c => Nat.eq_of_testBit_eq fun i => by
        rw [Nat.testBit_and, Nat.testBit_xor, Nat.testBit_xor, Nat.testBit_and, Nat.testBit_and]
        cases a.testBit i <;> cases b.testBit i <;> cases c.testBit i <;> rfl
      rw [ax, par_xor]
      congr 1
      by_cases q : c.testBit m = true
      · rw [if_pos q, q]
        by_cases r : s.testBit m = true
        · have : 2 ^ m &&& s = 2 ^ m := Nat.eq_of_testBit_eq fun i => by
            rw [Nat.testBit_and, Nat.testBit_two_pow]
            by_cases o : m = i
            · subst o; rw [r]; simp
            · rw [decide_eq_false o]; rfl
          rw [this, par_two_pow, r]; rfl
        · have : 2 ^ m &&& s = 0 := Nat.eq_of_testBit_eq fun i => by
            rw [Nat.testBit_and, Nat.testBit_two_pow, Nat.zero_testBit]
            by_cases o : m = i
            · subst o; rw [decide_eq_true rfl]; simpa using r
            · rw [decide_eq_false o]; rfl
          rw [this, par_zero]; simpa using r
      · rw [if_neg q, Nat.zero_and, par_zero]
        have : c.testBit m = false := by simpa using q
        rw [this]; rfl
    rw [e3, ih]
    show xor (dot (c % 2 ^ m) s.testBit m) _ = xor (dot c s.testBit m) _
    congr 1
    have go : ∀ k, k ≤ m → dot (c % 2 ^ m) s.testBit k = dot c s.testBit k := by
      intro k
      induction k with
      | zero => exact fun _ => rfl
      | succ k ih2 =>
        intro hk
        show xor (dot _ _ k) ((c % 2 ^ m).testBit k && s.testBit k) = xor (dot _ _ k) (c.testBit k && s.testBit k)
        rw [ih2 (by omega), Nat.testBit_mod_two_pow, decide_eq_true (by omega), Bool.true_and]
    exact go m (Nat.le_refl _)
/-- of n + 1 masks below 2 ** n one is a sum of those ahead -/
theorem some_sum {n : Nat} {vs : List Nat} (hl : vs.length = n + 1) (hv : ∀ v ∈ vs, v < 2 ^ n) : ∃ j, j ≤ n ∧ Span (vs.take j) (vs.getD j 0) := by
  refine Classical.byContradiction fun hno => ?_
  have inj : ∀ S, S < 2 ^ (n + 1) → comb vs S = 0 → S = 0 := by
    intro S hS h0
    refine Classical.byContradiction fun z => ?_
    have hp := bits_pos z
    generalize hk : bits S - 1 = k at *
    have kb : S.testBit k = true := by rw [← hk]; exact bits_bit z
    have kn : k ≤ n := by have := bits_le.mpr hS; omega
    refine hno ⟨k, kn, S, ?_⟩
    have e1 : comb vs S = comb (vs.take (k + 1)) S := by
      have : ∀ (vs : List Nat) (k S : Nat), bits S ≤ k → comb vs S = comb (vs.take k) S := by
        intro vs
        induction vs with
        | nil => intro k S _; rw [List.take_nil]
        | cons v vs ih =>
          intro k S hb
          cases k with
          | zero =>
            have : S = 0 := bits_eq_zero.mp (by omega)
            subst this; rw [comb_zero]; rfl
          | succ k =>
            show (if S.testBit 0 = true then v else 0) ^^^ comb vs (S / 2) = (if S.testBit 0 = true then v else 0) ^^^ comb (vs.take k) (S / 2)
            rw [ih k (S / 2) (bits_le.mpr (by have := bits_le.mp hb; rw [Nat.pow_succ] at this; omega))]
      exact this vs (k + 1) S (by omega)
    have lt : k < vs.length := by omega
    have e2 : vs.take (k + 1) = vs.take k ++ [vs[k]] := List.take_succ_eq_append_getElem lt
    rw [e1, e2, comb_snoc, show (vs.take k).length = k by rw [List.length_take]; omega, if_pos kb] at h0
    rw [List.getD_eq_getElem?_getD, List.getElem?_eq_getElem lt]
    exact xor0 h0
  have nd : ((List.range (2 ^ (n + 1))).map (comb vs)).Nodup := by
    refine List.pairwise_map.mpr (List.Pairwise.imp_of_mem (fun {a b} ha hb hne e => hne ?_) List.nodup_range)
    have ha' := List.mem_range.mp ha
    have hb' := List.mem_range.mp hb
    exact xor0 (inj _ (Nat.xor_lt_two_pow ha' hb') (by rw [comb_xor, e, Nat.xor_self]))
  have := nodup_len (k := 2 ^ n) nd fun x hx => by
    obtain ⟨S, _, rfl⟩ := List.mem_map.mp hx
    exact comb_lt hv
  rw [List.length_map, List.length_range, Nat.pow_succ] at this
  have := Nat.two_pow_pos n
  omega
/-- parity of a sum of masks -/
theorem par_comb {s : Nat} : ∀ (vs : List Nat) (S : Nat), par (comb vs S &&& s) = dot S (fun j => par (vs.getD j 0 &&& s)) vs.length := by
  intro vs
  suffices h : ∀ k, k ≤ vs.length → ∀ S, par (comb (vs.take k) S &&& s) = dot S (fun j => par (vs.getD j 0 &&& s)) k by
    intro S
    have := h vs.length (Nat.le_refl _) S
    rwa [List.take_length] at this
  intro k
  induction k with
  | zero => intro _ S; show par (0 &&& s) = false; rw [Nat.zero_and, par_zero]
  | succ k ih =>
    intro hk S
    have e2 : vs.take (k + 1) = vs.take k ++ [vs[k]'(by omega)] := List.take_succ_eq_append_getElem (by omega)
    have el : (vs.take k).length = k := by rw [List.length_take]; omega
    have eg : vs.getD k 0 = vs[k]'(by omega) := by rw [List.getD_eq_getElem?_getD, List.getElem?_eq_getElem (by omega)]; rfl
    have ax : ∀ a b c : Nat, (a ^^^ b) &&& c = (a &&& c) ^^^ (b &&& c) := fun a b c => Nat.eq_of_testBit_eq fun i => by
      rw [Nat.testBit_and, Nat.testBit_xor, Nat.testBit_xor, Nat.testBit_and, Nat.testBit_and]
      cases a.testBit i <;> cases b.testBit i <;> cases c.testBit i <;> rfl
    rw [e2, comb_snoc, el, ax, par_xor, ih (by omega)]
    show _ = xor (dot S _ k) (S.testBit k && par (vs.getD k 0 &&& s))
    congr 1
    rw [eg]
    by_cases q : S.testBit k = true
    · rw [if_pos q, q]; simp
    · rw [if_neg q, Nat.zero_and, par_zero]
      have : S.testBit k = false := by simpa using q
      rw [this]; rfl
end Wk
/-! LZip: list(zip(a, b)) of two lists. -/
namespace Wk.LZ
open PySem PyProof.Rows L2
theorem zip_no_len : typeLookup (.type "zip") "__len__" = pure none := am_miss_of_fast (by decide +kernel)
theorem zip_no_hint : typeLookup (.type "zip") "__length_hint__" = pure none := am_miss_of_fast (by decide +kernel)
/-- the zip's own things at turn i; S: a list that is none of them -/
structure ZS (h : Heap) (z TI TO i1 i2 l1 l2 S : Addr) (i : Nat) (xs ys : Array Value) : Prop where
  ti : IsPair h TI (.ref i1) (.ref i2)
  to : ∃ x y, IsPair h TO x y
  h1 : h.IsListIter i1 l1 i
  h2 : h.IsListIter i2 l2 i
  a1 : h.IsList l1 xs
  a2 : h.IsList l2 ys
  zz : IsZip h z TI TO .none ∨ ∃ T f oT, IsZipHeld h z TI TO T f ∧ h.get? T = some oT ∧ T ≠ S ∧ T ≠ z ∧ T ≠ i1 ∧ T ≠ i2
section
variable {prog : Program} {w : World} {A : Around} {E : Value → Shared → Prop} {s : Shared} {z TI TO i1 i2 l1 l2 S : Addr} {i : Nat} {xs ys : Array Value}
theorem ZS.ty (h : ZS s.heap z TI TO i1 i2 l1 l2 S i xs ys) : s.TypeIs (.ref z) "zip" := by
  rcases h.zz with q | ⟨T, f, oT, q, _⟩
  · exact ⟨_, q, rfl⟩
  · exact ⟨_, q, rfl⟩
theorem ZS.frame {h h' : Heap} (q : ZS h z TI TO i1 i2 l1 l2 S i xs ys) (n : ∀ b ∈ [z, TI, TO, i1, i2, l1, l2], b ≠ S) (k : ∀ b o, b ≠ S → h.get? b = some o → h'.get? b = some o) : ZS h' z TI TO i1 i2 l1 l2 S i xs ys := by
  refine ⟨k _ _ (n _ (by simp)) q.ti, ?_, q.h1.at fun o e => k _ o (n _ (by simp)) e, q.h2.at fun o e => k _ o (n _ (by simp)) e, q.a1.at fun o e => k _ o (n _ (by simp)) e, q.a2.at fun o e => k _ o (n _ (by simp)) e, ?_⟩
  · obtain ⟨x, y, e⟩ := q.to; exact ⟨x, y, k _ _ (n _ (by simp)) e⟩
  · rcases q.zz with e | ⟨T, f, oT, e1, e2, e3⟩
    · exact .inl (k _ _ (n _ (by simp)) e)
    · exact .inr ⟨T, f, oT, k _ _ (n _ (by simp)) e1, k _ _ e3.1 e2, e3⟩
theorem next_item {Q : Option Value → Shared → Prop} {x y : Value} (D : ZipApart z TI TO i1 i2 l1 l2) (q : ZS s.heap z TI TO i1 i2 l1 l2 S i xs ys) (hS : S < s.heap.objs.size) (hx : xs[i]? = some x) (hy : ys[i]? = some y)
    (hQ : ∀ h', ZS h' z TI TO i1 i2 l1 l2 S (i + 1) xs ys → IsPair h' s.heap.objs.size x y → h'.objs.size = s.heap.objs.size + 1 →
      (∀ c o, c ≠ z → c ≠ TO → c ≠ i1 → c ≠ i2 → s.heap.get? c = some o → h'.get? c = some o) → Q (some (.ref s.heap.objs.size)) { s with heap := h' }) :
    wpAny (model prog w) A (pyNext (.ref z)) Q E s := by
  obtain ⟨ti, ⟨x0, y0, to⟩, h1, h2, a1, a2, zz⟩ := q
  rcases zz with e | ⟨T, f, oT, e1, e2, e3⟩
  · refine wpAny_pyNext_zip_item D e ti to h1 h2 a1 a2 hx hy fun h' z' TO' h1' h2' hT hsz hk => ?_
    exact hQ h' ⟨hk _ _ D.TIz D.TITO D.TIi1 D.TIi2 ti, ⟨_, _, TO'⟩, h1', h2', a1.at fun o e => hk _ o D.l1z D.l1TO D.l1i1 D.l1i2 e, a2.at fun o e => hk _ o D.l2z D.l2TO D.l2i1 D.l2i2 e, .inr ⟨_, false, _, z', hT, Nat.ne_of_gt hS, Nat.ne_of_gt (Heap.lt_size e), (by obtain ⟨_, q, _⟩ := h1; exact Nat.ne_of_gt (Heap.lt_size q)), (by obtain ⟨_, q, _⟩ := h2; exact Nat.ne_of_gt (Heap.lt_size q))⟩⟩ hT hsz hk
  · refine wpAny_pyNext_zip_item_held D e1 e2 ti h1 h2 a1 a2 hx hy fun h' z' h1' h2' hT hsz hk => ?_
    exact hQ h' ⟨hk _ _ D.TIz D.TIi1 D.TIi2 ti, ⟨_, _, hk _ _ D.TOz D.TOi1 D.TOi2 to⟩, h1', h2', a1.at fun o e => hk _ o D.l1z D.l1i1 D.l1i2 e, a2.at fun o e => hk _ o D.l2z D.l2i1 D.l2i2 e, .inr ⟨T, true, oT, z', hk _ _ e3.2.1 e3.2.2.1 e3.2.2.2 e2, e3⟩⟩ hT hsz fun c o c1 _ c3 c4 e => hk c o c1 c3 c4 e
theorem next_end {Q : Option Value → Shared → Prop} (hh : A.handled = none) (D : ZipApart z TI TO i1 i2 l1 l2) (q : ZS s.heap z TI TO i1 i2 l1 l2 S i xs ys) (he : xs[i]? = none ∨ ys[i]? = none)
    (hQ : ∀ h', (∀ c o, c ≠ z → c ≠ TO → c ≠ i1 → c ≠ i2 → s.heap.get? c = some o → h'.get? c = some o) → Q none { s with heap := h' }) : wpAny (model prog w) A (pyNext (.ref z)) Q E s := by
  obtain ⟨ti, ⟨x0, y0, to⟩, h1, h2, a1, a2, zz⟩ := q
  rcases zz with e | ⟨T, f, oT, e1, e2, e3⟩
  · exact wpAny_pyNext_zip_end hh D e ti to h1 h2 a1 a2 he fun h' hk => hQ h' fun c o c1 c2 c3 c4 e => hk c o c1 c2 c3 c4 e
  · exact wpAny_pyNext_zip_end_held hh D e1 e2 ti h1 h2 a1 a2 he fun h' hk => hQ h' fun c o c1 _ c3 c4 e => hk c o c1 c3 c4 e
end
/-- one tuple after the other is made -/
def NewT : Hp → List (V × V) → List V → Hp → Prop
  | H, [], ts, H' => ts = [] ∧ H' = H
  | H, (x, y) :: r, ts, H' => ∃ T ts', ts = .ref T :: ts' ∧ H T = none ∧ NewT (upd H T (.tup [x, y])) r ts' H'
theorem lst_get {S : Addr} {h : Heap} {acc : Array Value} {c : Nat} {f : Array Value → Array Value} (e : h.get? S = some { cls := .type "list", dict := none, data := .seq acc c, slots := #[] }) : ∃ c', (h.update S (Obj.mapSeq f)).get? S = some { cls := .type "list", dict := none, data := .seq (f acc) c', slots := #[] } :=
  ⟨_, Heap.get?_update_self (Obj.mapSeq f) e rfl⟩
section
variable {X : Cx} {pins : List (Addr × Obj)} {σ : L2.St} {z TI TO i1 i2 l1 l2 S : Addr} {vx vy : List V} {ix iy : List Value}
theorem loop {R : Result → Shared → Prop} {A : Around} (hh : A.handled = none) (D : ZipApart z TI TO i1 i2 l1 l2) (hS : ∀ b ∈ [z, TI, TO, i1, i2, l1, l2], b ≠ S) (rx : Vals vx ix) (ry : Vals vy iy) (hx : vx.length ≤ sizeLine) (res : Value) :
    ∀ (rest : List (V × V)) (i : Nat) (s : Shared) (H : Hp) (acc : Array Value) (c : Nat) (outs : List V), (vx.zip vy).drop i = rest → i ≤ (vx.zip vy).length → Inv X pins σ H s → (∀ b ∈ [S, z, TO, i1, i2], FpOk X pins H b) → ZS s.heap z TI TO i1 i2 l1 l2 S i ix.toArray iy.toArray →
    s.heap.get? S = some { cls := .type "list", dict := none, data := .seq acc c, slots := #[] } → Vals outs acc.toList → outs.length = i →
    (∀ s' H' acc' c' ts, Inv X pins σ H' s' → (∀ b ∈ [S, z, TO, i1, i2], FpOk X pins H' b) → s'.heap.get? S = some { cls := .type "list", dict := none, data := .seq acc' c', slots := #[] } → NewT H rest ts H' → Vals (outs ++ ts) acc'.toList → R (.ok (.ret res)) s') →
    codeAny (model X.prog X.w) A (.builtin "list.extend.loop" ⟨[.ref S, .ref z, res], []⟩) R s := by
  intro rest
  induction rest with
  | nil =>
    intro i s H acc c outs hd hi I hf q hL r hl hR
    have hin : (vx.zip vy).length ≤ i := List.drop_eq_nil_iff.mp hd
    rw [List.length_zip] at hin
    have he : ix.toArray[i]? = none ∨ iy.toArray[i]? = none := by
      have l1 := rx.length
      have l2 := ry.length
      rcases Nat.le_total vx.length vy.length with h | h
      · rw [Nat.min_eq_left h] at hin; exact .inl (by simp; omega)
      · rw [Nat.min_eq_right h] at hin; exact .inr (by simp; omega)
    refine codeAny_builtin F.entry_extend_loop ?_
    rw [Around.under_plainId F.plain_extend_loop _]
    show wpAny _ A.in1 (pyNext (.ref z) >>= _) _ _ s
    refine wpAny_bind (next_end hh D q he fun h' hk => ?_)
    have I' : Inv X pins σ H { s with heap := h' } := I.turnedL (t' := s.toks) (ch := [S, z, TO, i1, i2]) (fun b o hb e => hk b o (fun q => hb (by simp [q])) (fun q => hb (by simp [q])) (fun q => hb (by simp [q])) (fun q => hb (by simp [q])) e) hf
    exact wpAny_pure (hR _ H acc c [] I' hf (hk S _ (hS _ (by simp)).symm (hS _ (by simp)).symm (hS _ (by simp)).symm (hS _ (by simp)).symm hL) ⟨rfl, rfl⟩ (by rw [List.append_nil]; exact r))
  | cons p rest ih =>
    obtain ⟨x, y⟩ := p
    intro i s H acc c outs hd hi I hf q hL r hl hR
    have hget : (vx.zip vy)[i]? = some (x, y) := by
      have e : ((vx.zip vy).drop i)[0]? = some (x, y) := by rw [hd]; rfl
      rw [List.getElem?_drop] at e; exact e
    have hlt : i < (vx.zip vy).length := (List.getElem?_eq_some_iff.mp hget).1
    obtain ⟨ex, ey⟩ := List.getElem?_zip_eq_some.mp hget
    obtain ⟨u, hu, ru⟩ := rx.get ex
    obtain ⟨u2, hu2, ru2⟩ := ry.get ey
    have hmin : (vx.zip vy).length ≤ vx.length := by rw [List.length_zip]; exact Nat.min_le_left _ _
    have hacc : acc.size = i := by rw [← Array.length_toList, ← r.length]; exact hl
    refine codeAny_builtin F.entry_extend_loop ?_
    rw [Around.under_plainId F.plain_extend_loop _]
    show wpAny _ A.in1 (pyNext (.ref z) >>= _) _ _ s
    have hSl : S < s.heap.objs.size := Heap.lt_size hL
    refine wpAny_bind (next_item D q hSl (x := u) (y := u2) (by simpa using hu) (by simpa using hu2) fun h' q' hT hsz hk => ?_)
    have new : ObjOk X.prog X.w (upd H s.heap.objs.size (.tup [x, y])) h' s.heap.objs.size (.tup [x, y]) :=
      ⟨by show 2 ≤ sizeLine; decide, [u, u2], .cons ru (.cons ru2 .nil), ⟨_, hT, rfl, _, rfl⟩⟩
    have hfr : H s.heap.objs.size = none := I.hok.fresh (Nat.le_refl _)
    have I1 : Inv X pins σ (upd H s.heap.objs.size (.tup [x, y])) { s with heap := h' } :=
      I.turnedNew (t' := s.toks) (ch := [S, z, TO, i1, i2]) (fun b o hb e => hk b o (fun q => hb (by simp [q])) (fun q => hb (by simp [q])) (fun q => hb (by simp [q])) (fun q => hb (by simp [q])) e) hf (Nat.le_refl _) new
    have hlts : ∀ b ∈ [S, z, TO, i1, i2], b < s.heap.objs.size := by
      intro b hb
      have e' : b = S ∨ b = z ∨ b = TO ∨ b = i1 ∨ b = i2 := by simpa using hb
      rcases e' with e | e | e | e | e
      · rw [e]; exact hSl
      · rw [e]; rcases q.zz with e1 | ⟨_, _, _, e1, _⟩
        · exact Heap.lt_size e1
        · exact Heap.lt_size e1
      · rw [e]; obtain ⟨_, _, e1⟩ := q.to; exact Heap.lt_size e1
      · rw [e]; obtain ⟨_, e1, _⟩ := q.h1; exact Heap.lt_size e1
      · rw [e]; obtain ⟨_, e1, _⟩ := q.h2; exact Heap.lt_size e1
    have hf1 : ∀ b ∈ [S, z, TO, i1, i2], FpOk X pins (upd H s.heap.objs.size (.tup [x, y])) b := fun b hb => by
      obtain ⟨n1, rest⟩ := hf b hb
      exact ⟨by rw [upd_ne (Nat.ne_of_lt (hlts b hb))]; exact n1, rest⟩
    have hL' := hk S _ (hS _ (by simp)).symm (hS _ (by simp)).symm (hS _ (by simp)).symm (hS _ (by simp)).symm hL
    show wpAny _ A.in1 (updateSeq S (·.push (.ref s.heap.objs.size)) >>= _) _ _ _
    refine wpAny_bind ?_
    refine wpAny_updateSeq hL' rfl (wpAny_pure ⟨plainId_quiet F.plain_extend_loop _, ?_⟩) (by rw [hacc]; omega) (by show (acc.push _).size ≤ sizeLine + 1; rw [Array.size_push, hacc]; omega)
    obtain ⟨c2, hL2⟩ := lst_get (f := (·.push (.ref s.heap.objs.size))) hL'
    have oth : ∀ b o, b ≠ S → h'.get? b = some o → (h'.update S (Obj.mapSeq (·.push (.ref s.heap.objs.size)))).get? b = some o := fun b o hb e => (Heap.get?_update_other _ _ (Ne.symm hb)).trans e
    have I2 : Inv X pins σ (upd H s.heap.objs.size (.tup [x, y])) { s with heap := h'.update S (Obj.mapSeq (·.push (.ref s.heap.objs.size))) } :=
      Inv.turnedL (s := { s with heap := h' }) I1 (t' := s.toks) (ch := [S]) (fun b o hb e => oth b o (fun q => hb (by simp [q])) e) (fun b hb => hf1 b (by rw [List.mem_singleton.mp hb]; simp))
    refine ih (i + 1) _ _ (acc.push (.ref s.heap.objs.size)) c2 (outs ++ [.ref s.heap.objs.size]) (by rw [← List.drop_drop, hd]; rfl) hlt I2 hf1 (q'.frame hS oth) hL2 (by rw [Array.toList_push]; exact r.append (.cons rfl .nil)) (by rw [List.length_append, hl]; rfl) fun s' H' acc' c' ts I' hf' hL' hn hv => ?_
    exact hR s' H' acc' c' (.ref s.heap.objs.size :: ts) I' hf' hL' ⟨_, _, rfl, hfr, hn⟩ (by rw [List.append_assoc] at hv; exact hv)
end
section
variable {X : Cx} {pins : List (Addr × Obj)} {σ : L2.St} {z TI TO i1 i2 l1 l2 : Addr} {vx vy : List V} {ix iy : List Value}
/-- extend by a zip -/
theorem extend_zip {R : Result → Shared → Prop} {A : Around} {s : Shared} {H : Hp} {S : Addr} {c₀ : Nat} (hh : A.handled = none) (D : ZipApart z TI TO i1 i2 l1 l2) (hS : ∀ b ∈ [z, TI, TO, i1, i2, l1, l2], b ≠ S) (rx : Vals vx ix) (ry : Vals vy iy) (hx : vx.length ≤ sizeLine) (res : Value)
    (I : Inv X pins σ H s) (hf : ∀ b ∈ [S, z, TO, i1, i2], FpOk X pins H b) (q : ZS s.heap z TI TO i1 i2 l1 l2 S 0 ix.toArray iy.toArray) (hL : s.heap.get? S = some { cls := .type "list", data := .seq #[] c₀ })
    (hR : ∀ s' H' acc' c' ts, Inv X pins σ H' s' → (∀ b ∈ [S, z, TO, i1, i2], FpOk X pins H' b) → s'.heap.get? S = some { cls := .type "list", dict := none, data := .seq acc' c', slots := #[] } → NewT H (vx.zip vy) ts H' → Vals ts acc'.toList → R (.ok (.ret res)) s') :
    wpAny (model X.prog X.w) A.in1 (Builtin.List.listExtendWith (.ref S) (.ref z) res)
      (fun fin s' => match fin with | .done f => R (.ok f) s' | .again c' => c'.quiet = true ∧ codeAny (model X.prog X.w) A c' R s') (fun e s' => R (.error e) s') s := by
  have hSz : S ≠ z := (hS z (by simp)).symm
  have h1 : Builtin.List.listSameRef (.ref S) (.ref z) = false := by simp [Builtin.List.listSameRef, hSz]
  have h2 : (Value.type "zip" == Value.type "list") = false := by decide
  have h3 : (Value.type "zip" == Value.type "tuple") = false := by decide
  unfold Builtin.List.listExtendWith
  refine wpAny_bind (wpAny_typeOf q.ty ?_)
  simp only [h1, h2, h3, Bool.or_false, Bool.false_eq_true, if_false]
  have hit : ∀ {Q : Value → Shared → Prop} {E : Value → Shared → Prop}, Q (.ref z) s → wpAny (model X.prog X.w) A.in1 (pyIter (.ref z)) Q E s := fun h => by
    rcases q.zz with e | ⟨T, f, oT, e, _⟩
    · exact wpAny_pyIter_zip e h
    · have hT : s.TypeIs (.ref z) "zip" := ⟨_, e, rfl⟩
      refine wpAny_pyIter_slot hT F.slot_zip_iter (wpAny_call_entry F.slot_zip_iter hT F.entry_zip_iter ?_ (F.args_zip_iter_1 _))
      show wpAny _ _ (ret (.ref z)) _ _ s
      exact wpAny_pure ⟨_, rfl, "zip", _, hT, F.slot_zip_next.lookup, h⟩
  refine wpAny_bind (hit ?_)
  refine wpAny_bind (wpAny_holding ?_)
  unfold Builtin.List.listLengthHint
  refine wpAny_bind (wpAny_specialOf q.ty zip_no_len ?_)
  show wpAny _ A.in1 (specialOf (Value.ref z) (Str.ofString "__length_hint__") >>= _) _ _ _
  refine wpAny_bind (wpAny_specialOf q.ty zip_no_hint ?_)
  refine wpAny_pure ?_
  show wpAny _ A.in1 (rule "list.extend.makes-room" >>= fun _ => Builtin.List.listTouch (.ref S) >>= fun _ =>
    again (.builtin "list.extend.loop" ⟨[.ref S, .ref z, res], []⟩)) _ _ _
  refine wpAny_bind (wpAny_rule ?_)
  refine wpAny_bind ?_
  show wpAny _ A.in1 (updateSeq S (·.push .none) >>= fun _ => updateSeq S (·.pop)) _ _ _
  refine wpAny_bind (wpAny_updateSeq hL rfl ?_)
  obtain ⟨c1, hL1⟩ := lst_get (f := (·.push Value.none)) hL
  refine wpAny_updateSeq hL1 rfl ?_
  obtain ⟨c2, hL2⟩ := lst_get (f := (·.pop)) hL1
  have oth : ∀ b o, b ≠ S → s.heap.get? b = some o → ((s.heap.update S (Obj.mapSeq (·.push Value.none))).update S (Obj.mapSeq (·.pop))).get? b = some o :=
    fun b o hb e => (Heap.get?_update_other _ _ (Ne.symm hb)).trans ((Heap.get?_update_other _ _ (Ne.symm hb)).trans e)
  have I2 : Inv X pins σ H { s with heap := (s.heap.update S (Obj.mapSeq (·.push Value.none))).update S (Obj.mapSeq (·.pop)) } :=
    I.turnedL (t' := s.toks) (ch := [S]) (fun b o hb e => oth b o (fun q => hb (by simp [q])) e) (fun b hb => hf b (by rw [List.mem_singleton.mp hb]; simp))
  refine wpAny_pure ⟨plainId_quiet F.plain_extend_loop _, loop hh D hS rx ry hx res (vx.zip vy) 0 _ H #[] c2 [] rfl (Nat.zero_le _) I2 hf (q.frame hS oth) hL2 .nil rfl fun s' H' acc' c' ts I' hf' hL' hn hv => ?_⟩
  exact hR s' H' acc' c' ts I' hf' hL' hn hv
end
end Wk.LZ
namespace Wk
open PySem L2 PyProof.Rows
def rLstZip (K : PySem.W.Frag) (Q : VK) (vs : List V) (H1 : Hp) : Prop := ∃ (a b : Addr) (xs ys : List V), vs = [.ref a, .ref b] ∧ SqL K H1 a xs ∧ SqL K H1 b ys ∧ ∀ ts H2, LZ.NewT H1 (xs.zip ys) ts H2 → ∀ q, H2 q = none → Q (.ref q) (upd H2 q (.lst ts))
def tLstZip (K : PySem.W.Frag) (ta : TA) : TE := fun σ H Q => ta σ H (rLstZip K Q)
theorem e_lzip {K : PySem.W.Frag} {ta : TA} {σ : L2.St} {H : Hp} {Q : VK} (h : ta σ H (rLstZip K Q)) : tLstZip K ta σ H Q := h
theorem LZ.len : ∀ {r : List (V × V)} {H : Hp} {ts : List V} {H2 : Hp}, LZ.NewT H r ts H2 → ts.length = r.length
  | [], _, _, _, ⟨a, _⟩ => by rw [a]; rfl
  | (x, y) :: r, _, _, _, ⟨T, ts', a, _, c⟩ => by rw [a, List.length_cons, List.length_cons, LZ.len c]
section
variable {X : Cx}
theorem pe_lstZip {e e2 : Expr} {ta : TA} {p p2 pos pos2 : Pos} (hc : X.calm = true) (hg : Gl X "list") (hm : X.mg "list" = none) (hg2 : Gl X "zip") (hm2 : X.mg "zip" = none) (ha : PA X [e, e2] ta)
    (hs : starEach [e, e2] X.env = (false, eval e X.env) :: starEach [e2] X.env := by rfl) (hpl : (backTo pos2 (starEach [e2] X.env)).any (·.1) = false := by rfl)
    (hs2 : starEach [.Call (.Name "zip" p2) [e, e2] [] pos2] X.env = (false, eval (.Call (.Name "zip" p2) [e, e2] [] pos2) X.env) :: starEach [] X.env := by rfl) :
    PE X (.Call (.Name "list" p) [.Call (.Name "zip" p2) [e, e2] [] pos2] [] pos) (tLstZip X.K ta) := by
  refine ⟨fun pins s σ H Q I h => ?_⟩
  refine Call_ (ld_blt I hg hm PyProof.Rows.boot_list (PyProof.Rows.callWith_type1 (args_cons (Call_ (ld_blt I hg2 hm2 PyProof.Rows.boot_zip (PyProof.Rows.callWith_type1 (thn (ha.run pos2 pins s σ H _ I h) fun us s1 ⟨vs, H1, I1, r1, q1⟩ => ?_) hs hpl))) hs2) hs2 rfl))
  obtain ⟨a, b, xs, ys, ex, hqx, hqy, q⟩ := q1
  subst ex
  cases r1 with
  | cons r rr =>
    cases rr with
    | cons r' rr =>
      cases rr
      cases r
      cases r'
      obtain ⟨its, rv, p1, hz1⟩ := I1.list hqx
      obtain ⟨its2, rv2, p2', _⟩ := I1.list hqy
      have la : a < s1.heap.objs.size := p1.lt
      have lb : b < s1.heap.objs.size := p2'.lt
      refine call_zip_2 p1.isList p2'.isList fun h' hz hTI hTO h1 h2 hsz hk => args_nil ?_
      have D := PySem.W.ktu_apart s1.heap.objs.size a b la lb
      have I2 : Inv X pins σ H1 { s1 with heap := h' } := I1.kept (t' := s1.toks) hk
      -- the list
      refine callType_codes (Q₁ := fun obj s₁ => obj = .ref h'.objs.size ∧ s₁ = { s1 with heap := h'.push { cls := .type "list", data := .seq #[] } }) F.called_list (F.typeCall_list_1 _) F.entry_list_init
        (code_list_new _ ⟨rfl, rfl⟩) fun obj s₁ h₁ => ?_
      obtain ⟨rfl, rfl⟩ := h₁
      have hS : (h'.push { cls := .type "list", data := .seq #[] }).get? h'.objs.size = some { cls := .type "list", data := .seq #[] } := Heap.get?_push_size _ rfl
      refine ⟨⟨_, hS, rfl⟩, F.args_list_init_2 _ _, ?_⟩
      show wpAny _ _ (do let old ← Builtin.List.listItems (.ref h'.objs.size); Builtin.List.listUpdate (.ref h'.objs.size) (fun _ => #[]); letGo old.toList.reverse; Builtin.List.listExtendWith (.ref h'.objs.size) (.ref (s1.heap.objs.size + 4)) .none) _ _ _
      refine wpAny_bind ?_
      unfold Builtin.List.listItems
      refine wpAny_bind (wpAny_seqItems hS rfl (wpAny_pure ?_))
      show wpAny _ _ (updateSeq h'.objs.size (fun _ => #[]) >>= fun _ => letGo (#[] : Array Value).toList.reverse >>= fun _ => Builtin.List.listExtendWith (.ref h'.objs.size) (.ref (s1.heap.objs.size + 4)) .none) _ _ _
      refine wpAny_bind (wpAny_updateSeq hS rfl ?_)
      obtain ⟨c₂, hS₂⟩ : ∃ c, ((h'.push { cls := .type "list", data := .seq #[] }).update h'.objs.size (Obj.mapSeq (fun _ => (#[] : Array Value)))).get? h'.objs.size = some { cls := .type "list", data := .seq #[] c } := ⟨_, Heap.get?_update_self (Obj.mapSeq (fun _ => (#[] : Array Value))) hS rfl⟩
      have oth : ∀ b o, h'.get? b = some o → ((h'.push { cls := .type "list", data := .seq #[] }).update h'.objs.size (Obj.mapSeq (fun _ => (#[] : Array Value)))).get? b = some o :=
        fun b o e => (Heap.get?_update_other _ _ (Nat.ne_of_gt (Heap.lt_size e))).trans (Heap.get?_push_of_some _ e)
      refine wpAny_bind (wpAny_letGo ?_)
      have I3 : Inv X pins σ H1 { s1 with heap := (h'.push { cls := .type "list", data := .seq #[] }).update h'.objs.size (Obj.mapSeq (fun _ => (#[] : Array Value))) } := I1.kept (t' := s1.toks) fun b u e => oth b u (hk b u e)
      have hlt : ∀ {b o}, h'.get? b = some o → b ≠ h'.objs.size := fun e => Nat.ne_of_lt (Heap.lt_size e)
      have hSs : ∀ c ∈ [s1.heap.objs.size + 4, s1.heap.objs.size + 2, s1.heap.objs.size + 3, s1.heap.objs.size, s1.heap.objs.size + 1, a, b], c ≠ h'.objs.size := by
        intro c hc
        rw [hsz]
        have e' : c = s1.heap.objs.size + 4 ∨ c = s1.heap.objs.size + 2 ∨ c = s1.heap.objs.size + 3 ∨ c = s1.heap.objs.size ∨ c = s1.heap.objs.size + 1 ∨ c = a ∨ c = b := by simpa using hc
        refine Nat.ne_of_lt ?_
        rcases e' with e | e | e | e | e | e | e
        · rw [e]; exact Nat.lt_succ_self _
        · rw [e]; exact Nat.add_lt_add_left (by decide) _
        · rw [e]; exact Nat.add_lt_add_left (by decide) _
        · rw [e]; exact Nat.lt_add_of_pos_right (by decide)
        · rw [e]; exact Nat.add_lt_add_left (by decide) _
        · rw [e]; exact Nat.lt_of_lt_of_le la (Nat.le_add_right _ _)
        · rw [e]; exact Nat.lt_of_lt_of_le lb (Nat.le_add_right _ _)
      have hf : ∀ c ∈ [h'.objs.size, s1.heap.objs.size + 4, s1.heap.objs.size + 3, s1.heap.objs.size, s1.heap.objs.size + 1], FpOk X pins H1 c := by
        intro c hc
        have e' : c = h'.objs.size ∨ c = s1.heap.objs.size + 4 ∨ c = s1.heap.objs.size + 3 ∨ c = s1.heap.objs.size ∨ c = s1.heap.objs.size + 1 := by simpa using hc
        have hle : s1.heap.objs.size ≤ c := by
          rw [hsz] at e'
          rcases e' with e | e | e | e | e
          · rw [e]; exact Nat.le_add_right _ _
          · rw [e]; exact Nat.le_add_right _ _
          · rw [e]; exact Nat.le_add_right _ _
          · rw [e]; exact Nat.le_refl _
          · rw [e]; exact Nat.le_add_right _ _
        exact I1.fpOk hle (I1.hok.fresh hle)
      refine LZ.extend_zip (X := X) (pins := pins) (σ := σ) (H := H1) (A := X.A.in1) (R := wants (fun r s₂ => r = Value.none ∧ _) _) (I1.ok.hd hc) D hSs rv rv2 hz1 .none I3 hf ⟨oth _ _ hTI, ⟨_, _, oth _ _ hTO⟩, h1.at fun o e => oth _ o e, h2.at fun o e => oth _ o e, (p1.isList.at fun o e => oth _ o (hk _ o e)), (p2'.isList.at fun o e => oth _ o (hk _ o e)), .inl (oth _ _ hz)⟩ hS₂ fun s' H' acc' c' ts I' hf' hL' hn hv => ?_
      refine ⟨rfl, ?_⟩
      have hl : ts.length ≤ sizeLine := by rw [LZ.len hn, List.length_zip]; exact Nat.le_trans (Nat.min_le_left _ _) hz1
      have hnew : ObjOk X.prog X.w (upd H' h'.objs.size (.lst ts)) s'.heap h'.objs.size (.lst ts) := ⟨hl, acc'.toList, c', hv, by rw [Array.toArray_toList]; exact hL'⟩
      have hfS := hf' h'.objs.size (by simp)
      exact ⟨.ref h'.objs.size, upd H' h'.objs.size (.lst ts), I'.take (t' := s'.toks) (fun _ _ _ e => e) hfS hnew, rfl, q ts H' hn _ hfS.1⟩
end
section
variable {α β : Type} {e : Rep α} {f : Rep β} {K : PySem.W.Frag} {F0 H0 F H H2 : Hp} {p q : Addr} {xs : List α} {ys : List β} {Q : VK}
/-- the new tuples -/
theorem newT_all : ∀ {us vs : List V} {xs : List α} {ys : List β} {F H : Hp} {ts : List V}, Ex F H → All e F us xs → All f F vs ys → LZ.NewT H (us.zip vs) ts H2 →
    ∃ F2, Wf F H F2 H2 ∧ All (pT2 e f) F2 ts (xs.zip ys)
  | [], _, [], _, F, H, ts, hf, _, _, ⟨a, b⟩ => by subst a b; exact ⟨F, Wf.id hf, trivial⟩
  | _ :: _, [], _ :: _, [], F, H, ts, hf, _, _, ⟨a, b⟩ => by subst a b; exact ⟨F, Wf.id hf, trivial⟩
  | u :: us, v :: vs, x :: xs, y :: ys, F, H, ts, hf, ⟨a1, a2⟩, ⟨b1, b2⟩, ⟨T, ts', hts, hT, hn⟩ => by
    subst hts
    have w := Wf.new (o := .tup [u, v]) hf hT
    have g := w.g
    obtain ⟨F2, w2, a⟩ := newT_all w.f (a2.mono g) (b2.mono g) hn
    refine ⟨F2, w.tr w2, ⟨⟨T, u, v, rfl, w2.g _ _ upd_same, e.mono w2.g (e.mono g a1), f.mono w2.g (f.mono g b1)⟩, a⟩⟩
  | [], _, _ :: _, _, _, _, _, _, q, _, _ => q.elim
  | _ :: _, _, [], _, _, _, _, _, q, _, _ => q.elim
  | _ :: _, [], _ :: _, _ :: _, _, _, _, _, _, q, _ => q.elim
  | _ :: _, _ :: _, _ :: _, [], _, _, _, _, _, q, _ => q.elim
theorem n_lzip {v1 v2 : V} (r1 : (pL e).r F v1 xs) (r2 : (pL f).r F v2 ys) (w : Wf F0 H0 F H) (k : ∀ p F' H', H p = none → Wf F H F' H' → XL (pT2 e f) H0 F' H' p (xs.zip ys) → Q (.ref p) H') : rLstZip K Q [v1, v2] H := by
  obtain ⟨p1, us, rfl, h1, a1⟩ := r1
  obtain ⟨p2, vs, rfl, h2, a2⟩ := r2
  refine ⟨p1, p2, us, vs, rfl, SqL.of (w.f _ _ h1), SqL.of (w.f _ _ h2), fun ts H2 hn l hl => ?_⟩
  obtain ⟨F2, w2, a⟩ := newT_all w.f a1 a2 hn
  exact k l F2 _ (w2.h.non hl) (w2.tr (Wf.newX w2.f hl)) ⟨ts, Xc.mk' (w.tr w2) hl, a⟩
end
end Wk
/-! Df: methods with a default, lists that are told inside a tuple, lists of any kind. -/
namespace Wk
open PySem L2
/-- a raw value -/
def pV : Rep V := ⟨fun _ v x => v = x, fun _ h => h⟩
abbrev anN (n : Nat) : An := .i (n : Int)
section
variable {α : Type} {e : Rep α} {F : Hp} {v : V} {xs : List Nat} {ys : List Int}
theorem all_any : ∀ {vs : List V} {xs : List Nat}, All pN F vs xs → All pA F vs (xs.map anN)
  | [], [], _ => trivial
  | _ :: _, _ :: _, ⟨a, b⟩ => ⟨a, all_any b⟩
  | [], _ :: _, q => q.elim
  | _ :: _, [], q => q.elim
theorem L_any (r : (pL pN).r F v xs) : (pL pA).r F v (xs.map anN) := let ⟨p, vs, a, b, c⟩ := r; ⟨p, vs, a, b, all_any c⟩
theorem all_anyI : ∀ {vs : List V} {xs : List Int}, All pI F vs xs → All pA F vs (xs.map An.i)
  | [], [], _ => trivial
  | _ :: _, _ :: _, ⟨a, b⟩ => ⟨a, all_anyI b⟩
  | [], _ :: _, q => q.elim
  | _ :: _, [], q => q.elim
theorem L_anyI (r : (pL pI).r F v ys) : (pL pA).r F v (ys.map An.i) := let ⟨p, vs, a, b, c⟩ := r; ⟨p, vs, a, b, all_anyI c⟩
theorem an_T3 {α β γ : Type} {e : Rep α} {f : Rep β} {g : Rep γ} {y : α × β × γ} (r : (pT3 e f g).r F v y) : pA.r F v (.o "tuple") := let ⟨p, u, w, z, a, b, _⟩ := r; ⟨p, a, .inr (.inl ⟨rfl, _, b⟩)⟩
end
section
variable {α β γ : Type} {e : Rep α} {f : Rep β} {g : Rep γ} {K : PySem.W.Frag} {F H : Hp} {v : V} {x : α × β × γ}
theorem ix_3b (r : (pT3 e f g).r F v x) (h : Ex F H) : ∃ w, f.r F w x.2.1 ∧ ∀ ⦃σ ta tb⦄, Val ta σ H v → Val tb σ H (.int 1) → Val (tOp (rIxT K) ta tb) σ H w := by
  obtain ⟨p, u, w, y, rfl, hp, a, b, c⟩ := r
  exact ⟨w, b, fun _ _ _ ha hb => v2 ha hb fun Q k => ⟨p, _, _, w, rfl, rfl, SqT.of (h _ _ hp), rfl, k⟩⟩
theorem ix_3c (r : (pT3 e f g).r F v x) (h : Ex F H) : ∃ w, g.r F w x.2.2 ∧ ∀ ⦃σ ta tb⦄, Val ta σ H v → Val tb σ H (.int 2) → Val (tOp (rIxT K) ta tb) σ H w := by
  obtain ⟨p, u, w, y, rfl, hp, a, b, c⟩ := r
  exact ⟨y, c, fun _ _ _ ha hb => v2 ha hb fun Q k => ⟨p, _, _, y, rfl, rfl, SqT.of (h _ _ hp), rfl, k⟩⟩
theorem ix_3a (r : (pT3 e f g).r F v x) (h : Ex F H) : ∃ w, e.r F w x.1 ∧ ∀ ⦃σ ta tb⦄, Val ta σ H v → Val tb σ H (.int 0) → Val (tOp (rIxT K) ta tb) σ H w := by
  obtain ⟨p, u, w, y, rfl, hp, a, b, c⟩ := r
  exact ⟨u, a, fun _ _ _ ha hb => v2 ha hb fun Q k => ⟨p, _, _, u, rfl, rfl, SqT.of (h _ _ hp), rfl, k⟩⟩
theorem e_sl {r : V → Option Int → Option Int → Hp → VK → Prop} {te : TE} {tl th : TO} {σ : L2.St} {Q : VK} (h : te σ H fun v H1 => L2.tSl r (tC v) tl th σ H1 Q) : L2.tSl r te tl th σ H Q := h
instance {n m k : Nat} [Dat e n] [Dat f m] [Dat g k] : Dat (pT3 e f g) (max n (max m k) + 1) := ⟨fun x => .tuple [Dat.d e x.1, Dat.d f x.2.1, Dat.d g x.2.2], fun {K F v x} h => by
    obtain ⟨p, u, w, y, rfl, hp, a, b, c⟩ := h
    exact .tup (SqT.of hp) (.cons (Dat.dp a) (.cons (Dat.dp b) (.cons (Dat.dp c) .nil))), fun x => by
    show (PyData.canLay0 (Dat.d e x.1) && (PyData.canLay0 (Dat.d f x.2.1) && (PyData.canLay0 (Dat.d g x.2.2) && PyData.canLayAll0 []))) = true
    rw [Dat.lay, Dat.lay, Dat.lay]; rfl, fun x => by
    have a := Dat.dep (e := e) x.1
    have b := Dat.dep (e := f) x.2.1
    have c := Dat.dep (e := g) x.2.2
    simp only [PyData.depth, PyData.depthAll]
    omega, fun x y => by
    show (PyData.eqv (Dat.d e x.1) (Dat.d e y.1) && (PyData.eqv (Dat.d f x.2.1) (Dat.d f y.2.1) && (PyData.eqv (Dat.d g x.2.2) (Dat.d g y.2.2) && PyData.eqvAll [] []))) = true ↔ _
    have z : PyData.eqvAll [] [] = true := rfl
    rw [z, Bool.and_true, Bool.and_eq_true, Bool.and_eq_true, Dat.inj, Dat.inj, Dat.inj, Prod.ext_iff, Prod.ext_iff]⟩
end
/-- a method with a default -/
structure MdD (P : Program) (w : World) (K : PySem.W.Frag) (mg : Str → Option Value) (base : Heap) (CX : CXT) (k : Nat) (C : Addr) (m : Str) (ps : List Str) (sp : Sp) (dvs : List V) : Prop where
  ex : ∃ f fd, FnOk P w K mg base CX k f fd ps sp ∧ Meth K C m f ∧ Binds K fd ps [] ∧ ∃ ds, Vals dvs ds ∧ Binds K fd ps ds
theorem MdD.full {P : Program} {w : World} {K : PySem.W.Frag} {mg : Str → Option Value} {base : Heap} {CX : CXT} {k : Nat} {C : Addr} {m : Str} {ps : List Str} {sp : Sp} {dvs : List V} (M : MdD P w K mg base CX k C m ps sp dvs) : Md P w K mg base CX k C m ps sp :=
  let ⟨f, fd, a, b, c, _⟩ := M.ex; ⟨f, fd, a, b, c⟩
theorem funD_mk {K : PySem.W.Frag} {x qual : Str} {st : Stmt} {f T : Addr} {oc aT : Value} {od an bT : Option Addr} {osl sT : Array (Option Value)} {kV doc pm cdv ct : Value} {its : Array Value} {n : Nat} {dvs : List V}
    (l : K.lookup f = some ⟨oc, od, .func (PySem.W.fnOf x qual (defArgs st) (defBody st) (defScope st) (.ref T) kV doc pm an cdv ct), osl⟩) (c : PySem.W.codeIn K cdv qual = true) (k : PySem.W.keepIn K (.ref f) = true)
    (lT : K.lookup T = some ⟨aT, bT, .seq its n, sT⟩) (r : Vals dvs its.toList) (hne : dvs ≠ []) : FunD K x qual (defArgs st) (defBody st) (defScope st) dvs [] f (PySem.W.fnOf x qual (defArgs st) (defBody st) (defScope st) (.ref T) kV doc pm an cdv ct) :=
  ⟨⟨oc, od, _, kV, doc, pm, an, cdv, ct, osl, rfl, l, c, .inr ⟨hne, T, _, its.toList, n, rfl, lT, by rw [Array.toArray_toList], r⟩, .inl rfl⟩, k⟩
theorem FunD.full {K : PySem.W.Frag} {x qual : Str} {params : Arguments} {body : List Stmt} {scope : Scope} {dvs : List V} {f : Addr} {fd : FuncData} {ps : List Str} (F : FunD K x qual params body scope dvs [] f fd) (hd : dvs ≠ [])
    (h : ∀ (T : Addr) (kV doc pm : Value) (an : Option Addr) (cdv ct : Value) (us its : List Value), us.length = ps.length → its.length = dvs.length →
      ∃ k, bindArgs (PySem.W.fnOf x qual params body scope (.ref T) kV doc pm an cdv ct) ⟨us, []⟩ = seqItems? (.ref T) >>= k ∧ k (some its.toArray) = pure (ps.zip (us ++ its.drop dvs.length))) : Binds K fd ps [] := by
  obtain ⟨ds, r, b⟩ := F.binds1 (ps := ps) ps.length dvs.length hd (by rw [Nat.sub_self]; rfl) h
  rw [List.drop_length] at r
  cases r
  exact b
section
variable {X : Cx} {k : Nat} {C : Addr} {x m : Str} {ps : List Str} {sp : Sp} {W : WX} {o e : Expr} {es : List Expr} {p pos apos : Pos} {ta : TE} {t : TA} {pl : Sem Bool} {dvs : List V}
theorem run_fnSD {CX : CXT} {f : Addr} {fd : FuncData} {ds : List Value} {E : L2.St → XK} {pins : List (Addr × Obj)} {σ : L2.St} {H : Hp} {s : Shared} {Q : VK} {us : List Value} {vs : List V} (F : FnOk X.prog X.w X.K X.mg X.base CX k f fd ps sp) (hr : Room k X.A) (hb : Binds X.K fd ps ds) (hd : Vals dvs ds) (hx : PassesAt CX X σ (E σ))
    (I : Inv X pins σ H s) (r : Vals vs us) (h : sp (vs ++ dvs) H Q (E σ)) : wpAny (model X.prog X.w) X.A (call (.ref f) us) (EP X pins σ Q) X.xe s := by
  have r2 : Vals (vs ++ dvs) (us ++ ds) := r.append hd
  have hl : (us ++ ds).length = ps.length := by rw [← r2.length]; exact F.len _ _ _ _ h
  refine wpAny_call (codeAny_mono (F.run X.A X.stack s H ⟨us, []⟩ (us ++ ds) (vs ++ dvs) Q (E σ) hr I.env0 (hb s us I.kIn hl) r2 h) fun r s' hq => ?_)
  cases r with
  | error e => exact hx pins H s e s' I hq
  | ok fl =>
    cases fl with
    | ret u => exact I.after hq
    | next => exact False.elim hq
    | brk => exact False.elim hq
    | cont => exact False.elim hq
def tMdD (C : Addr) (m : Str) (sp : Sp) (dvs : List V) (E : L2.St → XK) (ta : TE) (t : TA) : TE := fun σ H Q => ta σ H fun x H1 => ∃ a dx fs, x = .ref a ∧ H1 a = some (.ins C dx fs) ∧ fs.lookup m = none ∧ t σ H1 fun vs H2 => sp (x :: (vs ++ dvs)) H2 Q (E σ)
theorem e_mdD {E : L2.St → XK} {σ : L2.St} {H : Hp} {Q : VK} (h : ta σ H fun x H1 => ∃ a dx fs, x = .ref a ∧ H1 a = some (.ins C dx fs) ∧ fs.lookup m = none ∧ t σ H1 fun vs H2 => sp (x :: (vs ++ dvs)) H2 Q (E σ)) : tMdD C m sp dvs E ta t σ H Q := h
theorem pe_mdD {E : L2.St → XK} (M : MdD X.prog X.w X.K X.mg X.base (L2.CX X.prog X.w) k C m ps sp dvs) (hx : ∀ σ, PassesAt (L2.CX X.prog X.w) X σ (E σ)) (cl : Cls X.K C) (hr : Room k X.A) (he : PE X o ta) (ha : PA X (e :: es) t)
    (hst : starEach (e :: es) X.env = (false, eval e X.env) :: starEach es X.env := by rfl) (hpl : (backTo pos (starEach es X.env)).any (·.1) = false := by rfl)
    (ht : eval (.Call (.Attribute o m apos) (e :: es) [] pos) X.env = (do
      let ov ← eval o X.env
      standAt apos.atName
      let (f, first) ← holding [ov] (getMethod ov m pl)
      callWith pos f first (backTo pos (starEach (e :: es) X.env)) (backToKw pos (keywordEach [] X.env))) := by rfl) :
    PE X (.Call (.Attribute o m apos) (e :: es) [] pos) (tMdD C m sp dvs E ta t) := by
  obtain ⟨f, fd, F, hm, _, ds, hd, hb⟩ := M.ex
  refine ⟨fun pins s σ H Q Iv hh => ?_⟩
  refine PySem.W.methodCall_KW (pl := pl) (thn (he.run pins s σ H _ Iv hh) fun u s1 ⟨x, H1, Iv1, rx, a, dx, fs, ex, ea, lk, qq⟩ => ?_) ht
  subst ex
  obtain rfl : u = Value.ref a := rx
  refine getmeth_ok Iv1 ea cl hm lk ?_
  refine PySem.W.callWith_K (first := [.ref a]) (h₀ := X.base) Iv1.ok.mod.kin hm.kp (thn (ha.run pos pins s1 σ H1 _ Iv1 qq) fun us s2 ⟨vs, H2, Iv2, rv, q2⟩ => ⟨Iv2.kIn, ?_⟩) hst hpl
  exact run_fnSD (us := .ref a :: us) (vs := .ref a :: vs) F hr hb hd (hx σ) Iv2 (.cons rfl rv) q2
end
theorem passAtL {X : Cx} (σ : L2.St) : PassesAt (L2.CX X.prog X.w) X σ E0 := fun pins H s e s' I h => passL pins σ H s e s' I h
/-- xs[:-n] -/
theorem n_cutNeg {α : Type} {e : Rep α} {K : PySem.W.Frag} {σ : L2.St} {F0 H0 F H : Hp} {te th : TE} {v : V} {xs : List α} {Q : VK} {n : Nat} (hn : 0 < n) (r : (pL e).r F v xs) (hv : Val te σ H v) (h2 : Val th σ H (.int (-(n : Int)))) (w : Wf F0 H0 F H)
    (k : ∀ p H', H p = none → Wf F H F H' → XL e H0 F H' p (xs.take (xs.length - n)) → Q (.ref p) H') : L2.tSl (rSlL K) te tNoPart (tPart th) σ H Q := by
  obtain ⟨p, vs, rfl, hp, a⟩ := r
  refine hv _ (h2 _ ⟨_, rfl, p, vs, rfl, SqL.of (w.f _ _ hp), fun l hl => ?_⟩)
  have e1 : cutV vs none (some (-(n : Int))) = vs.take (vs.length - n) := by
    unfold cutV
    have e2 : HT.sIx vs.length vs.length (some (-(n : Int))) = vs.length - n := by
      show (if (-(n : Int)) < 0 then ((-(n : Int)) + (vs.length : Int)).toNat else _) = _
      rw [if_pos (by omega)]; omega
    rw [e2, HT.sIx_none, List.drop_zero, Nat.sub_zero]
  rw [e1, a.len]
  exact k l _ hl (Wf.newX w.f hl) ⟨_, Xc.mk' w hl, a.take _⟩
/-! things that hold nothing of what was there at H -/
def nw (H F : Hp) : Hp := fun a => if H a = none then F a else none
theorem nw_ex {H F F' : Hp} (h : Ex F F') : Ex (nw H F) (nw H F') := fun a o e => by
  unfold nw at e ⊢
  by_cases q : H a = none
  · rw [if_pos q] at e ⊢; exact h a o e
  · rw [if_neg q] at e; cases e
theorem nw_sub {H F : Hp} : Ex (nw H F) F := fun a o e => by
  unfold nw at e
  by_cases q : H a = none
  · rw [if_pos q] at e; exact e
  · rw [if_neg q] at e; cases e
theorem nw_at {H F : Hp} {a : Addr} {o : HO} (h : H a = none) (e : F a = some o) : nw H F a = some o := by unfold nw; rw [if_pos h]; exact e
def Fre {α : Type} (H : Hp) (e : Rep α) (F : Hp) (v : V) (x : α) : Prop := e.r (nw H F) v x
section
variable {α β : Type} {e : Rep α} {f : Rep β} {F0 H0 F F' Fl H H2 F2 : Hp} {v u : V} {x : α} {y : β} {p : Addr} {Q : VK}
theorem Fre.r (h : Fre H e F v x) : e.r F v x := e.mono nw_sub h
theorem Fre.mono (g : Ex F F') (h : Fre H e F v x) : Fre H e F' v x := e.mono (nw_ex g) h
/-- behind a call to which one's own list was lent -/
theorem Fre.back (ex : Ex F H) (hx : Ex F Fl) (s : Wf Fl H F2 H2) (h : Fre H e F2 v x) : ∃ F3, Wf F H F3 H2 ∧ e.r F3 v x := by
  refine ⟨fun a => match nw H F2 a with | some o => some o | none => F a, ⟨s.h, fun a o q => ?_, fun a o q => ?_, fun a o q q0 => ?_⟩, e.mono (fun a o q => ?_) h⟩
  · cases z : nw H F2 a with
    | some o' =>
      have q' : (match nw H F2 a with | some o => some o | none => F a) = some o := q
      rw [z] at q'; cases q'
      exact s.f a _ (nw_sub a _ z)
    | none =>
      have q' : (match nw H F2 a with | some o => some o | none => F a) = some o := q
      rw [z] at q'
      exact s.h a o (ex a o q')
  · show (match nw H F2 a with | some o => some o | none => F a) = some o
    have : nw H F2 a = none := by unfold nw; rw [if_neg (by rw [ex a o q]; simp)]
    rw [this]; exact q
  · cases z : nw H F2 a with
    | some o' =>
      unfold nw at z
      by_cases c : H a = none
      · exact c
      · rw [if_neg c] at z; cases z
    | none =>
      have q' : (match nw H F2 a with | some o => some o | none => F a) = some o := q
      rw [z] at q'
      have q2 : F a = some o := q'
      rw [q0] at q2; cases q2
  · show (match nw H F2 a with | some o => some o | none => F a) = some o
    rw [q]
theorem all_sc {xs : List Nat} {F G : Hp} : ∀ {vs : List V} {xs : List Nat}, All pN F vs xs → All pN G vs xs
  | [], [], _ => trivial
  | _ :: _, _ :: _, ⟨a, b⟩ => ⟨a, all_sc (xs := xs) b⟩
  | [], _ :: _, q => q.elim
  | _ :: _, [], q => q.elim
/-- one's own list of numbers is changed no more, and is new -/
theorem XL.frzN {xs : List Nat} (x : XL pN H0 F H p xs) (w : Wf F0 H0 F H) : ∃ F', Wf F0 H0 F' H ∧ Ex F F' ∧ Fre H0 (pL pN) F' (.ref p) xs ∧ Fz F F' p := by
  obtain ⟨vs, a, b⟩ := x.x
  exact ⟨_, w.freeze a, Ex.new a.n, ⟨p, vs, rfl, nw_at a.z upd_same, all_sc (xs := xs) b⟩, fun q h z => by rw [upd_ne h]; exact z⟩
theorem n_fre2 (w : Wf F0 H0 F H) (a : Fre H0 e F v x) (b : Fre H0 f F u y) (k : ∀ p F' H', Wf F H F' H' → Fre H0 (pT2 e f) F' (.ref p) (x, y) → Q (.ref p) H') : kTup Q [v, u] H :=
  ⟨Nat.le_of_lt (small_len (n := 2) (by decide)), fun p hp => k p _ _ (Wf.new w.f hp) ⟨p, v, u, rfl, nw_at (w.h.non hp) upd_same, Fre.mono (Ex.new (w.f.non hp)) a, Fre.mono (Ex.new (w.f.non hp)) b⟩⟩
theorem T2_TL {z : α × α} (r : (pT2 e e).r F v z) : (pTL e).r F v [z.1, z.2] := let ⟨p, u, w, a, b, c, d⟩ := r; ⟨p, [u, w], a, b, c, d, trivial⟩
end
end Wk
/-! Mm: bits as masks, machines by tables. -/
namespace Wk
/-- the mask of a row of bits -/
def maskB : List Bool → Nat
  | [] => 0
  | b :: bs => b.toNat + 2 * maskB bs
theorem maskB_lt : ∀ bs : List Bool, maskB bs < 2 ^ bs.length
  | [] => by decide
  | b :: bs => by
    have := maskB_lt bs
    have hb : b.toNat ≤ 1 := by cases b <;> decide
    show b.toNat + 2 * maskB bs < 2 ^ (bs.length + 1)
    rw [Nat.pow_succ]; omega
theorem maskB_bit : ∀ (bs : List Bool) (j : Nat), (maskB bs).testBit j = bs.getD j false
  | [], j => by show (0 : Nat).testBit j = _; rw [Nat.zero_testBit]; rfl
  | b :: bs, 0 => by
    show (b.toNat + 2 * maskB bs).testBit 0 = b
    rw [Nat.testBit_zero]
    cases b
    · exact decide_eq_false (by show ¬ (0 + 2 * maskB bs) % 2 = 1; omega)
    · exact decide_eq_true (by show (1 + 2 * maskB bs) % 2 = 1; omega)
  | b :: bs, j + 1 => by
    show (b.toNat + 2 * maskB bs).testBit (j + 1) = bs.getD j false
    have e : (b.toNat + 2 * maskB bs) / 2 = maskB bs := by
      have hb : b.toNat ≤ 1 := by cases b <;> decide
      omega
    rw [← halfBit, e, maskB_bit bs j]
theorem maskB_snoc : ∀ (bs : List Bool) (b : Bool), maskB (bs ++ [b]) = maskB bs + b.toNat <<< bs.length
  | [], b => by show b.toNat + 2 * 0 = 0 + b.toNat <<< 0; rw [Nat.shiftLeft_eq]; omega
  | a :: bs, b => by
    show a.toNat + 2 * maskB (bs ++ [b]) = a.toNat + 2 * maskB bs + b.toNat <<< (bs.length + 1)
    rw [maskB_snoc bs b, Nat.shiftLeft_eq, Nat.shiftLeft_eq, Nat.pow_succ, ← Nat.mul_assoc]; omega
theorem maskB_or (bs : List Bool) (b : Bool) : maskB bs ||| b.toNat <<< bs.length = maskB (bs ++ [b]) := Nat.eq_of_testBit_eq fun j => by
  rw [Nat.testBit_or, maskB_bit, maskB_bit, Nat.testBit_shiftLeft, List.getD_eq_getElem?_getD, List.getD_eq_getElem?_getD]
  by_cases h : j < bs.length
  · rw [List.getElem?_append_left h, decide_eq_false (by omega)]; simp
  · rw [List.getElem?_append_right (by omega), List.getElem?_eq_none (by omega)]
    by_cases e : j = bs.length
    · subst e; rw [Nat.sub_self]; cases b <;> simp
    · rw [List.getElem?_eq_none (by rw [List.length_singleton]; omega)]
      have : b.toNat.testBit (j - bs.length) = false := by
        obtain ⟨k, hk⟩ : ∃ k, j - bs.length = k + 1 := ⟨j - bs.length - 1, by omega⟩
        rw [hk, ← halfBit]
        cases b
        · show (0 / 2 : Nat).testBit k = false; rw [Nat.zero_div, Nat.zero_testBit]
        · show (1 / 2 : Nat).testBit k = false; rw [show (1 / 2 : Nat) = 0 by decide, Nat.zero_testBit]
      rw [this]; simp
theorem NShl_bit {b : Bool} {k : Nat} (h : k < 1000000) : NShl b.toNat k := by
  unfold NShl
  have : b.toNat.log2 = 0 := by cases b <;> decide
  omega
/-- bits below w, all together -/
def px (f : Nat → Bool) : Nat → Bool
  | 0 => false
  | m + 1 => xor (px f m) (f m)
theorem px_congr {f g : Nat → Bool} : ∀ {m : Nat}, (∀ j, j < m → f j = g j) → px f m = px g m
  | 0, _ => rfl
  | m + 1, h => by show xor _ _ = xor _ _; rw [px_congr (m := m) fun j hj => h j (by omega), h m (by omega)]
theorem px_add (f : Nat → Bool) (m : Nat) : ∀ k, px f (m + k) = xor (px f m) (px (fun i => f (m + i)) k)
  | 0 => by show px f m = xor (px f m) false; simp
  | k + 1 => by show xor (px f (m + k)) (f (m + k)) = xor (px f m) (xor _ (f (m + k))); rw [px_add f m k]; simp
theorem px_xor (f g : Nat → Bool) : ∀ k, px (fun i => xor (f i) (g i)) k = xor (px f k) (px g k)
  | 0 => rfl
  | k + 1 => by
    show xor (px _ k) (xor (f k) (g k)) = xor (xor (px f k) (f k)) (xor (px g k) (g k))
    rw [px_xor f g k]; cases px f k <;> cases px g k <;> cases f k <;> cases g k <;> rfl
theorem par_px : ∀ {w n : Nat}, n < 2 ^ w → par n = px n.testBit w
  | 0, n, h => by
    have : n = 0 := by simpa using h
    subst this; rw [par_zero]; rfl
  | w + 1, n, h => by
    rw [par_step, par_px (w := w) (n := n / 2) (by rw [Nat.pow_succ] at h; omega), Nat.add_comm w 1, px_add]
    have e : px n.testBit 1 = n.testBit 0 := by show xor false _ = _; simp
    rw [e, px_congr (f := (n / 2).testBit) (g := fun i => n.testBit (1 + i)) fun j _ => by rw [halfBit, Nat.add_comm]]
theorem px_fold (n k : Nat) : px (n ^^^ n >>> k).testBit k = px n.testBit (k + k) := by
  rw [px_add, ← px_xor]
  exact px_congr fun j _ => by rw [Nat.testBit_xor, Nat.testBit_shiftRight]
def xfold (n : Nat) : Nat := [64, 32, 16, 8, 4, 2, 1].foldl (fun n k => n ^^^ n >>> k) n
theorem par_fold {n : Nat} (h : n < 2 ^ 128) : xfold n &&& 1 = (par n).toNat := by
  have e : par n = px (xfold n).testBit 1 := by
    rw [par_px h]
    show px n.testBit (64 + 64) = _
    rw [← px_fold n 64]
    show px _ (32 + 32) = _
    rw [← px_fold _ 32]
    show px _ (16 + 16) = _
    rw [← px_fold _ 16]
    show px _ (8 + 8) = _
    rw [← px_fold _ 8]
    show px _ (4 + 4) = _
    rw [← px_fold _ 4]
    show px _ (2 + 2) = _
    rw [← px_fold _ 2]
    show px _ (1 + 1) = _
    rw [← px_fold _ 1]
    rfl
  rw [e, Nat.and_one_is_mod]
  show _ = (xor false ((xfold n).testBit 0)).toNat
  rw [Nat.testBit_zero]
  rcases Nat.mod_two_eq_zero_or_one (xfold n) with q | q <;> rw [q] <;> rfl
/-! machines: inputs, pairs of the stores, pairs of the outs -/
abbrev Mach := Nat × List (Nat × Nat) × List (Nat × Nat)
def bitf (p : Nat × Nat) (s r : Nat) : Bool := xor (par (p.1 &&& s)) (par (p.2 &&& r))
def bitsV (ps : List (Nat × Nat)) (s r : Nat) : Nat := maskB (ps.map fun p => bitf p s r)
theorem bitsV_lt (ps : List (Nat × Nat)) (s r : Nat) : bitsV ps s r < 2 ^ ps.length := by
  have := maskB_lt (ps.map fun p => bitf p s r)
  rwa [List.length_map] at this
theorem bitsV_bit (ps : List (Nat × Nat)) (s r j : Nat) : (bitsV ps s r).testBit j = (decide (j < ps.length) && bitf (ps.getD j (0, 0)) s r) := by
  unfold bitsV
  rw [maskB_bit, List.getD_eq_getElem?_getD, List.getD_eq_getElem?_getD, List.getElem?_map]
  by_cases h : j < ps.length
  · rw [List.getElem?_eq_getElem h, decide_eq_true h]; simp
  · rw [List.getElem?_eq_none (by omega), decide_eq_false h]; rfl
structure MOk (M : Mach) : Prop where
  i : M.1 ≤ 6
  n : M.2.1.length ≤ 120
  o : M.2.2.length ≤ 6
  mn : ∀ p ∈ M.2.1, p.1 < 2 ^ M.2.1.length ∧ p.2 < 2 ^ M.1
  mo : ∀ p ∈ M.2.2, p.1 < 2 ^ M.2.1.length ∧ p.2 < 2 ^ M.1
def nextV (M : Mach) (s r : Nat) : Nat := bitsV M.2.1 s r
def outV (M : Mach) (s r : Nat) : Nat := bitsV M.2.2 s r
def walkV (M : Mach) (rows : List Nat) (s : Nat) : List Nat × Nat := rows.foldl (fun t r => (t.1 ++ [outV M t.2 r], nextV M t.2 r)) ([], s)
theorem walkF_len (M : Mach) : ∀ (rows : List Nat) (t : List Nat × Nat), (rows.foldl (fun t r => (t.1 ++ [outV M t.2 r], nextV M t.2 r)) t).1.length = t.1.length + rows.length
  | [], t => rfl
  | r :: rows, t => by
    rw [List.foldl_cons, walkF_len M rows, List.length_append]
    show t.1.length + 1 + rows.length = t.1.length + (rows.length + 1)
    omega
theorem walkV_len (M : Mach) (rows : List Nat) (s : Nat) : (walkV M rows s).1.length = rows.length := by
  unfold walkV; rw [walkF_len]; exact Nat.zero_add _
theorem walkF_lt {M : Mach} : ∀ (rows : List Nat) (t : List Nat × Nat), t.2 < 2 ^ M.2.1.length → (rows.foldl (fun t r => (t.1 ++ [outV M t.2 r], nextV M t.2 r)) t).2 < 2 ^ M.2.1.length
  | [], t, h => h
  | r :: rows, t, h => walkF_lt rows _ (bitsV_lt ..)
theorem walkV_lt {M : Mach} {rows : List Nat} {s : Nat} (h : s < 2 ^ M.2.1.length) : (walkV M rows s).2 < 2 ^ M.2.1.length := walkF_lt rows ([], s) h
theorem walkV_snoc (M : Mach) (rows : List Nat) (r s : Nat) : walkV M (rows ++ [r]) s = ((walkV M rows s).1 ++ [outV M (walkV M rows s).2 r], nextV M (walkV M rows s).2 r) := by
  unfold walkV; rw [List.foldl_append]; rfl
/-! things of any kind -/
def okA (x : An) (w : Nat) : Prop := ∃ n : Nat, x = An.i (n : Int) ∧ n < 2 ^ w
def fineA : An → Prop
  | .o T => T ≠ "int" ∧ T ≠ "bool"
  | _ => True
theorem isA_int (x : An) (h : fineA x) : (isA "int" x = true ∧ ¬ isA "bool" x = true) ↔ ∃ z : Int, x = An.i z := by
  cases x with
  | i z => exact ⟨fun _ => ⟨z, rfl⟩, fun _ => by simp [isA, An.ty]⟩
  | b b => exact ⟨fun q => absurd (by simp [isA, An.ty]) q.2, fun ⟨z, e⟩ => by cases e⟩
  | n => exact ⟨fun q => absurd q.1 (by simp [isA, An.ty]), fun ⟨z, e⟩ => by cases e⟩
  | s t => exact ⟨fun q => absurd q.1 (by simp [isA, An.ty]), fun ⟨z, e⟩ => by cases e⟩
  | l t => exact ⟨fun q => absurd q.1 (by simp [isA, An.ty]), fun ⟨z, e⟩ => by cases e⟩
  | t t => exact ⟨fun q => absurd q.1 (by simp [isA, An.ty]), fun ⟨z, e⟩ => by cases e⟩
  | o T =>
    refine ⟨fun q => absurd q.1 ?_, fun ⟨z, e⟩ => by cases e⟩
    obtain ⟨h1, h2⟩ := h
    unfold isA An.ty
    simp [h1, h2]
section
variable {α : Type}
theorem enumT_snd (xs : List α) : (enumT xs).map (·.2) = xs := by
  unfold enumT
  exact List.map_snd_zip (by rw [List.length_range]; exact Nat.le_refl _)
theorem enumT_split {xs : List α} {pre post : List (Nat × α)} {x : Nat × α} (h : enumT xs = pre ++ x :: post) : x.1 = pre.length ∧ xs = pre.map (·.2) ++ x.2 :: post.map (·.2) := by
  constructor
  · have e := enumT_get xs pre.length
    rw [h, List.getElem?_append_right (Nat.le_refl _), Nat.sub_self] at e
    have e' : some x = xs[pre.length]?.map fun y => (pre.length, y) := e
    cases q : xs[pre.length]? with
    | none => rw [q] at e'; cases e'
    | some y => rw [q] at e'; cases e'; rfl
  · have e := enumT_snd xs
    rw [h, List.map_append, List.map_cons] at e
    exact e.symm
theorem w_bits {ps : List α} {body : Nat × α → Nat → (Nat → Prop) → (Nat → Prop) → Prop} {k : Nat → Prop} (f : α → Bool) (hb : ∀ pre p post nx bk, ps = pre ++ p :: post → nx (maskB ((pre ++ [p]).map f)) → body (pre.length, p) (maskB (pre.map f)) nx bk) (hk : k (maskB (ps.map f))) : forW (enumT ps) 0 body k := by
  refine forW_ind (fun pre s => s = maskB ((pre.map (·.2)).map f)) rfl (fun pre x post s nx bk e hs hn _ => ?_) fun s hs => ?_
  · obtain ⟨e1, e2⟩ := enumT_split e
    obtain ⟨i, p⟩ := x
    have e1' : i = pre.length := e1
    subst hs e1'
    have := hb (pre.map (·.2)) p (post.map (·.2)) nx bk e2 (hn _ (by rw [List.map_append, List.map_append, List.map_append]; rfl))
    rwa [List.length_map] at this
  · rw [hs, enumT_snd]; exact hk
theorem forW_enum {S : Type} {ps : List α} {s : S} {body : Nat × α → S → (S → Prop) → (S → Prop) → Prop} {k : S → Prop} (P : List α → S → Prop) (h0 : P [] s)
    (hb : ∀ pre p post s nx bk, ps = pre ++ p :: post → P pre s → (∀ s', P (pre ++ [p]) s' → nx s') → body (pre.length, p) s nx bk) (hk : ∀ s, P ps s → k s) : forW (enumT ps) s body k := by
  refine forW_ind (fun pre s => P (pre.map (·.2)) s) h0 (fun pre x post s nx bk e hs hn _ => ?_) fun s hs => ?_
  · obtain ⟨e1, e2⟩ := enumT_split e
    obtain ⟨i, p⟩ := x
    have e1' : i = pre.length := e1
    subst e1'
    have := hb (pre.map (·.2)) p (post.map (·.2)) s nx bk e2 hs (fun s' h => hn s' (by rw [List.map_append]; exact h))
    rwa [List.length_map] at this
  · rw [enumT_snd] at hs; exact hk s hs
end
/-! what a mask over the next bits hangs on -/
def fsts (ps : List (Nat × Nat)) : List Nat := ps.map (·.1)
def snds (ps : List (Nat × Nat)) : List Nat := ps.map (·.2)
def backV (M : Mach) (m : Nat) : Nat × Nat := (comb (fsts M.2.1) m, comb (snds M.2.1) m)
theorem fsts_getD (ps : List (Nat × Nat)) (j : Nat) : (fsts ps).getD j 0 = (ps.getD j (0, 0)).1 := by
  unfold fsts
  rw [List.getD_eq_getElem?_getD, List.getD_eq_getElem?_getD, List.getElem?_map]
  cases ps[j]? <;> rfl
theorem snds_getD (ps : List (Nat × Nat)) (j : Nat) : (snds ps).getD j 0 = (ps.getD j (0, 0)).2 := by
  unfold snds
  rw [List.getD_eq_getElem?_getD, List.getD_eq_getElem?_getD, List.getElem?_map]
  cases ps[j]? <;> rfl
theorem back_law (ps : List (Nat × Nat)) {m s r : Nat} (hm : m < 2 ^ ps.length) : par (m &&& bitsV ps s r) = xor (par (comb (fsts ps) m &&& s)) (par (comb (snds ps) m &&& r)) := by
  have l1 : (fsts ps).length = ps.length := by unfold fsts; rw [List.length_map]
  have l2 : (snds ps).length = ps.length := by unfold snds; rw [List.length_map]
  rw [par_dot hm, par_comb, par_comb, l1, l2, ← dot_xor]
  exact dot_congr fun j hj => by rw [bitsV_bit, decide_eq_true hj, fsts_getD, snds_getD]; rfl
theorem back_lt {M : Mach} (h : MOk M) (m : Nat) : (backV M m).1 < 2 ^ M.2.1.length ∧ (backV M m).2 < 2 ^ M.1 := by
  constructor
  · refine comb_lt fun r hr => ?_
    obtain ⟨p, hp, e⟩ := List.mem_map.mp (show r ∈ List.map _ _ from hr)
    rw [← e]; exact (h.mn p hp).1
  · refine comb_lt fun r hr => ?_
    obtain ⟨p, hp, e⟩ := List.mem_map.mp (show r ∈ List.map _ _ from hr)
    rw [← e]; exact (h.mn p hp).2
theorem back_fold (ps : List (Nat × Nat)) (m : Nat) : ∀ k, k ≤ ps.length → (bl k m).foldl (fun (t : Nat × Nat) p => (t.1 ^^^ (ps.getD p (0, 0)).1, t.2 ^^^ (ps.getD p (0, 0)).2)) (0, 0) = (comb (fsts (ps.take k)) m, comb (snds (ps.take k)) m)
  | 0, _ => rfl
  | k + 1, hk => by
    have e2 : ps.take (k + 1) = ps.take k ++ [ps[k]'(by omega)] := List.take_succ_eq_append_getElem (by omega)
    have eg : ps.getD k (0, 0) = ps[k]'(by omega) := by rw [List.getD_eq_getElem?_getD, List.getElem?_eq_getElem (by omega)]; rfl
    have el : (ps.take k).length = k := by rw [List.length_take]; omega
    have f1 : fsts (ps.take (k + 1)) = fsts (ps.take k) ++ [(ps[k]'(by omega)).1] := by unfold fsts; rw [e2, List.map_append]; rfl
    have f2 : snds (ps.take (k + 1)) = snds (ps.take k) ++ [(ps[k]'(by omega)).2] := by unfold snds; rw [e2, List.map_append]; rfl
    have n1 : (fsts (ps.take k)).length = k := by unfold fsts; rw [List.length_map, el]
    have n2 : (snds (ps.take k)).length = k := by unfold snds; rw [List.length_map, el]
    rw [bl_snoc, List.foldl_append, back_fold ps m k (by omega), f1, f2, comb_snoc, comb_snoc, n1, n2]
    by_cases q : m.testBit k = true
    · rw [if_pos q, if_pos q, if_pos q, ← eg]; rfl
    · rw [if_neg q, if_neg q, if_neg q, Nat.xor_zero, Nat.xor_zero]; rfl
/-- the rows that hand one sign in -/
def signAt (which t : Nat) : Nat := if t = 0 then 2 ^ which else 0
def signRows (which turns : Nat) : List Nat := (List.range turns).map (signAt which)
theorem signRows_eq (which turns : Nat) : cutT ([2 ^ which] ++ (List.replicate turns [0]).flatten) none (some turns) = signRows which turns := by
  have e0 : ∀ n : Nat, (List.replicate n [0]).flatten = List.replicate n (0 : Nat) := fun n => by
    induction n with
    | zero => rfl
    | succ n ih => rw [List.replicate_succ, List.flatten_cons, ih, List.replicate_succ]; rfl
  show List.take turns _ = _
  rw [e0]
  cases turns with
  | zero => rfl
  | succ k =>
    unfold signRows
    rw [List.range_succ_eq_map, List.map_cons, List.map_map]
    show List.take (k + 1) (2 ^ which :: List.replicate (k + 1) 0) = _
    rw [List.take_succ_cons, List.take_replicate, Nat.min_eq_left (Nat.le_succ k)]
    show _ = 2 ^ which :: _
    congr 1
    refine List.ext_getElem (by simp) fun i h1 h2 => ?_
    simp [signAt]
theorem signRows_lt {which turns i : Nat} (h : which < i) : ∀ r ∈ signRows which turns, r < 2 ^ i := fun r hr => by
  obtain ⟨t, _, e⟩ := List.mem_map.mp (show r ∈ List.map _ _ from hr)
  rw [← e]; unfold signAt
  by_cases q : t = 0
  · rw [if_pos q]; exact Nat.pow_lt_pow_right (by decide) h
  · rw [if_neg q]; exact Nat.two_pow_pos _
theorem signRows_len (which turns : Nat) : (signRows which turns).length = turns := by unfold signRows; rw [List.length_map, List.length_range]
end Wk
/-! Rg: a linear turn over and over, polynomials of it. -/
namespace Wk
/-- v behind i turns -/
def itV (f : Nat → Nat) (v : Nat) : Nat → Nat
  | 0 => v
  | i + 1 => f (itV f v i)
theorem itV_add (f : Nat → Nat) (v a : Nat) : ∀ b, itV f v (a + b) = itV f (itV f v a) b
  | 0 => rfl
  | b + 1 => by show f (itV f v (a + b)) = f (itV f (itV f v a) b); rw [itV_add f v a b]
theorem itV_succ (f : Nat → Nat) (v : Nat) (b : Nat) : itV f v (b + 1) = itV f (f v) b := by rw [Nat.add_comm, itV_add]; rfl
structure Lin (f : Nat → Nat) : Prop where
  z : f 0 = 0
  x : ∀ a b, f (a ^^^ b) = f a ^^^ f b
theorem Lin.it {f : Nat → Nat} (h : Lin f) (i : Nat) : Lin (fun v => itV f v i) := by
  induction i with
  | zero => exact ⟨rfl, fun _ _ => rfl⟩
  | succ i ih => exact ⟨by show f (itV f 0 i) = 0; rw [show itV f 0 i = 0 from ih.z, h.z], fun a b => by show f (itV f (a ^^^ b) i) = f (itV f a i) ^^^ f (itV f b i); rw [show itV f (a ^^^ b) i = itV f a i ^^^ itV f b i from ih.x a b, h.x]⟩
/-- a polynomial of the turn, at v -/
def pa (f : Nat → Nat) (v q : Nat) : Nat := if h : q = 0 then 0 else (if q.testBit 0 = true then v else 0) ^^^ pa f (f v) (q / 2)
termination_by q
decreasing_by omega
theorem pa_zero (f : Nat → Nat) (v : Nat) : pa f v 0 = 0 := by rw [pa]; simp
theorem pa_step (f : Nat → Nat) (v q : Nat) : pa f v q = (if q.testBit 0 = true then v else 0) ^^^ pa f (f v) (q / 2) := by
  by_cases h : q = 0
  · subst h; rw [Nat.zero_div, pa_zero, pa_zero, Nat.zero_testBit, if_neg (by simp)]; rfl
  · rw [pa, dif_neg h]
section
variable {f : Nat → Nat}
theorem pa_lin0 (h : Lin f) : ∀ q : Nat, pa f 0 q = 0 := by
  intro q
  induction q using Nat.strongRecOn with
  | ind q ih =>
    by_cases z : q = 0
    · subst z; exact pa_zero f 0
    · rw [pa_step, h.z, ih (q / 2) (by omega), ite_self]; rfl
theorem pa_linx (h : Lin f) : ∀ (q a b : Nat), pa f (a ^^^ b) q = pa f a q ^^^ pa f b q := by
  intro q
  induction q using Nat.strongRecOn with
  | ind q ih =>
    intro a b
    by_cases z : q = 0
    · subst z; rw [pa_zero, pa_zero, pa_zero]; rfl
    · rw [pa_step f (a ^^^ b), pa_step f a, pa_step f b, h.x, ih (q / 2) (by omega)]
      by_cases c : q.testBit 0 = true
      · rw [if_pos c, if_pos c, if_pos c, xor_swap]
      · rw [if_neg c, if_neg c, if_neg c, Nat.zero_xor, Nat.zero_xor, Nat.zero_xor]
theorem pa_xor : ∀ (p q v : Nat), pa f v (p ^^^ q) = pa f v p ^^^ pa f v q := by
  intro p
  induction p using Nat.strongRecOn with
  | ind p ih =>
    intro q v
    by_cases z : p = 0
    · subst z; rw [Nat.zero_xor, pa_zero, Nat.zero_xor]
    · rw [pa_step f v (p ^^^ q), pa_step f v p, pa_step f v q, half_xor, ih (p / 2) (by omega), Nat.testBit_xor]
      cases p.testBit 0 <;> cases q.testBit 0 <;> simp
      · rw [← Nat.xor_assoc, ← Nat.xor_assoc, Nat.xor_comm v (pa f (f v) (p / 2))]
      · rw [Nat.xor_assoc]
      · rw [xor_swap, Nat.xor_self, Nat.zero_xor]
theorem pa_turn (h : Lin f) : ∀ (q v : Nat), f (pa f v q) = pa f (f v) q := by
  intro q
  induction q using Nat.strongRecOn with
  | ind q ih =>
    intro v
    by_cases z : q = 0
    · subst z; rw [pa_zero, pa_zero, h.z]
    · rw [pa_step f v q, pa_step f (f v) q, h.x, ih (q / 2) (by omega)]
      by_cases c : q.testBit 0 = true
      · rw [if_pos c, if_pos c]
      · rw [if_neg c, if_neg c, h.z]
theorem pa_two (v q : Nat) : pa f v (2 * q) = pa f (f v) q := by
  have e1 : (2 * q).testBit 0 = false := by rw [Nat.testBit_zero]; exact decide_eq_false (by omega)
  have e2 : 2 * q / 2 = q := by omega
  rw [pa_step, e1, e2, if_neg (by simp), Nat.zero_xor]
theorem pa_pm (h : Lin f) (a : Nat) : ∀ (b v : Nat), pa f v (pm a b) = pa f (pa f v a) b := by
  intro b
  induction b using Nat.strongRecOn with
  | ind b ih =>
    intro v
    by_cases z : b = 0
    · subst z; rw [pm_zero, pa_zero, pa_zero]
    · rw [pm_half, pa_xor, pa_two, ih (b / 2) (by omega), pa_step f (pa f v a) b, pa_turn h]
      by_cases c : b.testBit 0 = true
      · rw [if_pos c, if_pos c]
      · rw [if_neg c, if_neg c, pa_zero]
theorem pa_one (v : Nat) : pa f v 1 = v := by
  rw [pa_step, if_pos (by decide), show 1 / 2 = 0 by decide, pa_zero, Nat.xor_zero]
theorem pa_pow : ∀ (i v : Nat), pa f v (2 ^ i) = itV f v i
  | 0, v => pa_one v
  | i + 1, v => by rw [Nat.pow_succ, Nat.mul_comm, pa_two, pa_pow i (f v), itV_succ]
/-- the states one behind another -/
def orb (f : Nat → Nat) (v k : Nat) : List Nat := (List.range k).map (itV f v)
theorem orb_len (v k : Nat) : (orb f v k).length = k := by unfold orb; rw [List.length_map, List.length_range]
theorem orb_snoc (v k : Nat) : orb f v (k + 1) = orb f v k ++ [itV f v k] := by unfold orb; rw [List.range_succ, List.map_append]; rfl
theorem orb_take (v : Nat) {j k : Nat} (h : j ≤ k) : (orb f v k).take j = orb f v j := by
  unfold orb
  rw [← List.map_take, List.take_range, Nat.min_eq_left h]
theorem orb_getD (v : Nat) {j k : Nat} (h : j < k) : (orb f v k).getD j 0 = itV f v j := by
  unfold orb
  rw [List.getD_eq_getElem?_getD, List.getElem?_map, List.getElem?_range h]; rfl
theorem split_top {k q : Nat} (h : q < 2 ^ (k + 1)) : q = (q % 2 ^ k) ^^^ (if q.testBit k = true then 2 ^ k else 0) := Nat.eq_of_testBit_eq fun i => by
  rw [Nat.testBit_xor, Nat.testBit_mod_two_pow]
  by_cases c : q.testBit k = true
  · rw [if_pos c, Nat.testBit_two_pow]
    by_cases o : i = k
    · subst o; rw [c]; simp
    · by_cases o2 : i < k
      · rw [decide_eq_true o2, decide_eq_false (fun z => o z.symm)]; simp
      · rw [decide_eq_false o2, decide_eq_false (fun z => o z.symm), testBit_big h (by omega)]; rfl
  · rw [if_neg c, Nat.zero_testBit]
    by_cases o2 : i < k
    · rw [decide_eq_true o2]; simp
    · rw [decide_eq_false o2]
      by_cases o : i = k
      · subst o; simpa using c
      · rw [testBit_big h (by omega)]; rfl
theorem pa_comb (v : Nat) : ∀ (k q : Nat), q < 2 ^ k → pa f v q = comb (orb f v k) q
  | 0, q, h => by
    have : q = 0 := by simpa using h
    subst this; rw [pa_zero, comb_zero]
  | k + 1, q, h => by
    have hl : q % 2 ^ k < 2 ^ k := Nat.mod_lt _ (Nat.two_pow_pos k)
    rw [orb_snoc, comb_snoc, orb_len]
    have e1 : comb (orb f v k) q = comb (orb f v k) (q % 2 ^ k) := comb_ext fun j hj => by
      rw [orb_len] at hj
      rw [Nat.testBit_mod_two_pow, decide_eq_true hj, Bool.true_and]
    rw [e1, ← pa_comb v k _ hl]
    conv => lhs; rw [split_top h]
    rw [pa_xor]
    congr 1
    by_cases c : q.testBit k = true
    · rw [if_pos c, if_pos c, pa_pow]
    · rw [if_neg c, if_neg c, pa_zero]
theorem orb_span {v k : Nat} {w : Nat} : Span (orb f v k) w ↔ ∃ q, q < 2 ^ k ∧ pa f v q = w := by
  constructor
  · rintro ⟨S, e⟩
    have hl : S % 2 ^ k < 2 ^ k := Nat.mod_lt _ (Nat.two_pow_pos k)
    refine ⟨S % 2 ^ k, hl, ?_⟩
    rw [pa_comb v k _ hl, ← e]
    exact comb_ext fun j hj => by
      rw [orb_len] at hj
      rw [Nat.testBit_mod_two_pow, decide_eq_true hj, Bool.true_and]
  · rintro ⟨q, hq, e⟩
    exact ⟨q, by rw [← pa_comb v k q hq]; exact e⟩
/-- the least polynomial that brings v to 0 -/
structure Least (f : Nat → Nat) (v mu : Nat) : Prop where
  n : mu ≠ 0
  k : pa f v mu = 0
  l : ∀ q, q ≠ 0 → bits q < bits mu → pa f v q ≠ 0
theorem least_of (v m D : Nat) (hD : D < 2 ^ m) (h : comb (orb f v m) D = itV f v m) (hn : ∀ m', m' < m → ¬ Span (orb f v m') (itV f v m')) : Least f v (D ^^^ 2 ^ m) := by
  have hb : (D ^^^ 2 ^ m).testBit m = true := by rw [Nat.testBit_xor, testBit_big hD (Nat.le_refl _), Nat.testBit_two_pow, decide_eq_true rfl]; rfl
  have ne : D ^^^ 2 ^ m ≠ 0 := fun z => by rw [z, Nat.zero_testBit] at hb; cases hb
  refine ⟨ne, ?_, fun q hq hl hz => ?_⟩
  · rw [pa_xor, pa_pow, pa_comb v m D hD, h, Nat.xor_self]
  · have h1 : D ^^^ 2 ^ m < 2 ^ (m + 1) := Nat.xor_lt_two_pow (Nat.lt_trans hD (Nat.pow_lt_pow_right (by decide) (by omega))) (Nat.pow_lt_pow_right (by decide) (by omega))
    have h2 := bits_le.mpr h1
    have hp := bits_pos hq
    have hk : bits q - 1 < m := by omega
    refine hn _ hk (orb_span.mpr ⟨q % 2 ^ (bits q - 1), Nat.mod_lt _ (Nat.two_pow_pos _), ?_⟩)
    have h3 : q < 2 ^ (bits q - 1 + 1) := by rw [Nat.sub_add_cancel hp]; exact bits_le.mp (Nat.le_refl _)
    have e := split_top h3
    rw [if_pos (bits_bit hq)] at e
    rw [e, pa_xor, pa_pow] at hz
    exact xor0 hz
theorem least_bits {v m D : Nat} (hD : D < 2 ^ m) : bits (D ^^^ 2 ^ m) = m + 1 := by
  have hb : (D ^^^ 2 ^ m).testBit m = true := by rw [Nat.testBit_xor, testBit_big hD (Nat.le_refl _), Nat.testBit_two_pow, decide_eq_true rfl]; rfl
  have h1 : D ^^^ 2 ^ m < 2 ^ (m + 1) := Nat.xor_lt_two_pow (Nat.lt_trans hD (Nat.pow_lt_pow_right (by decide) (by omega))) (Nat.pow_lt_pow_right (by decide) (by omega))
  have h2 := bits_le.mpr h1
  refine Nat.le_antisymm h2 (Nat.lt_of_not_le fun z => ?_)
  rw [testBit_big (bits_le.mp z) (Nat.le_refl _)] at hb; cases hb
end
theorem two_pow_range {n : Nat} {g : Nat → Nat} (hg : Lin g) : ∀ {x : Nat}, x < 2 ^ n → comb ((List.range n).map fun k => g (2 ^ k)) x = g x := by
  induction n with
  | zero =>
    intro x h
    have : x = 0 := by simpa using h
    subst this; rw [comb_zero, hg.z]
  | succ n ih =>
    intro x h
    have hl : x % 2 ^ n < 2 ^ n := Nat.mod_lt _ (Nat.two_pow_pos n)
    rw [List.range_succ, List.map_append]
    show comb (_ ++ [g (2 ^ n)]) x = _
    rw [comb_snoc, List.length_map, List.length_range]
    have e1 : comb ((List.range n).map fun k => g (2 ^ k)) x = comb ((List.range n).map fun k => g (2 ^ k)) (x % 2 ^ n) := comb_ext fun j hj => by
      rw [List.length_map, List.length_range] at hj
      rw [Nat.testBit_mod_two_pow, decide_eq_true hj, Bool.true_and]
    rw [e1, ih hl]
    conv => rhs; rw [split_top h]
    rw [hg.x]
    congr 1
    by_cases c : x.testBit n = true
    · rw [if_pos c, if_pos c]
    · rw [if_neg c, if_neg c, hg.z]
/-- the turn with rows 0 -/
theorem lin_bits (ps : List (Nat × Nat)) : Lin (fun s => bitsV ps s 0) := by
  have b0 : ∀ p s, bitf p s 0 = par (p.1 &&& s) := fun p s => by unfold bitf; rw [Nat.and_zero, par_zero]; simp
  constructor
  · refine Nat.eq_of_testBit_eq fun j => ?_
    rw [bitsV_bit, b0, Nat.and_zero, par_zero, Nat.zero_testBit]; simp
  · intro a b
    refine Nat.eq_of_testBit_eq fun j => ?_
    have ax : ∀ c a b : Nat, c &&& (a ^^^ b) = (c &&& a) ^^^ (c &&& b) := fun c a b => Nat.eq_of_testBit_eq fun i => by
      rw [Nat.testBit_and, Nat.testBit_xor, Nat.testBit_xor, Nat.testBit_and, Nat.testBit_and]
      cases a.testBit i <;> cases b.testBit i <;> cases c.testBit i <;> rfl
    rw [Nat.testBit_xor, bitsV_bit, bitsV_bit, bitsV_bit, b0, b0, b0, ax, par_xor]
    cases decide (j < ps.length) <;> simp
theorem itV_lt {f : Nat → Nat} {n : Nat} (hf : ∀ s, f s < 2 ^ n) {v : Nat} (hv : v < 2 ^ n) : ∀ i, itV f v i < 2 ^ n
  | 0 => hv
  | i + 1 => hf _
end Wk
/-! Ei: except .. as e, isinstance of e; walks backward; lists of any kind that are of one kind. -/
namespace Wk
open PySem L2
def tTryAs (K : PySem.W.Frag) (c : Value) (i : Nat) (tb : WX → TS) (ts : Addr → Value → Option Addr → TS) (Wout : WX) : TS := fun D σ H => tb (wAs K c i ts Wout D) D σ H
theorem a_tryAs {K : PySem.W.Frag} {c : Value} {i : Nat} {tb : WX → TS} {ts : Addr → Value → Option Addr → TS} {Wout : WX} {D : Ends} {σ : L2.St} {H : Hp} (h : tb (wAs K c i ts Wout D) D σ H) : tTryAs K c i tb ts Wout D σ H := h
theorem a_excAs {K : PySem.W.Frag} {c cls : Value} {i : Nat} {d : Option Addr} {ts : Addr → Value → Option Addr → TS} {Wout : WX} {D : Ends} {σ : L2.St} {H : Hp} (he : PySem.W.exmOne K cls c = some true)
    (h : ∀ a, H a = none → ts a cls d { nx := fun σ' H' => D.nx (σ'.set i none) H', rt := D.rt, bk := fun σ' H' => D.bk (σ'.set i none) H', ct := fun σ' H' => D.ct (σ'.set i none) H' } (σ.set i (some (.ref a))) H) : wAs K c i ts Wout D cls d σ H :=
  ⟨true, he, fun _ => h, fun q => Bool.noConfusion q⟩
theorem a_excAsO {K : PySem.W.Frag} {c cls : Value} {i : Nat} {d : Option Addr} {ts : Addr → Value → Option Addr → TS} {Wout : WX} {D : Ends} {σ : L2.St} {H : Hp} (he : PySem.W.exmOne K cls c = some false) (h : Wout cls d σ H) : wAs K c i ts Wout D cls d σ H :=
  ⟨false, he, fun q => Bool.noConfusion q, fun _ => h⟩
/-- isinstance of the exception that is held -/
def tIsE (K : PySem.W.Frag) (i : Nat) (cls : Value) (d : Option Addr) (a C : Addr) : TE := fun σ H Q => ∃ (D : Addr) (b : Bool), cls = .ref D ∧ d = none ∧ ExcC K D ∧ PySem.W.kitOne K (.ref D) (.ref C) = some b ∧ σ[i]? = some (some (.ref a)) ∧ Q (.bl b) H
theorem pe_isE {X : Cx} {a C : Addr} {oe : Obj} {cls : Value} {d : Option Addr} {pn : List (Addr × Obj)} {i : Nat} {x c : Str} {pf px pc pos : Pos} (hz : Zc cls d oe) (hf : ∃ vs, oe.data = .fields vs) (hg : Gl X "isinstance") (hm : X.mg "isinstance" = none)
    (hx : PE (X.suite a ((a, oe) :: pn)) (.Name x px) (tVar i)) (hc : Gl X c) (hcm : X.mg c = some (.ref C)) (hd : (c == ("__debug__" : Str)) = false := by decide)
    (he : starEach [.Name x px, .Name c pc] X.env = (false, eval (.Name x px) X.env) :: starEach [.Name c pc] X.env := by rfl) (he2 : starEach [.Name c pc] X.env = (false, eval (.Name c pc) X.env) :: starEach [] X.env := by rfl)
    (hpl : (backTo pos (starEach [.Name c pc] X.env)).any (·.1) = false := by rfl) :
    PE (X.suite a ((a, oe) :: pn)) (.Call (.Name "isinstance" pf) [.Name x px, .Name c pc] [] pos) (tIsE X.K i cls d a C) := by
  refine ⟨fun pins s σ H Q I h => ?_⟩
  obtain ⟨D, b, rfl, rfl, hC, hk, hs, q⟩ := h
  have hcl : PE (X.suite a ((a, oe) :: pn)) (.Name c pc) (tC (.ref C)) := pe_glob (X := X.suite a ((a, oe) :: pn)) hc hcm rfl hd
  have ha : PA (X.suite a ((a, oe) :: pn)) [.Name x px, .Name c pc] (tCons (tVar i) (tCons (tC (.ref C)) tNil)) := pa_cons hx (pa_cons hcl pa_nil)
  exact (pe_callB (X := X.suite a ((a, oe) :: pn)) (call_isE (X := X) (pn := pn) hC hz hf) hg hm PyProof.Rows.boot_isinstance ha (by decide) (by decide) he hpl).run pins s σ H Q I
    ⟨_, hs, _, _, b, rfl, fun u ru => (show u = Value.ref C from ru), hk, q⟩
theorem kit_own {K : PySem.W.Frag} {S T : Addr} {b : Bool} (h2 : PySem.W.isClsIn K T = true) (h3 : PySem.W.typeIn K (.ref T) = some (.type "type")) (h0 : PySem.W.subIn K (.ref S) (.ref S) = some true) (h4 : PySem.W.subIn K (.ref S) (.ref T) = some b) :
    PySem.W.kitOne K (.ref S) (.ref T) = some b := by
  have e2 : ((PySem.W.clsIn K T).isSome && PySem.W.typeIn K (.ref T) == some (.type "type")) = true := by
    have h2' : (PySem.W.clsIn K T).isSome = true := h2
    rw [h2', h3]; rfl
  show (if ((Value.ref S == Value.ref T) = true) then some true else (if ((PySem.W.clsIn K T).isSome && PySem.W.typeIn K (.ref T) == some (.type "type")) = true then PySem.W.subIn K (.ref S) (.ref T) else none)) = some b
  by_cases q : (Value.ref S == Value.ref T) = true
  · rw [if_pos q]
    have e : S = T := Value.ref.inj (beq_iff_eq.mp q)
    subst e
    rw [h0] at h4; exact h4
  · rw [if_neg q, if_pos e2]; exact h4
section
variable {α : Type} {e : Rep α} {K : PySem.W.Frag} {F H : Hp} {v : V} {xs : List α} {R : It → Hp → Prop}
/-- reversed(a list) -/
theorem src_rev (r : (pL e).r F v xs) (f : Ex F H) (k : ∀ J, TWk J F e xs.reverse → R J H) : ∃ (a : Addr) (ws : List V), [v] = [V.ref a] ∧ SqL K H a ws ∧ R (Itv K a ws.length) H := by
  obtain ⟨p, vs, rfl, hp, a⟩ := r
  refine ⟨p, vs, rfl, SqL.of (f _ _ hp), k _ ⟨_, _, by rw [List.length_reverse, ← a.len]; exact walk_rev, fun F' H' h1 h2 => SqL.of (h2 _ _ (h1 _ _ hp)), fun i H v H' F' hi h1 h2 hy => ?_⟩⟩
  obtain ⟨rfl, hv⟩ := hy
  obtain ⟨z, hz, rz⟩ := a.got hv
  refine ⟨z, F', ?_, Wf.id h2, e.mono h1 rz⟩
  rw [List.length_reverse] at hi
  rw [List.getElem?_reverse hi, ← a.len]; exact hz
/-- range(i - 1, -1, -1) -/
theorem src_down {n : Nat} {i : Int} (hi : i + 1 = (n : Int)) (hn : n < 1000000) (k : ∀ J, TWk J F pN (List.range n).reverse → R J H) : ∃ (i' j c : Int) (m : Nat), [V.int i, V.int (-1), V.int (-1)] = [.int i', .int j, .int c] ∧ RgC i' j c m ∧ R (Itc i' c m) H := by
  have e : (i - (-1)).toNat = n := by omega
  refine ⟨i, -1, -1, n, rfl, by rw [← e]; exact RgC.neg (by omega) (by omega) (by decide) (by decide), k _ ⟨fun _ => True, YFn fun m => .int (i + (m : Nat) * (-1)), ?_, fun _ _ _ _ => trivial, fun m H x H' F' hm h1 h2 hy => ?_⟩⟩
  · rw [List.length_reverse, List.length_range]; exact walk_rangeC
  · obtain ⟨rfl, rfl⟩ := hy
    rw [List.length_reverse, List.length_range] at hm
    refine ⟨n - 1 - m, F', ?_, Wf.id h2, ?_⟩
    · rw [List.getElem?_reverse (by rw [List.length_range]; exact hm), List.length_range, List.getElem?_range (by omega)]
    · show V.int _ = V.int _
      congr 1; omega
theorem all_unN : ∀ {vs : List V} {ns : List Nat}, All pA F vs (ns.map anN) → All pN F vs ns
  | [], [], _ => trivial
  | _ :: _, _ :: _, ⟨a, b⟩ => ⟨a, all_unN b⟩
  | [], _ :: _, q => q.elim
  | _ :: _, [], q => q.elim
theorem an_toLN {x : An} {ns : List Nat} (r : pA.r F v x) (h : x = An.l (ns.map anN)) : (pL pN).r F v ns := by
  subst h
  obtain ⟨p, vs, a, b, c⟩ := an_l.mp r
  exact ⟨p, vs, a, b, all_unN c⟩
end
section
variable {α β γ : Type} {e : Rep α} {f : Rep β} {g : Rep γ} {K : PySem.W.Frag} {σ : L2.St} {F H : Hp} {v : V} {x : α × β × γ} {ta : TE} {C : Addr} {a b c : Str}
theorem len_T3 (r : (pT3 e f g).r F v x) (h : Ex F H) (ha : Val ta σ H v) : Val (tCB (rLen K) (tCons ta tNil)) σ H (.int ((3 : Nat) : Int)) := by
  obtain ⟨p, u, w, y, rfl, hp, _⟩ := r
  exact v_cb1 ha fun Q k => ⟨p, _, rfl, .inr (SqT.of (h _ _ hp)), k⟩
theorem ty_T3 (r : (pT3 e f g).r F v x) (h : Ex F H) : TyX K H v (.type "tuple") := by
  obtain ⟨p, u, w, y, rfl, hp, _⟩ := r
  exact .base (.tup (h _ _ hp))
/-- what isinstance asks of an own class -/
structure ClsI (K : PySem.W.Frag) (mg : Str → Option Value) (n : Str) (C : Addr) : Prop where
  ha : PySem.W.findIn K (.ref C) "__class__" = some (some (.builtin "object.__class__"))
  hn : PySem.W.specialIn K (.builtin "object.__class__") "__get__" = some (some (.builtin "getset_descriptor.__get__"))
  ht : PySem.W.takesIn K (.builtin "object.__class__") = some true
  hm : PySem.W.mroIn K C (.type "object") = some true
  g : mg n = some (.ref C)
theorem ty_O3 {mg : Str → Option Value} {n : Str} (r : (pO3 C a b c e f g).r F v x) (h : Ex F H) (cl : Cls K C) (ci : ClsI K mg n C) : TyX K H v (.ref C) := by
  obtain ⟨p, dx, fs, rfl, hp, _⟩ := r
  exact .base (.ins (h _ _ hp) cl ci.ha ci.hn ci.ht ci.hm)
theorem v_isiC (ha : Val ta σ H v) (t : TyX K H v (.ref C)) : Val (tCB (rIsi K) (tCons ta (tCons (tC (.ref C)) tNil))) σ H (.bl true) := fun Q k => ha _ ⟨v, .ref C, .ref C, .ref C, true, rfl, .own C, t, by
  show (if ((Value.ref C == Value.ref C) = true) then some true else _) = some true
  rw [if_pos (beq_self_eq_true _)], k⟩
end
end Wk
/-! St: texts. -/
namespace Wk
open PySem L2
/-- a text of one sign -/
def sg (c : Nat) : Str := ⟨#[c]⟩
def pG : Rep Nat := ⟨fun _ v c => v = .str (sg c), fun _ h => h⟩
def kAddS : R2 := fun x y H Q => ∃ i j, x = .str i ∧ y = .str j ∧ i.length + j.length ≤ sizeLine ∧ Q (.str (i ++ j)) H
def kInS : R2 := fun x y H Q => ∃ (c : Nat) (z : Str), x = .str ⟨#[c]⟩ ∧ y = .str z ∧ Q (.bl (decide (c ∈ z.cps.toList))) H
def kNotInS : R2 := fun x y H Q => ∃ (c : Nat) (z : Str), x = .str ⟨#[c]⟩ ∧ y = .str z ∧ Q (.bl (!decide (c ∈ z.cps.toList))) H
def kLeS : R2 := fun x y H Q => ∃ i j, x = .str i ∧ y = .str j ∧ Q (.bl (!decide (j.cps.toList < i.cps.toList))) H
section
variable {X : Cx}
theorem op_addS : OpR X (binaryOp .Add) kAddS := op_add_str
theorem iop_addS : OpR X (inplaceOp .Add) kAddS := iop_add_str
theorem op_inSg : OpR X (compareOp .In) kInS := op_in_sign
theorem op_notInSg : OpR X (compareOp .NotIn) kNotInS := op_notIn_sign
theorem op_leS : OpR X (compareOp .LtE) kLeS := op_le_str
end
/-- one text is not behind another -/
def leS (x y : Str) : Prop := ¬ (y.cps.toList < x.cps.toList)
instance (x y : Str) : Decidable (leS x y) := by unfold leS; infer_instance
def cutTS (x : Str) (lo hi : Option Nat) : Str := ⟨(cutT x.cps.toList lo hi).toArray⟩
theorem Str_len (x : Str) : x.cps.toList.length = x.length := rfl
theorem cutG_T {α : Type} {ws : List α} (lo hi : Option Nat) : (ws.drop (HT.sIx ws.length 0 (lo.map Int.ofNat))).take (HT.sIx ws.length ws.length (hi.map Int.ofNat) - HT.sIx ws.length 0 (lo.map Int.ofNat)) = cutT ws lo hi := by
  have tk : ∀ (n : Nat) (l : List α), l.take (min n l.length) = l.take n := fun n l => by
    by_cases h : n ≤ l.length
    · rw [Nat.min_eq_left h]
    · rw [Nat.min_eq_right (by omega), List.take_of_length_le (Nat.le_refl _), List.take_of_length_le (by omega)]
  unfold cutT
  cases lo with
  | none =>
    cases hi with
    | none => simp only [Option.map_none, HT.sIx_none, List.drop_zero, Nat.sub_zero, List.take_length]
    | some b =>
      simp only [Option.map_none, Option.map_some, HT.sIx_none, List.drop_zero, Nat.sub_zero]
      rw [show HT.sIx ws.length ws.length (some (Int.ofNat b)) = min b ws.length from HT.sIx_nat _ _ _]
      exact tk b ws
  | some a =>
    have dr : ws.drop (min a ws.length) = ws.drop a := by
      by_cases h : a ≤ ws.length
      · rw [Nat.min_eq_left h]
      · rw [Nat.min_eq_right (by omega), List.drop_of_length_le (Nat.le_refl _), List.drop_of_length_le (by omega)]
    cases hi with
    | none =>
      simp only [Option.map_none, Option.map_some, HT.sIx_none]
      rw [show HT.sIx ws.length 0 (some (Int.ofNat a)) = min a ws.length from HT.sIx_nat _ _ _, dr]
      exact List.take_of_length_le (by rw [List.length_drop]; omega)
    | some b =>
      simp only [Option.map_some]
      rw [show HT.sIx ws.length 0 (some (Int.ofNat a)) = min a ws.length from HT.sIx_nat _ _ _, show HT.sIx ws.length ws.length (some (Int.ofNat b)) = min b ws.length from HT.sIx_nat _ _ _, dr]
      by_cases h : a ≤ ws.length
      · rw [Nat.min_eq_left h, show min b ws.length - a = min (b - a) (ws.drop a).length from by rw [List.length_drop]; omega]
        exact tk _ _
      · rw [List.drop_of_length_le (show ws.length ≤ a by omega)]; simp
theorem cutS_T (x : Str) (lo hi : Option Nat) : cutS x (lo.map Int.ofNat) (hi.map Int.ofNat) = cutTS x lo hi := by
  unfold cutS cutTS
  first
    | exact congrArg (fun l => (⟨List.toArray l⟩ : Str)) (cutG_T (ws := x.cps.toList) lo hi)
    | exact TL.ext_tl (cutG_T (ws := x.cps.toList) lo hi)
section
variable {K : PySem.W.Frag} {σ : L2.St} {F0 H0 F H : Hp} {ta tb te : TE} {tl th : TO} {x y : Str} {v w : V} {i c : Nat} {Q : VK}
theorem v_addS (ha : Val ta σ H (.str x)) (hb : Val tb σ H (.str y)) (h : x.length + y.length < 1000000) : Val (tOp kAddS ta tb) σ H (.str (x ++ y)) :=
  v2 ha hb fun Q k => ⟨x, y, rfl, rfl, Nat.le_of_lt (small_len h), k⟩
theorem ix_Str (ha : Val ta σ H (.str x)) (hb : Val tb σ H (.int (i : Int))) (hl : x.length < 1000000) (hc : x.cps.toList[i]? = some c) : Val (tOp rIxS ta tb) σ H (.str (sg c)) :=
  v2 ha hb fun Q k => ⟨x, _, c, rfl, rfl, Nat.le_of_lt (small_len hl), atI_nat hc, k⟩
theorem v_inS (ha : Val ta σ H (.str (sg c))) (hb : Val tb σ H (.str y)) : Val (tOp kInS ta tb) σ H (.bl (decide (c ∈ y.cps.toList))) := v2 ha hb fun Q k => ⟨c, y, rfl, rfl, k⟩
theorem v_notInS (ha : Val ta σ H (.str (sg c))) (hb : Val tb σ H (.str y)) : Val (tOp kNotInS ta tb) σ H (.bl (decide (¬ c ∈ y.cps.toList))) := v2 ha hb fun Q k => ⟨c, y, rfl, rfl, by rw [← decide_not]; exact k⟩
theorem v_leS (ha : Val ta σ H (.str x)) (hb : Val tb σ H (.str y)) : Val (tOp kLeS ta tb) σ H (.bl (decide (leS x y))) := v2 ha hb fun Q k => ⟨x, y, rfl, rfl, by
  have e : (!decide (y.cps.toList < x.cps.toList)) = decide (leS x y) := by
    by_cases h : y.cps.toList < x.cps.toList
    · rw [decide_eq_true h, decide_eq_false (show ¬ leS x y from fun z => z h)]; rfl
    · rw [decide_eq_false h, decide_eq_true (show leS x y from h)]; rfl
  rw [e]; exact k⟩
theorem v_cutS {lo hi : Option Nat} (hv : Val te σ H (.str x)) (h1 : Part tl σ H lo) (h2 : Part th σ H hi) (hl : x.length < 1000000) : Val (L2.tSl rSlS te tl th) σ H (.str (cutTS x lo hi)) := fun Q k =>
  hv _ (h1 _ (h2 _ ⟨x, rfl, Nat.le_of_lt (small_len hl), by rw [cutS_T]; exact k⟩))
/-- sep.join(texts) -/
def rJoin (K : PySem.W.Frag) : V → List V → Hp → VK → Prop := fun x xs H Q => ∃ a p, ∃ ys : List Str, x = .str a ∧ xs = [.ref p] ∧ (SqL K H p (ys.map V.str) ∨ SqT K H p (ys.map V.str)) ∧ (ys.map (·.length)).sum + ys.length * a.length ≤ 16777216 ∧ Q (.str (Txt.join a ys)) H
theorem e_m1 {r : V → List V → Hp → VK → Prop} {to : TE} (h : to σ H fun v H1 => (∃ a, v = .str a) ∧ te σ H1 fun y H2 => r v [y] H2 Q) : tM1 r to te σ H Q := h
theorem all_str {ys : List Str} : ∀ {vs : List V} {ys : List Str}, All pS F vs ys → vs = ys.map V.str
  | [], [], _ => rfl
  | v :: vs, z :: ys, ⟨a, b⟩ => by rw [List.map_cons, ← all_str (ys := ys) b, show v = V.str z from a]
  | [], _ :: _, q => q.elim
  | _ :: _, [], q => q.elim
theorem n_join {ys : List Str} (r : (pL pS).r F v ys) (f : Ex F H) (hl : (ys.map (·.length)).sum + ys.length * x.length ≤ 16777216) (k : Q (.str (Txt.join x ys)) H) : rJoin K (.str x) [v] H Q := by
  obtain ⟨p, vs, rfl, hp, a⟩ := r
  have e := all_str (ys := ys) a
  subst e
  exact ⟨x, p, ys, rfl, rfl, .inl (SqL.of (f _ _ hp)), hl, k⟩
theorem n_joinX {ys : List Str} {p : Addr} (r : XL pS H0 F H p ys) (hl : (ys.map (·.length)).sum + ys.length * x.length ≤ 16777216) (k : Q (.str (Txt.join x ys)) H) : rJoin K (.str x) [.ref p] H Q := by
  obtain ⟨vs, hp, a⟩ := r.rd
  have e := all_str (ys := ys) a
  subst e
  exact ⟨x, p, ys, rfl, rfl, .inl (SqL.of hp), hl, k⟩
/-- the signs of a text -/
theorem src_str {R : It → Hp → Prop} (f : Ex F H) (k : TWk (Its x) F pG x.cps.toList → R (Its x) H) : ∃ y, V.str x = .str y ∧ R (Its y) H :=
  ⟨x, rfl, k ⟨_, _, by rw [Str_len]; exact walk_str, fun _ _ _ _ => trivial, fun i H v H' F' hi h1 h2 hy => by
    obtain ⟨rfl, c, hc, rfl⟩ := hy
    exact ⟨c, F', by rw [Array.getElem?_toList]; exact hc, Wf.id h2, rfl⟩⟩⟩
end
theorem an_str {F : Hp} {v : V} {x : An} {y : Str} (r : pA.r F v x) (h : x = An.s y) : v = .str y := by subst h; exact r
theorem an_D {κ α : Type} [KeyT κ] {e : Rep α} {F : Hp} {v : V} {m : List (κ × α)} (r : (pD e).r F v m) : pA.r F v (.o "dict") := by
  obtain ⟨p, kvs, rfl, hp, _⟩ := r
  exact ⟨p, rfl, .inr (.inr ⟨rfl, kvs, hp⟩)⟩
/-! a thing of any kind is not a text -/
section
open PySem.SeqAt AutoSeq1
theorem str_ne_declines_dict (b : Str) (u : Tok) (l : Addr) (es : Array DictEntry) (ep : Nat) :
    Meets (Builtin.«str.__ne__» ⟨[.str b u, .ref l], []⟩) (fun _ R s => s.heap.get? l = some { cls := .type "dict", dict := none, data := .dict es ep, slots := #[] } ∧ R (.ok (.ret .notImplemented)) s) :=
  .of_wp fun prog w A R s h => by obtain ⟨hp, g, d, tk, os⟩ := s; obtain ⟨hl, h⟩ := h; wp_walk using wpAny_loadPart' hl, wpAny_load hl; exact ⟨_, rfl, h⟩
theorem ne_dict_str {kt : Type} [DecidableEq kt] {prog : Program} {w : World} {knd : KeyKind prog w kt} {A : Around} {s : Shared} {E : Value → Shared → Prop} {Q : Value → Shared → Prop} {l : Addr} {kvs : List (kt × Value)} (b : Str) (u : Tok) (hd : s.heap.DictOf knd l kvs) (hu : A.units < cLine) (h : Q (.bool true) s) :
    wpAny (model prog w) A (compareOp .NotEq (.ref l) (.str b u)) Q E s := by
  have hT := hd.typeIs
  obtain ⟨⟨cls, dd, data, sl⟩, es, ep, ho, ⟨hc, h1, h2⟩, h3, _⟩ := id hd
  simp only at hc h1 h2 h3
  subst hc h1 h2 h3
  refine rc_ne_decline_or (k := false) hT (typeIs_str s b u) (by decide) F.sub_str_dict F.slot_dict_ne F.slot_str_ne_refl
    (fun Q' hq => wpAny_call_entry F.slot_dict_ne hT F.entry_dict_ne ?_ (F.args_dict_ne_2 _ _))
    (fun _ hq => call_meets F.slot_str_ne_refl (typeIs_str s b u) F.entry_str_ne (F.args_str_ne_2 _ _) (str_ne_declines_dict b u l es ep) ⟨ho, hq⟩)
    (fun _ hq => wpAny_of_eq (rfl : isSame (.ref l) (.str b u) = pure false) hq) (.inr hu) h
  show wpAny _ _ (Builtin.Dict.dictSlotArgs "__ne__" ⟨[.ref l, .str b u], []⟩ >>= _) _ _ s
  refine wpAny_bind ?_
  unfold Builtin.Dict.dictSlotArgs
  refine wpAny_bind (wpAny_notOrdered_dict hT ?_)
  show wpAny _ _ (pure (Value.ref l, Value.str b u)) _ _ s
  refine wpAny_pure ?_
  refine wpAny_bind (wpAny_isInstance (T := "str") (typeIs_str s b u) PySem.F.sub_str_dict ?_)
  simp only [Bool.not_false, if_true]
  exact wpAny_bind (wpAny_rule (wpAny_pure ⟨_, rfl, hq⟩))
end
def rNeAS (K : PySem.W.Frag) : R2 := fun x y H Q => rNe x y H Q ∨ ∃ a o z, x = .ref a ∧ H a = some o ∧ ((∃ vs, o = .lst vs) ∨ (∃ vs, o = .tup vs) ∨ (∃ kvs, o = .dK kvs)) ∧ y = .str z ∧ Q (.bl true) H
theorem op_neAS {X : Cx} (hu : X.A.units + 64 < cLine) : OpR X (compareOp .NotEq) (rNeAS X.K) := by
  intro pins s σ H x y v u Q I rx ry h
  rcases h with h | ⟨a, o, z, rfl, ea, hh, rfl, q⟩
  · exact op_ne pins s σ H x y v u Q I rx ry h
  · obtain rfl : v = Value.ref a := rx
    obtain ⟨t, rfl⟩ := ry
    rcases hh with ⟨vs, rfl⟩ | ⟨vs, rfl⟩ | ⟨kvs, rfl⟩
    · obtain ⟨_, its, n, _, g⟩ := (show ObjOk X.prog X.w H s.heap a (.lst vs) from I.hok a _ ea)
      exact SeqAt.RcNeAt.list_str z t ⟨_, g, rfl, n, rfl⟩ (by omega) X.prog X.w _ _ (fin_bl I q rfl)
    · obtain ⟨_, its, _, g⟩ := (show ObjOk X.prog X.w H s.heap a (.tup vs) from I.hok a _ ea)
      exact SeqAt.RcNeAt.tuple_str z t g (by omega) X.prog X.w _ _ (fin_bl I q rfl)
    · obtain ⟨_, ya, va, ra, da⟩ := (show ObjOk X.prog X.w H s.heap a (.dK kvs) from I.hok a _ ea)
      exact ne_dict_str z t da (by omega) (fin_bl I q rfl)
/-- thing != text -/
def neAS (x : An) (z : Str) : Bool := match x with | .s y => decide (y ≠ z) | _ => true
theorem v_neAS {K : PySem.W.Frag} {σ : L2.St} {F H : Hp} {ta tb : TE} {v : V} {x : An} {z : Str} (ha : Val ta σ H v) (hb : Val tb σ H (.str z)) (r : pA.r F v x) (f : Ex F H) : Val (tOp (rNeAS K) ta tb) σ H (.bl (neAS x z)) := v2 ha hb fun Q k => by
  have flat : ∀ w : V, scal w (.str z) = true → v = w → neAS x z = !decide (w = .str z) → rNeAS K v (.str z) H Q := fun w hw e e2 => .inl ⟨by rw [e]; exact hw, by rw [e, ← e2]; exact k⟩
  cases x with
  | i n => exact flat _ rfl (show v = .int n from r) rfl
  | b b => exact flat _ rfl (show v = .bl b from r) rfl
  | n => exact flat _ rfl (show v = .non from r) rfl
  | s y => exact flat _ rfl (show v = .str y from r) (by
      show decide (y ≠ z) = _
      rw [← decide_not, dec_iff (show (¬ V.str y = V.str z) ↔ y ≠ z from ⟨fun h e => h (by rw [e]), fun h e => h (V.str.inj e)⟩)])
  | o T =>
    obtain ⟨p, rfl, q⟩ := (show ∃ p, v = .ref p ∧ _ from r)
    rcases q with ⟨_, vs, q⟩ | ⟨_, vs, q⟩ | ⟨_, vs, q⟩
    · exact .inr ⟨p, _, z, rfl, f _ _ q, .inl ⟨vs, rfl⟩, rfl, k⟩
    · exact .inr ⟨p, _, z, rfl, f _ _ q, .inr (.inl ⟨vs, rfl⟩), rfl, k⟩
    · exact .inr ⟨p, _, z, rfl, f _ _ q, .inr (.inr ⟨vs, rfl⟩), rfl, k⟩
  | l xs =>
    obtain ⟨p, vs, rfl, q, _⟩ := an_l.mp r
    exact .inr ⟨p, _, z, rfl, f _ _ q, .inl ⟨vs, rfl⟩, rfl, k⟩
  | t xs =>
    obtain ⟨p, vs, rfl, q, _⟩ := an_t.mp r
    exact .inr ⟨p, _, z, rfl, f _ _ q, .inr (.inl ⟨vs, rfl⟩), rfl, k⟩
end Wk
/-! Rn: regions: what a call has made, held apart from F so that it may still be changed; new things inside lists. -/
namespace Wk
open PySem L2
/-- things that hold nothing of what was there at H0, as a reading -/
def pNew {α : Type} (H0 : Hp) (e : Rep α) : Rep α := ⟨fun F v x => e.r (nw H0 F) v x, fun h r => e.mono (nw_ex h) r⟩
/-- things that stand in G -/
def pAt {α : Type} (G : Hp) (e : Rep α) : Rep α := ⟨fun _ v x => e.r G v x, fun _ r => r⟩
/-- what a call has made -/
def NLst (o : HO) : Prop := ∀ vs, o ≠ .lst vs
/-- what stands in a region is new and not in F, or is in F and no list -/
abbrev NewOr (H0 F G : Hp) : Prop := ∀ a o, G a = some o → (H0 a = none ∧ F a = none) ∨ (F a = some o ∧ NLst o)
structure RG (H0 F H G : Hp) : Prop where
  z : NewOr H0 F G
  h : Ex G H
/-- the same, its lists changed: each has grown by at most k -/
structure RD (H0 F H G : Hp) (k : Nat) : Prop where
  z : NewOr H0 F G
  c : ∀ a o, G a = some o → ∃ o', H a = some o'
  l : ∀ a vs, G a = some (.lst vs) → ∃ ws, H a = some (.lst ws) ∧ ws.length ≤ vs.length + k
/-- but for its lists -/
def nl (G : Hp) : Hp := fun a => match G a with | some (.lst _) => none | o => o
theorem nl_sub {G : Hp} : Ex (nl G) G := fun a o e => by
  unfold nl at e
  split at e
  · cases e
  · exact e
theorem nl_lst {G : Hp} {p : Addr} {vs : List V} (h : G p = some (.lst vs)) : nl G p = none := by unfold nl; rw [h]
theorem nl_tup {G : Hp} {p : Addr} {vs : List V} (h : G p = some (.tup vs)) : nl G p = some (.tup vs) := by unfold nl; rw [h]
section
variable {α β γ : Type} {e : Rep α} {f : Rep β} {k3 : Rep γ} {K : PySem.W.Frag} {σ : L2.St} {F0 H0 F F' F2 H H' H2 G : Hp} {p q : Addr} {v u : V} {x : α} {xs : List α} {Q : VK} {to : TE} {tA : TA} {vs : List V} {o : HO} {k : Nat}
theorem new_r (h : (pNew H0 e).r F v x) : e.r F v x := e.mono nw_sub h
theorem new_base (w : Wf F0 H0 F2 H) (h : (pNew H e).r F v x) : (pNew H0 e).r F v x := e.mono (fun a o q => by
  unfold nw at q ⊢
  by_cases c : H a = none
  · rw [if_pos c] at q; rw [if_pos (w.h.non c)]; exact q
  · rw [if_neg c] at q; cases q) h
theorem NewOr.lst (z : NewOr H0 F G) {vs : List V} (e : G p = some (.lst vs)) : H0 p = none ∧ F p = none := (z p _ e).resolve_right fun q => q.2 vs rfl
theorem NewOr.step (z : NewOr H0 F G) (c : ∀ a o, G a = some o → ∃ o', H a = some o') (w : Wf F H F' H') : NewOr H0 F' G := fun a o e => by
  rcases z a o e with ⟨h0, hn⟩ | ⟨h1, h2⟩
  · refine .inl ⟨h0, ?_⟩
    cases q : F' a with
    | none => rfl
    | some u =>
      obtain ⟨o', h⟩ := c a o e
      have := w.n a u q hn
      rw [h] at this
      cases this
  · exact .inr ⟨w.g _ _ h1, h2⟩
theorem NewOr.frzO (z : NewOr H0 F G) (fz : Fz F F' p) (hq : G p = none) (g : Ex F F') : NewOr H0 F' G := fun a o e => by
  rcases z a o e with ⟨h0, hn⟩ | ⟨h1, h2⟩
  · exact .inl ⟨h0, fz a (ne_of_none e hq) hn⟩
  · exact .inr ⟨g _ _ h1, h2⟩
theorem RG.step (g : RG H0 F H G) (w : Wf F H F' H') : RG H0 F' H' G := ⟨g.z.step (fun a o e => ⟨o, g.h a o e⟩) w, g.h.tr w.h⟩
theorem RG.ne (g : RG H0 F H G) (h : H q = none) : G q = none := g.h.non h
theorem RG.frzO (g : RG H0 F H G) (fz : Fz F F' p) (hq : G p = none) (x : Ex F F') : RG H0 F' H G := ⟨g.z.frzO fz hq x, g.h⟩
theorem RG.kept (g : RG H0 F H G) (h : ∀ q o, H q = some o → q ≠ p → H' q = some o) (hq : G p = none) : RG H0 F H' G := ⟨g.z, fun a o e => h a o (g.h a o e) (ne_of_none e hq)⟩
theorem RD.step (g : RD H0 F H G k) (w : Wf F H F' H') : RD H0 F' H' G k := by
  refine ⟨g.z.step g.c w, fun a o e => ?_, fun a vs e => ?_⟩
  · obtain ⟨o', h⟩ := g.c a o e
    exact ⟨o', w.h _ _ h⟩
  · obtain ⟨ws, h1, h2⟩ := g.l a vs e
    exact ⟨ws, w.h _ _ h1, h2⟩
theorem RD.ne (g : RD H0 F H G k) (h : H q = none) : G q = none := by
  cases e : G q with
  | none => rfl
  | some o => obtain ⟨o', z⟩ := g.c q o e; rw [h] at z; cases z
theorem RD.frzO (g : RD H0 F H G k) (fz : Fz F F' p) (hq : G p = none) (x : Ex F F') : RD H0 F' H G k := ⟨g.z.frzO fz hq x, g.c, g.l⟩
theorem RD.kept (g : RD H0 F H G k) (h : ∀ q o, H q = some o → q ≠ p → H' q = some o) (hq : G p = none) : RD H0 F H' G k := by
  refine ⟨g.z, fun a o e => ?_, fun a vs e => ?_⟩
  · obtain ⟨o', z⟩ := g.c a o e
    exact ⟨o', h a o' z (ne_of_none e hq)⟩
  · obtain ⟨ws, h1, h2⟩ := g.l a vs e
    exact ⟨ws, h _ _ h1 (ne_of_none e hq), h2⟩
theorem RG.rd (g : RG H0 F H G) : RD H0 F H G 0 := ⟨g.z, fun a o e => ⟨o, g.h a o e⟩, fun a vs e => ⟨vs, g.h a _ e, Nat.le_refl _⟩⟩
theorem RG.nl (g : RG H0 F H G) : RG H0 F H (nl G) := ⟨fun a o e => g.z a o (nl_sub a o e), fun a o e => g.h a o (nl_sub a o e)⟩
/-- both heaps together -/
def un (F G : Hp) : Hp := fun a => match F a with | some o => some o | none => G a
theorem un_l {F G : Hp} : Ex F (un F G) := fun a o e => by unfold un; rw [e]
theorem RG.un_r (g : RG H0 F H G) : Ex G (un F G) := fun a o e => by
  unfold un
  rcases g.z a o e with ⟨_, hn⟩ | ⟨h1, _⟩
  · rw [hn]; exact e
  · rw [h1]
theorem RG.frz (g : RG H0 F H G) (w : Wf F0 H0 F H) : Wf F0 H0 (un F G) H := ⟨w.h, fun a o e => by
    unfold un at e
    cases q : F a with
    | some u => rw [q] at e; cases e; exact w.f a _ q
    | none => rw [q] at e; exact g.h a o e, w.g.tr un_l, fun a o e e0 => by
    unfold un at e
    cases q : F a with
    | some u => exact w.n a u q e0
    | none => rw [q] at e; exact (g.z a o e).elim (fun y => y.1) fun y => by rw [y.1] at q; cases q⟩
theorem RG.frzE (g : RG H0 F H G) (w : Wf F0 H0 F H) : ∃ F', Wf F0 H0 F' H ∧ Ex F F' ∧ Ex G F' ∧ (∀ q, G q = none → F q = none → F' q = none) :=
  ⟨_, g.frz w, un_l, g.un_r, fun q h x => by unfold un; rw [x]; exact h⟩
theorem RG.lend (g : RG H0 F H G) (w : Wf F0 H0 F H) : ∃ Fl, Ex Fl H ∧ Ex F Fl ∧ Ex G Fl := ⟨_, (g.frz w).f, un_l, g.un_r⟩
theorem XL.frzG (x : XL e H0 F H q xs) (fz : ∀ q, G q = none → F q = none → F' q = none) (hq : G q = none) (g : Ex F F') : XL e H0 F' H q xs := let ⟨vs, a, b⟩ := x.x; ⟨vs, ⟨a.z, fz _ hq a.n, a.h⟩, b.mono g⟩
/-- behind a call -/
theorem RG.of (w : Wf F0 H0 F H) (sf : Ex F2 H2) : RG H0 F H2 (nw H F2) := by
  have key : ∀ a o, nw H F2 a = some o → H a = none := fun a o e => by
    unfold nw at e
    by_cases c : H a = none
    · exact c
    · rw [if_neg c] at e; cases e
  exact ⟨fun a o e => .inl ⟨w.h.non (key a o e), w.f.non (key a o e)⟩, fun a o e => sf a o (nw_sub a o e)⟩
/-- behind a call that was handed no list -/
theorem RG.ofN (w : Wf F0 H0 F H) (s : Wf (Wk.nl F) H F2 H2) : RG H0 F H2 F2 := by
  refine ⟨fun a o e => ?_, s.f⟩
  cases q : Wk.nl F a with
  | none =>
    have := s.n a o e q
    exact .inl ⟨w.h.non this, w.f.non this⟩
  | some u =>
    have e2 := s.g a u q
    rw [e] at e2
    cases e2
    refine .inr ⟨nl_sub a o q, fun vs z => ?_⟩
    rw [z] at q
    rw [nl_lst (nl_sub a _ q)] at q
    cases q
theorem XL.reN (x : XL e H0 F H p xs) (s : Wf (nl F) H F2 H2) : F2 p = none := by
  obtain ⟨vs, a, _⟩ := x.x
  cases q : F2 p with
  | none => rfl
  | some u =>
    have := s.n p u q (nl_sub.non a.n)
    rw [a.h] at this
    cases this
/-! things without lists -/
def NoL {α : Type} (e : Rep α) : Prop := ∀ {F : Hp} {v : V} {x : α}, e.r F v x → e.r (Wk.nl F) v x
theorem nl_o {o : HO} (h : G p = some o) (n : NLst o) : Wk.nl G p = some o := by
  unfold Wk.nl
  rw [h]
  cases o <;> first | rfl | exact absurd rfl (n _)
theorem NoL.N : NoL pN := fun r => r
theorem NoL.I : NoL pI := fun r => r
theorem NoL.B : NoL pB := fun r => r
theorem NoL.S : NoL pS := fun r => r
theorem NoL.all (h : NoL e) : ∀ {vs : List V} {xs : List α}, All e F vs xs → All e (Wk.nl F) vs xs
  | [], [], _ => trivial
  | _ :: _, _ :: _, ⟨a, b⟩ => ⟨h a, NoL.all h b⟩
  | [], _ :: _, q => q.elim
  | _ :: _, [], q => q.elim
theorem NoL.TL (h : NoL e) : NoL (pTL e) := fun ⟨p, vs, a, b, c⟩ => ⟨p, vs, a, nl_tup b, h.all c⟩
theorem NoL.T2 (h : NoL e) (k : NoL f) : NoL (pT2 e f) := fun ⟨p, u, w, a, b, c, d⟩ => ⟨p, u, w, a, nl_tup b, h c, k d⟩
theorem NoL.O3 {C : Addr} {a b c : Str} (h : NoL e) (k : NoL f) (l : NoL k3) : NoL (pO3 C a b c e f k3) := fun {F v x} r => by
  obtain ⟨p, dx, fs, rfl, hp, u1, u2, u3, rfl, r1, r2, r3⟩ := r
  exact ⟨p, dx, _, rfl, nl_o hp (fun vs z => by cases z), u1, u2, u3, rfl, h r1, k r2, l r3⟩
theorem nw_ne (h : H p = some o) : nw H F2 p = none := by unfold nw; rw [if_neg (by rw [h]; simp)]
theorem XL.re (x : XL e H0 F H p xs) : nw H F2 p = none := let ⟨vs, a, _⟩ := x.x; nw_ne a.h
theorem Xc.re (x : Xc H0 F H p o) : nw H F2 p = none := nw_ne x.h
theorem at_new (h : Fre H e F2 v x) : e.r (nw H F2) v x := h
theorem ne_rg (hq : G q = none) (hp : G p = some o) : q ≠ p := fun z => by rw [z, hp] at hq; cases hq
/-! copies -/
theorem all_cv {e' : Rep α} (h : ∀ {v x}, e.r G v x → e'.r F v x) : ∀ {vs : List V} {xs : List α}, All e G vs xs → All e' F vs xs
  | [], [], _ => trivial
  | _ :: _, _ :: _, ⟨a, b⟩ => ⟨h a, all_cv h b⟩
  | [], _ :: _, q => q.elim
  | _ :: _, [], q => q.elim
theorem n_listG {e' : Rep α} (cv : ∀ {v x}, e.r G v x → e'.r F v x) (r : (pL e).r G v xs) (g : Ex G H) (w : Wf F0 H0 F H) (k : ∀ p H', H p = none → Wf F H F H' → XL e' H0 F H' p xs → Q (.ref p) H') : rListOf K [v] H Q := by
  obtain ⟨p, vs, rfl, hp, a⟩ := r
  exact ⟨p, vs, rfl, .inl (SqL.of (g _ _ hp)), fun l hl => k l _ hl (Wf.newX w.f hl) ⟨vs, Xc.mk' w hl, all_cv cv a⟩⟩
/-! changes -/
theorem L_at (r : (pL e).r G v xs) : ∃ p vs, v = .ref p ∧ G p = some (.lst vs) ∧ vs.length = xs.length := let ⟨p, vs, a, b, c⟩ := r; ⟨p, vs, a, b, c.len⟩
theorem m_rd {r : V → List V → Hp → VK → Prop} (g : RD H0 F H G k) (hp : G p = some (.lst vs)) (ho : Val to σ H (.ref p)) (kk : tA σ H fun vs H2 => r (.ref p) vs H2 Q) : tBM K "list" r to tA σ H Q :=
  ho _ ⟨let ⟨ws, h, _⟩ := g.l p vs hp; Or.inl ⟨rfl, _, Or.inl (Or.inl h)⟩, kk⟩
theorem m_rd0 {r : V → List V → Hp → VK → Prop} (g : RD H0 F H G k) (hp : G p = some (.lst vs)) (ho : Val to σ H (.ref p)) (kk : r (.ref p) [] H Q) : tBM0 K "list" r to σ H Q :=
  ho _ ⟨let ⟨ws, h, _⟩ := g.l p vs hp; Or.inl ⟨rfl, _, Or.inl (Or.inl h)⟩, kk⟩
theorem RD.setL (g : RD H0 F H G k) {vs ws us : List V} {j : Nat} (hp : G p = some (.lst vs)) (hl : us.length ≤ vs.length + j) (hk : k ≤ j) : RD H0 F (upd H p (.lst us)) G j := ⟨g.z, fun a o e => by
    by_cases q : a = p
    · subst q; exact ⟨_, upd_same⟩
    · rw [upd_ne q]; exact g.c a o e, fun a vs' e => by
    by_cases q : a = p
    · subst q; rw [hp] at e; cases e; exact ⟨us, upd_same, hl⟩
    · rw [upd_ne q]; obtain ⟨ws, h1, h2⟩ := g.l a vs' e; exact ⟨ws, h1, by omega⟩⟩
theorem Wf.setG (w : Wf F0 H0 F H) (g : RD H0 F H G k) (hp : G p = some (.lst vs)) {u : HO} : Wf F0 H0 F (upd H p u) := ⟨fun a v e => by
    rw [upd_ne (ne_of_none e (g.z.lst hp).1)]; exact w.h a v e, fun a v e => by rw [upd_ne (ne_of_none e (g.z.lst hp).2)]; exact w.f a v e, w.g, w.n⟩
theorem a_appD (g : RD H0 F H G k) (hp : G p = some (.lst vs)) (w : Wf F0 H0 F H) (hl : vs.length + k < 1000000) (kk : ∀ H', Wf F0 H0 F H' → RD H0 F H' G (k + 1) → (∀ q o, H q = some o → q ≠ p → H' q = some o) → Q .non H') : rAppend (.ref p) [v] H Q := by
  obtain ⟨ws, h1, h2⟩ := g.l p vs hp
  exact ⟨p, ws, v, rfl, rfl, h1, small_len (by omega), kk _ (w.setG g hp) (g.setL (ws := ws) hp (by rw [List.length_append]; simp; omega) (by omega)) fun q o h hq => by rw [upd_ne hq]; exact h⟩
theorem a_clrD (g : RD H0 F H G k) (hp : G p = some (.lst vs)) (w : Wf F0 H0 F H) (kk : ∀ H', Wf F0 H0 F H' → RD H0 F H' G k → (∀ q o, H q = some o → q ≠ p → H' q = some o) → Q .non H') : rClear (.ref p) [] H Q := by
  obtain ⟨ws, h1, h2⟩ := g.l p vs hp
  exact ⟨p, ws, rfl, rfl, h1, kk _ (w.setG g hp) (g.setL (ws := ws) hp (by simp) (by omega)) fun q o h hq => by rw [upd_ne hq]; exact h⟩
/-! a tuple whose lists may have changed -/
theorem T2_at {z : α × β} (r : (pT2 e f).r G v z) : (pT2 (pAt G e) (pAt G f)).r (nl G) v z := let ⟨p, u, w, a, b, c, d⟩ := r; ⟨p, u, w, a, nl_tup b, c, d⟩
theorem T3_at {z : α × β × γ} (r : (pT3 e f k3).r G v z) : (pT3 (pAt G e) (pAt G f) (pAt G k3)).r (nl G) v z := let ⟨p, u, w, y, a, b, c, d, h⟩ := r; ⟨p, u, w, y, a, nl_tup b, c, d, h⟩
/-! min, divmod, xs[i] op= y -/
def rMin2 : List V → Hp → VK → Prop := fun xs H Q => ∃ i j, xs = [.int i, .int j] ∧ Q (.int (if j < i then j else i)) H
theorem vn_min2 {a b : Nat} {ta tb : TE} (ha : Val ta σ H (.int (a : Int))) (hb : Val tb σ H (.int (b : Int))) : Val (tCB rMin2 (tCons ta (tCons tb tNil))) σ H (.int ((min a b : Nat) : Int)) := fun Q k =>
  ha _ (hb _ ⟨_, _, rfl, by
    have e : (if (b : Int) < (a : Int) then (b : Int) else (a : Int)) = ((min a b : Nat) : Int) := by
      by_cases h : b < a
      · rw [if_pos (by omega)]; omega
      · rw [if_neg (by omega)]; omega
    rw [e]; exact k⟩)
def rDivmod : List V → Hp → VK → Prop := fun xs H Q => ∃ i j, xs = [.int i, .int j] ∧ CDivP i j ∧ ∀ p, H p = none → Q (.ref p) (upd H p (.tup [.int (i / j), .int (i % j)]))
theorem nDivmod {a b : Nat} (hs : NDiv b) (w : Wf F0 H0 F H) (k : ∀ v F' H', Wf F H F' H' → (pT2 pN pN).r F' v (a / b, a % b) → Q v H') : rDivmod [.int (a : Int), .int (b : Int)] H Q :=
  ⟨a, b, rfl, ⟨by have := hs.1; omega, PyProof.noPylong_of_log2 hs.2⟩, fun p hp => k _ _ _ (Wf.new w.f hp) ⟨p, _, _, rfl, upd_same, show V.int _ = V.int _ from rfl, show V.int _ = V.int _ from rfl⟩⟩
theorem get_list {X : Cx} : PGet X (rIxL X.K) := by
  intro pins s σ H o i ov iv Q I ro ri h
  obtain ⟨p, xs, i, z, rfl, rfl, hq, he, q⟩ := h
  cases ro
  obtain ⟨t, rfl⟩ := ri
  obtain ⟨its, r, pl, hz⟩ := I.list hq
  obtain ⟨j, h1, h2, h3, h4, h5⟩ := atI_get he
  obtain ⟨w, ew, rw'⟩ := r.get h2
  have hl := r.length
  have hn := line63
  have fin : EP X pins σ Q w s := ⟨z, H, I, rw', q⟩
  by_cases h0 : 0 ≤ i
  · have hj : i.toNat = j := by
      rw [seqIndex_of h0 h5] at h1
      exact Option.some.inj h1
    exact wpAny_getItem_list pl.isList h0 (by omega) (by rw [hj]; simpa using ew) fin
  · have hj : (i + (its.toArray.size : Int)).toNat = j := by
      rw [seqIndex_neg (by omega) h4] at h1
      rw [List.size_toArray, ← hl]
      exact Option.some.inj h1
    exact wpAny_getItem_list_neg pl.isList (by omega) (by rw [List.size_toArray] <;> omega) (by omega) (by rw [hj]; simpa using ew) fin
/-- xs[i] op= y, of numbers -/
theorem a_laug {D : Ends} {ti tb : TE} {tip : TIp} {xs : List Nat} {i y b z : Nat} (x : XL pN H0 F H p xs) (w : Wf F0 H0 F H) (hx : xs[i]? = some y) (ho : Val to σ H (.ref p)) (hi : Val ti σ H (.int (i : Int))) (hb : Val tb σ H (.int (b : Int)))
    (hz : ∀ Q : VK, Q (.int (z : Int)) H → tip (.int (y : Int)) (.int (b : Int)) H Q)
    (kk : ∀ H', Wf F0 H0 F H' → XL pN H0 F H' p (xs.set i z) → (∀ q o, H q = some o → q ≠ p → H' q = some o) → D.nx σ H') : tAugS to ti tb (rIxL K) tip rSetL D σ H := by
  obtain ⟨vs, a, al⟩ := x.x
  obtain ⟨u, h1, h2⟩ := al.get hx
  have h2' : u = .int (y : Int) := h2
  subst h2'
  have hlt : i < vs.length := by
    rcases Nat.lt_or_ge i vs.length with q | q
    · exact q
    · rw [List.getElem?_eq_none q] at h1; cases h1
  refine ho _ (hi _ ⟨p, vs, _, _, rfl, rfl, SqL.of a.h, atI_nat h1, hb _ (hz _ ⟨p, vs, _, i, rfl, rfl, a.h, ?_, ?_⟩)⟩)
  · unfold ixN
    rw [if_pos (by omega), if_pos (by omega)]; rfl
  · exact kk _ (w.set a) ⟨_, a.set, al.set i (show pN.r F (.int (z : Int)) z from rfl)⟩ fun q o h hq => by rw [upd_ne hq]; exact h
theorem nl_ne (h : G q = none) : nl G q = none := by unfold nl; rw [h]
theorem XD.re {κ : Type} [KeyT κ] {m : List (κ × α)} (x : XD e H0 F H p m) : nw H F2 p = none := let ⟨vs, a, _⟩ := x.x; nw_ne a.h
theorem XD.frzG {κ : Type} [KeyT κ] {m : List (κ × α)} (x : XD e H0 F H q m) (fz : ∀ q, G q = none → F q = none → F' q = none) (hq : G q = none) (g : Ex F F') : XD e H0 F' H q m := let ⟨vs, a, b⟩ := x.x; ⟨vs, ⟨a.z, fz _ hq a.n, a.h⟩, b.mono g⟩
theorem RG.re (x : RG H0 F H G) {a : Addr} {o : HO} (h : G a = some o) : nw H F2 a = none := nw_ne (x.h a o h)
/-! a text in a list of texts -/
theorem inV_str {x : Str} : ∀ {ys : List Str}, inV (.str x) (ys.map V.str) = decide (x ∈ ys)
  | [] => rfl
  | y :: ys => by
    have ih := inV_str (x := x) (ys := ys)
    unfold inV at ih ⊢
    rw [List.map_cons, List.any_cons, ih]
    have e : eqV (.str y) (.str x) = decide (x = y) := by
      show (y == x) = _
      by_cases h : x = y
      · subst h; simp
      · rw [decide_eq_false h]; exact beq_eq_false_iff_ne.mpr (fun z => h z.symm)
    rw [e, Bool.eq_iff_iff]
    simp
theorem flat_str : ∀ {ys : List Str}, (ys.map V.str).all flatV = true
  | [] => rfl
  | _ :: ys => by rw [List.map_cons, List.all_cons, flat_str (ys := ys)]; rfl
theorem v_inLS {ta tb : TE} {y : Str} {ys : List Str} (ha : Val ta σ H (.str y)) (hb : Val tb σ H v) (r : (pL pS).r F v ys) (f1 : Ex F H) : Val (tOp (rIn K false) ta tb) σ H (.bl (decide (y ∈ ys))) := v2 ha hb fun Q k => by
  obtain ⟨p, vs, rfl, hp, a⟩ := r
  have e := all_str (ys := ys) a
  subst e
  exact ⟨p, _, rfl, .inl (SqL.of (f1 _ _ hp)), rfl, flat_str, by rw [if_neg (by decide), inV_str]; exact k⟩
theorem v_notInLS {ta tb : TE} {y : Str} {ys : List Str} (ha : Val ta σ H (.str y)) (hb : Val tb σ H v) (r : (pL pS).r F v ys) (f1 : Ex F H) : Val (tOp (rIn K true) ta tb) σ H (.bl (decide (¬ y ∈ ys))) := v2 ha hb fun Q k => by
  obtain ⟨p, vs, rfl, hp, a⟩ := r
  have e := all_str (ys := ys) a
  subst e
  exact ⟨p, _, rfl, .inl (SqL.of (f1 _ _ hp)), rfl, flat_str, by rw [if_pos rfl, inV_str, ← decide_not]; exact k⟩
end
/-! data with texts in it: compared where the texts can be laid -/
class Dao {α : Type} (e : Rep α) (lv : outParam Nat) where
  ok : α → Prop
  d : α → PyData
  dp : ∀ {K : PySem.W.Frag} {F : Hp} {v : V} {x : α}, e.r F v x → Dp K F v (d x)
  lay : ∀ x, ok x → (d x).canLay0 = true
  dep : ∀ x, (d x).depth ≤ lv
  inj : ∀ x y, PyData.eqv (d x) (d y) = true ↔ x = y
def okV {α : Type} (e : Rep α) {n : Nat} [Dao e n] (x : α) : Prop := Dao.ok e x
def okS (x : Str) : Prop := PyData.canLay0 (.str x) = true
instance : Dao pI 0 := ⟨fun _ => True, Dat.d pI, Dat.dp, fun x _ => Dat.lay (e := pI) x, Dat.dep, Dat.inj⟩
instance : Dao pN 0 := ⟨fun _ => True, Dat.d pN, Dat.dp, fun x _ => Dat.lay (e := pN) x, Dat.dep, Dat.inj⟩
instance : Dao pB 0 := ⟨fun _ => True, Dat.d pB, Dat.dp, fun x _ => Dat.lay (e := pB) x, Dat.dep, Dat.inj⟩
instance : Dao pS 0 := ⟨okS, .str, fun h => by cases (show _ = V.str _ from h); exact .str _, fun _ h => h, fun _ => Nat.le_refl _, fun x y => by
  show ((x == y) = true) ↔ _
  exact beq_iff_eq⟩
theorem lay_allO {α : Type} {d : α → PyData} {ok : α → Prop} (h : ∀ x, ok x → (d x).canLay0 = true) : ∀ xs : List α, (∀ x ∈ xs, ok x) → PyData.canLayAll0 (xs.map d) = true
  | [], _ => rfl
  | x :: xs, q => by
    show (PyData.canLay0 (d x) && PyData.canLayAll0 (xs.map d)) = true
    rw [h x (q x (List.mem_cons_self ..)), lay_allO h xs fun y hy => q y (List.mem_cons_of_mem _ hy)]; rfl
theorem dp_allO {α : Type} {e : Rep α} {lv : Nat} [Dao e lv] {K : PySem.W.Frag} {F : Hp} : ∀ {vs : List V} {xs : List α}, All e F vs xs → DpAll K F vs (xs.map (Dao.d e))
  | [], [], _ => .nil
  | _ :: _, _ :: _, ⟨a, b⟩ => .cons (Dao.dp a) (dp_allO b)
  | [], _ :: _, q => q.elim
  | _ :: _, [], q => q.elim
instance {α : Type} {e : Rep α} {n : Nat} [Dao e n] : Dao (pL e) (n + 1) := ⟨fun xs => ∀ x ∈ xs, Dao.ok e x, fun xs => .list (xs.map (Dao.d e)), fun {K F v xs} h => by
    obtain ⟨p, vs, rfl, hp, a⟩ := h
    exact .lst (SqL.of hp) (dp_allO a), fun xs => lay_allO (Dao.lay (e := e)) xs, fun xs => by
    have := dep_all (Dao.dep (e := e)) xs
    simp only [PyData.depth]
    omega, fun xs ys => by
    show PyData.eqvAll (xs.map (Dao.d e)) (ys.map (Dao.d e)) = true ↔ _
    exact eqv_all (Dao.inj (e := e)) xs ys⟩
instance {α : Type} {e : Rep α} {n : Nat} [Dao e n] : Dao (pTL e) (n + 1) := ⟨fun xs => ∀ x ∈ xs, Dao.ok e x, fun xs => .tuple (xs.map (Dao.d e)), fun {K F v xs} h => by
    obtain ⟨p, vs, rfl, hp, a⟩ := h
    exact .tup (SqT.of hp) (dp_allO a), fun xs => lay_allO (Dao.lay (e := e)) xs, fun xs => by
    have := dep_all (Dao.dep (e := e)) xs
    simp only [PyData.depth]
    omega, fun xs ys => by
    show PyData.eqvAll (xs.map (Dao.d e)) (ys.map (Dao.d e)) = true ↔ _
    exact eqv_all (Dao.inj (e := e)) xs ys⟩
instance {α β : Type} {e : Rep α} {f : Rep β} {n m : Nat} [Dao e n] [Dao f m] : Dao (pT2 e f) (max n m + 1) := ⟨fun x => Dao.ok e x.1 ∧ Dao.ok f x.2, fun x => .tuple [Dao.d e x.1, Dao.d f x.2], fun {K F v x} h => by
    obtain ⟨p, u, w, rfl, hp, a, b⟩ := h
    exact .tup (SqT.of hp) (.cons (Dao.dp a) (.cons (Dao.dp b) .nil)), fun x h => by
    show (PyData.canLay0 (Dao.d e x.1) && (PyData.canLay0 (Dao.d f x.2) && PyData.canLayAll0 [])) = true
    rw [Dao.lay _ h.1, Dao.lay _ h.2]; rfl, fun x => by
    have a := Dao.dep (e := e) x.1
    have b := Dao.dep (e := f) x.2
    simp only [PyData.depth, PyData.depthAll]
    omega, fun x y => by
    show (PyData.eqv (Dao.d e x.1) (Dao.d e y.1) && (PyData.eqv (Dao.d f x.2) (Dao.d f y.2) && PyData.eqvAll [] [])) = true ↔ _
    have z : PyData.eqvAll [] [] = true := rfl
    rw [z, Bool.and_true, Bool.and_eq_true, Dao.inj, Dao.inj, Prod.ext_iff]⟩
instance {α β γ : Type} {e : Rep α} {f : Rep β} {g : Rep γ} {n m k : Nat} [Dao e n] [Dao f m] [Dao g k] : Dao (pT3 e f g) (max n (max m k) + 1) := ⟨fun x => Dao.ok e x.1 ∧ Dao.ok f x.2.1 ∧ Dao.ok g x.2.2, fun x => .tuple [Dao.d e x.1, Dao.d f x.2.1, Dao.d g x.2.2], fun {K F v x} h => by
    obtain ⟨p, u, w, y, rfl, hp, a, b, c⟩ := h
    exact .tup (SqT.of hp) (.cons (Dao.dp a) (.cons (Dao.dp b) (.cons (Dao.dp c) .nil))), fun x h => by
    show (PyData.canLay0 (Dao.d e x.1) && (PyData.canLay0 (Dao.d f x.2.1) && (PyData.canLay0 (Dao.d g x.2.2) && PyData.canLayAll0 []))) = true
    rw [Dao.lay _ h.1, Dao.lay _ h.2.1, Dao.lay _ h.2.2]; rfl, fun x => by
    have a := Dao.dep (e := e) x.1
    have b := Dao.dep (e := f) x.2.1
    have c := Dao.dep (e := g) x.2.2
    simp only [PyData.depth, PyData.depthAll]
    omega, fun x y => by
    show (PyData.eqv (Dao.d e x.1) (Dao.d e y.1) && (PyData.eqv (Dao.d f x.2.1) (Dao.d f y.2.1) && (PyData.eqv (Dao.d g x.2.2) (Dao.d g y.2.2) && PyData.eqvAll [] []))) = true ↔ _
    have z : PyData.eqvAll [] [] = true := rfl
    rw [z, Bool.and_true, Bool.and_eq_true, Bool.and_eq_true, Dao.inj, Dao.inj, Dao.inj, Prod.ext_iff, Prod.ext_iff]⟩
instance {α : Type} {e : Rep α} {n : Nat} [Dao e n] : Dao (pAlt (pL e) pN) (n + 1) := ⟨fun x => match x with | .inl xs => ∀ y ∈ xs, Dao.ok e y | .inr _ => True, fun x => match x with | .inl xs => .list (xs.map (Dao.d e)) | .inr m => .int (m : Int), fun {K F v x} h => by
    cases x with
    | inl xs =>
      obtain ⟨p, vs, rfl, hp, a⟩ := (show (pL e).r F v xs from h)
      exact .lst (SqL.of hp) (dp_allO a)
    | inr m => cases (show v = V.int _ from h); exact .int _, fun x h => by
    cases x with
    | inl xs => exact lay_allO (Dao.lay (e := e)) xs h
    | inr m => rfl, fun x => by
    cases x with
    | inl xs =>
      have := dep_all (Dao.dep (e := e)) xs
      simp only [PyData.depth]
      omega
    | inr m => simp only [PyData.depth]; omega, fun x y => by
    cases x with
    | inl xs =>
      cases y with
      | inl ys =>
        show PyData.eqvAll (xs.map (Dao.d e)) (ys.map (Dao.d e)) = true ↔ _
        rw [eqv_all (Dao.inj (e := e)) xs ys]
        exact ⟨fun h => by rw [h], fun h => Sum.inl.inj h⟩
      | inr m => exact ⟨fun h => absurd (show false = true from h) (by decide), fun h => nomatch h⟩
    | inr m =>
      cases y with
      | inl ys => exact ⟨fun h => absurd (show false = true from h) (by decide), fun h => nomatch h⟩
      | inr k =>
        show (((m : Int) == (k : Int)) = true) ↔ _
        rw [beq_iff_eq]
        exact ⟨fun h => by rw [show m = k by omega], fun h => by rw [Sum.inr.inj h]⟩⟩
theorem Dao.shp {α : Type} {e : Rep α} {n : Nat} [Dao e n] (h : n ≤ 64) {x : α} (o : okV e x) : SeqAt.shaped (Dao.d e x) = true := by
  unfold SeqAt.shaped
  rw [Dao.lay x o, decide_eq_true (Nat.le_trans (Dao.dep x) h)]; rfl
section
variable {α : Type} {e : Rep α} {K : PySem.W.Frag} {σ : L2.St} {F F' H : Hp} {ta tb : TE} {v w : V} {x y : α} {n : Nat}
theorem c_eqO [DecidableEq α] [Dao e n] (ha : Val ta σ H v) (hb : Val tb σ H w) (f : Ex F H) (r : e.r F v x) (g : Ex F' H) (s : e.r F' w y) (o : okV e x ∧ okV e y) (h : n ≤ 64 := by decide) : Val (tOp (rEqD K) ta tb) σ H (.bl (decide (x = y))) :=
  v2 ha hb fun Q k => ⟨_, _, Dao.dp (e.mono f r), Dao.dp (e.mono g s), Dao.shp h o.1, Dao.shp h o.2, by
    have z : PyData.eqv (Dao.d e x) (Dao.d e y) = decide (x = y) := Bool.eq_iff_iff.mpr (by rw [Dao.inj, decide_eq_true_iff])
    rw [z]; exact k⟩
theorem c_neO [DecidableEq α] [Dao e n] (ha : Val ta σ H v) (hb : Val tb σ H w) (f : Ex F H) (r : e.r F v x) (g : Ex F' H) (s : e.r F' w y) (o : okV e x ∧ okV e y) (h : n ≤ 64 := by decide) : Val (tOp (rNeD K) ta tb) σ H (.bl (decide (x ≠ y))) :=
  v2 ha hb fun Q k => ⟨_, _, Dao.dp (e.mono f r), Dao.dp (e.mono g s), Dao.shp h o.1, Dao.shp h o.2, by
    have z : PyData.eqv (Dao.d e x) (Dao.d e y) = decide (x = y) := Bool.eq_iff_iff.mpr (by rw [Dao.inj, decide_eq_true_iff])
    rw [z, ← decide_not]; exact k⟩
end
end Wk
/-! Dt: readings tell one thing: what a reading holds for, it holds for because of one outcome. -/
namespace Wk
class Ctx (C : Type) where
  Out : Type
  at_ : Out → C → Prop
instance {α : Type} : Ctx (α → Prop) := ⟨α, fun z c => c z⟩
instance {C E : Type} [Ctx C] [Ctx E] : Ctx (C × E) := ⟨Sum (Ctx.Out C) (Ctx.Out E), fun o d => match o with | .inl o => Ctx.at_ o d.1 | .inr o => Ctx.at_ o d.2⟩
def Det {C : Type} [Ctx C] (W : C → Prop) : Prop := ∀ c, W c → (∀ c', W c') ∨ ∃ o : Ctx.Out C, Ctx.at_ o c ∧ ∀ c', Ctx.at_ o c' → W c'
theorem Det.lf0a {S : Type} (z : S) : Det (fun d : (S → Prop) => d z) := fun d h => .inr ⟨z, h, fun _ q => q⟩
theorem Det.lf0r {C S : Type} [Ctx C] (z : S) : Det (fun d : (C × (S → Prop)) => d.2 z) := fun d h => .inr ⟨Sum.inr z, h, fun _ q => q⟩
theorem Det.lf0rl {C S T : Type} [Ctx C] [Ctx T] (z : S) : Det (fun d : (C × ((S → Prop) × T)) => d.2.1 z) := fun d h => .inr ⟨Sum.inr (Sum.inl z), h, fun _ q => q⟩
theorem Det.lf0rr {C S T : Type} [Ctx C] [Ctx T] (z : S) : Det (fun d : (C × (T × (S → Prop))) => d.2.2 z) := fun d h => .inr ⟨Sum.inr (Sum.inr z), h, fun _ q => q⟩
theorem Det.lf1a {S : Type} {E0 : Type} [Ctx E0] (z : S) : Det (fun d : ((S → Prop) × E0) => d.1 z) := fun d h => .inr ⟨Sum.inl (z), h, fun _ q => q⟩
theorem Det.lf1r {C S : Type} [Ctx C] {E0 : Type} [Ctx E0] (z : S) : Det (fun d : ((C × (S → Prop)) × E0) => d.1.2 z) := fun d h => .inr ⟨Sum.inl (Sum.inr z), h, fun _ q => q⟩
theorem Det.lf1rl {C S T : Type} [Ctx C] [Ctx T] {E0 : Type} [Ctx E0] (z : S) : Det (fun d : ((C × ((S → Prop) × T)) × E0) => d.1.2.1 z) := fun d h => .inr ⟨Sum.inl (Sum.inr (Sum.inl z)), h, fun _ q => q⟩
theorem Det.lf1rr {C S T : Type} [Ctx C] [Ctx T] {E0 : Type} [Ctx E0] (z : S) : Det (fun d : ((C × (T × (S → Prop))) × E0) => d.1.2.2 z) := fun d h => .inr ⟨Sum.inl (Sum.inr (Sum.inr z)), h, fun _ q => q⟩
theorem Det.lf2a {S : Type} {E0 : Type} [Ctx E0] {E1 : Type} [Ctx E1] (z : S) : Det (fun d : (((S → Prop) × E0) × E1) => d.1.1 z) := fun d h => .inr ⟨Sum.inl (Sum.inl (z)), h, fun _ q => q⟩
theorem Det.lf2r {C S : Type} [Ctx C] {E0 : Type} [Ctx E0] {E1 : Type} [Ctx E1] (z : S) : Det (fun d : (((C × (S → Prop)) × E0) × E1) => d.1.1.2 z) := fun d h => .inr ⟨Sum.inl (Sum.inl (Sum.inr z)), h, fun _ q => q⟩
theorem Det.lf2rl {C S T : Type} [Ctx C] [Ctx T] {E0 : Type} [Ctx E0] {E1 : Type} [Ctx E1] (z : S) : Det (fun d : (((C × ((S → Prop) × T)) × E0) × E1) => d.1.1.2.1 z) := fun d h => .inr ⟨Sum.inl (Sum.inl (Sum.inr (Sum.inl z))), h, fun _ q => q⟩
theorem Det.lf2rr {C S T : Type} [Ctx C] [Ctx T] {E0 : Type} [Ctx E0] {E1 : Type} [Ctx E1] (z : S) : Det (fun d : (((C × (T × (S → Prop))) × E0) × E1) => d.1.1.2.2 z) := fun d h => .inr ⟨Sum.inl (Sum.inl (Sum.inr (Sum.inr z))), h, fun _ q => q⟩
theorem Det.lf3a {S : Type} {E0 : Type} [Ctx E0] {E1 : Type} [Ctx E1] {E2 : Type} [Ctx E2] (z : S) : Det (fun d : ((((S → Prop) × E0) × E1) × E2) => d.1.1.1 z) := fun d h => .inr ⟨Sum.inl (Sum.inl (Sum.inl (z))), h, fun _ q => q⟩
theorem Det.lf3r {C S : Type} [Ctx C] {E0 : Type} [Ctx E0] {E1 : Type} [Ctx E1] {E2 : Type} [Ctx E2] (z : S) : Det (fun d : ((((C × (S → Prop)) × E0) × E1) × E2) => d.1.1.1.2 z) := fun d h => .inr ⟨Sum.inl (Sum.inl (Sum.inl (Sum.inr z))), h, fun _ q => q⟩
theorem Det.lf3rl {C S T : Type} [Ctx C] [Ctx T] {E0 : Type} [Ctx E0] {E1 : Type} [Ctx E1] {E2 : Type} [Ctx E2] (z : S) : Det (fun d : ((((C × ((S → Prop) × T)) × E0) × E1) × E2) => d.1.1.1.2.1 z) := fun d h => .inr ⟨Sum.inl (Sum.inl (Sum.inl (Sum.inr (Sum.inl z)))), h, fun _ q => q⟩
theorem Det.lf3rr {C S T : Type} [Ctx C] [Ctx T] {E0 : Type} [Ctx E0] {E1 : Type} [Ctx E1] {E2 : Type} [Ctx E2] (z : S) : Det (fun d : ((((C × (T × (S → Prop))) × E0) × E1) × E2) => d.1.1.1.2.2 z) := fun d h => .inr ⟨Sum.inl (Sum.inl (Sum.inl (Sum.inr (Sum.inr z)))), h, fun _ q => q⟩
theorem Det.lf4a {S : Type} {E0 : Type} [Ctx E0] {E1 : Type} [Ctx E1] {E2 : Type} [Ctx E2] {E3 : Type} [Ctx E3] (z : S) : Det (fun d : (((((S → Prop) × E0) × E1) × E2) × E3) => d.1.1.1.1 z) := fun d h => .inr ⟨Sum.inl (Sum.inl (Sum.inl (Sum.inl (z)))), h, fun _ q => q⟩
theorem Det.lf4r {C S : Type} [Ctx C] {E0 : Type} [Ctx E0] {E1 : Type} [Ctx E1] {E2 : Type} [Ctx E2] {E3 : Type} [Ctx E3] (z : S) : Det (fun d : (((((C × (S → Prop)) × E0) × E1) × E2) × E3) => d.1.1.1.1.2 z) := fun d h => .inr ⟨Sum.inl (Sum.inl (Sum.inl (Sum.inl (Sum.inr z)))), h, fun _ q => q⟩
theorem Det.lf4rl {C S T : Type} [Ctx C] [Ctx T] {E0 : Type} [Ctx E0] {E1 : Type} [Ctx E1] {E2 : Type} [Ctx E2] {E3 : Type} [Ctx E3] (z : S) : Det (fun d : (((((C × ((S → Prop) × T)) × E0) × E1) × E2) × E3) => d.1.1.1.1.2.1 z) := fun d h => .inr ⟨Sum.inl (Sum.inl (Sum.inl (Sum.inl (Sum.inr (Sum.inl z))))), h, fun _ q => q⟩
theorem Det.lf4rr {C S T : Type} [Ctx C] [Ctx T] {E0 : Type} [Ctx E0] {E1 : Type} [Ctx E1] {E2 : Type} [Ctx E2] {E3 : Type} [Ctx E3] (z : S) : Det (fun d : (((((C × (T × (S → Prop))) × E0) × E1) × E2) × E3) => d.1.1.1.1.2.2 z) := fun d h => .inr ⟨Sum.inl (Sum.inl (Sum.inl (Sum.inl (Sum.inr (Sum.inr z))))), h, fun _ q => q⟩
theorem Det.lf5a {S : Type} {E0 : Type} [Ctx E0] {E1 : Type} [Ctx E1] {E2 : Type} [Ctx E2] {E3 : Type} [Ctx E3] {E4 : Type} [Ctx E4] (z : S) : Det (fun d : ((((((S → Prop) × E0) × E1) × E2) × E3) × E4) => d.1.1.1.1.1 z) := fun d h => .inr ⟨Sum.inl (Sum.inl (Sum.inl (Sum.inl (Sum.inl (z))))), h, fun _ q => q⟩
theorem Det.lf5r {C S : Type} [Ctx C] {E0 : Type} [Ctx E0] {E1 : Type} [Ctx E1] {E2 : Type} [Ctx E2] {E3 : Type} [Ctx E3] {E4 : Type} [Ctx E4] (z : S) : Det (fun d : ((((((C × (S → Prop)) × E0) × E1) × E2) × E3) × E4) => d.1.1.1.1.1.2 z) := fun d h => .inr ⟨Sum.inl (Sum.inl (Sum.inl (Sum.inl (Sum.inl (Sum.inr z))))), h, fun _ q => q⟩
theorem Det.lf5rl {C S T : Type} [Ctx C] [Ctx T] {E0 : Type} [Ctx E0] {E1 : Type} [Ctx E1] {E2 : Type} [Ctx E2] {E3 : Type} [Ctx E3] {E4 : Type} [Ctx E4] (z : S) : Det (fun d : ((((((C × ((S → Prop) × T)) × E0) × E1) × E2) × E3) × E4) => d.1.1.1.1.1.2.1 z) := fun d h => .inr ⟨Sum.inl (Sum.inl (Sum.inl (Sum.inl (Sum.inl (Sum.inr (Sum.inl z)))))), h, fun _ q => q⟩
theorem Det.lf5rr {C S T : Type} [Ctx C] [Ctx T] {E0 : Type} [Ctx E0] {E1 : Type} [Ctx E1] {E2 : Type} [Ctx E2] {E3 : Type} [Ctx E3] {E4 : Type} [Ctx E4] (z : S) : Det (fun d : ((((((C × (T × (S → Prop))) × E0) × E1) × E2) × E3) × E4) => d.1.1.1.1.1.2.2 z) := fun d h => .inr ⟨Sum.inl (Sum.inl (Sum.inl (Sum.inl (Sum.inl (Sum.inr (Sum.inr z)))))), h, fun _ q => q⟩
theorem Det.lf6a {S : Type} {E0 : Type} [Ctx E0] {E1 : Type} [Ctx E1] {E2 : Type} [Ctx E2] {E3 : Type} [Ctx E3] {E4 : Type} [Ctx E4] {E5 : Type} [Ctx E5] (z : S) : Det (fun d : (((((((S → Prop) × E0) × E1) × E2) × E3) × E4) × E5) => d.1.1.1.1.1.1 z) := fun d h => .inr ⟨Sum.inl (Sum.inl (Sum.inl (Sum.inl (Sum.inl (Sum.inl (z)))))), h, fun _ q => q⟩
theorem Det.lf6r {C S : Type} [Ctx C] {E0 : Type} [Ctx E0] {E1 : Type} [Ctx E1] {E2 : Type} [Ctx E2] {E3 : Type} [Ctx E3] {E4 : Type} [Ctx E4] {E5 : Type} [Ctx E5] (z : S) : Det (fun d : (((((((C × (S → Prop)) × E0) × E1) × E2) × E3) × E4) × E5) => d.1.1.1.1.1.1.2 z) := fun d h => .inr ⟨Sum.inl (Sum.inl (Sum.inl (Sum.inl (Sum.inl (Sum.inl (Sum.inr z)))))), h, fun _ q => q⟩
theorem Det.lf6rl {C S T : Type} [Ctx C] [Ctx T] {E0 : Type} [Ctx E0] {E1 : Type} [Ctx E1] {E2 : Type} [Ctx E2] {E3 : Type} [Ctx E3] {E4 : Type} [Ctx E4] {E5 : Type} [Ctx E5] (z : S) : Det (fun d : (((((((C × ((S → Prop) × T)) × E0) × E1) × E2) × E3) × E4) × E5) => d.1.1.1.1.1.1.2.1 z) := fun d h => .inr ⟨Sum.inl (Sum.inl (Sum.inl (Sum.inl (Sum.inl (Sum.inl (Sum.inr (Sum.inl z))))))), h, fun _ q => q⟩
theorem Det.lf6rr {C S T : Type} [Ctx C] [Ctx T] {E0 : Type} [Ctx E0] {E1 : Type} [Ctx E1] {E2 : Type} [Ctx E2] {E3 : Type} [Ctx E3] {E4 : Type} [Ctx E4] {E5 : Type} [Ctx E5] (z : S) : Det (fun d : (((((((C × (T × (S → Prop))) × E0) × E1) × E2) × E3) × E4) × E5) => d.1.1.1.1.1.1.2.2 z) := fun d h => .inr ⟨Sum.inl (Sum.inl (Sum.inl (Sum.inl (Sum.inl (Sum.inl (Sum.inr (Sum.inr z))))))), h, fun _ q => q⟩
section
variable {C α S β : Type} [Ctx C]
theorem Det.const {p : Prop} : Det (fun _ : C => p) := fun c h => .inl fun _ => h
theorem Det.and {p : Prop} {W : C → Prop} (h : p → Det W) : Det (fun c => p ∧ W c) := fun c ⟨a, b⟩ => (h a c b).imp (fun q c' => ⟨a, q c'⟩) fun ⟨o, x, y⟩ => ⟨o, x, fun c' q => ⟨a, y c' q⟩⟩
theorem Det.ex {W : α → C → Prop} (h : ∀ x, Det (W x)) : Det (fun c => ∃ x, W x c) := fun c ⟨a, b⟩ => (h a c b).imp (fun q c' => ⟨a, q c'⟩) fun ⟨o, x, y⟩ => ⟨o, x, fun c' q => ⟨a, y c' q⟩⟩
theorem Det.alleq {t : α} {W : α → C → Prop} (h : Det (W t)) : Det (fun c => ∀ x, x = t → W x c) := fun c k => (h c (k t rfl)).imp (fun q c' x e => by subst e; exact q c') fun ⟨o, a, b⟩ => ⟨o, a, fun c' q x e => by subst e; exact b c' q⟩
theorem Det.ite {p : Prop} [Decidable p] {A B : C → Prop} (ha : Det A) (hb : Det B) : Det (fun c => if p then A c else B c) := by
  by_cases h : p
  · intro c k
    have k' : A c := by have := k; simp only [if_pos h] at this; exact this
    exact (ha c k').imp (fun q c' => by show if p then _ else _; rw [if_pos h]; exact q c') fun ⟨o, a, b⟩ => ⟨o, a, fun c' q => by show if p then _ else _; rw [if_pos h]; exact b c' q⟩
  · intro c k
    have k' : B c := by have := k; simp only [if_neg h] at this; exact this
    exact (hb c k').imp (fun q c' => by show if p then _ else _; rw [if_neg h]; exact q c') fun ⟨o, a, b⟩ => ⟨o, a, fun c' q => by show if p then _ else _; rw [if_neg h]; exact b c' q⟩
theorem Det.jn {A : C → (S → Prop) → Prop} {K : S → C → Prop} (hA : Det (fun d : C × (S → Prop) => A d.1 d.2)) (hK : ∀ x, Det (K x)) : Det (fun c => Wk.jn (fun kk => A c kk) (fun x => K x c)) := fun c h => by
  rcases hA (c, fun x => K x c) h with h1 | ⟨o, h2, h3⟩
  · exact .inl fun c' => h1 (c', _)
  · cases o with
    | inl o => exact .inr ⟨o, h2, fun c' q => h3 (c', _) q⟩
    | inr x =>
      rcases hK x c h2 with a | ⟨o, a, b⟩
      · exact .inl fun c' => h3 (c', fun x => K x c') (a c')
      · exact .inr ⟨o, a, fun c' q => h3 (c', fun x => K x c') (b c' q)⟩
/-- a call -/
theorem Det.call {W : (S → Prop) → Prop} {K : S → C → Prop} (hW : Det W) (hK : ∀ x, Det (K x)) : Det (fun c => W (fun x => K x c)) := fun c h => by
  rcases hW (fun x => K x c) h with h1 | ⟨x, h2, h3⟩
  · exact .inl fun c' => h1 _
  · rcases hK x c h2 with a | ⟨o, a, b⟩
    · exact .inl fun c' => h3 (fun x => K x c') (a c')
    · exact .inr ⟨o, a, fun c' q => h3 (fun x => K x c') (b c' q)⟩
theorem Det.for_ {B : C → α → S → (S → Prop) → (S → Prop) → Prop} {K : S → C → Prop} (hB : ∀ x s, Det (fun d : C × ((S → Prop) × (S → Prop)) => B d.1 x s d.2.1 d.2.2)) (hK : ∀ s, Det (K s)) :
    ∀ (xs : List α) (s : S), Det (fun c => forW xs s (fun x s nx bk => B c x s nx bk) (fun s => K s c))
  | [], s => hK s
  | x :: xs, s => fun c h => by
    rcases hB x s (c, (fun s' => forW xs s' (fun x s nx bk => B c x s nx bk) (fun s => K s c)), (fun s => K s c)) h with h1 | ⟨o, h2, h3⟩
    · exact .inl fun c' => h1 (c', _, _)
    · cases o with
      | inl o => exact .inr ⟨o, h2, fun c' q => h3 (c', _, _) q⟩
      | inr o =>
        cases o with
        | inl s' =>
          rcases Det.for_ hB hK xs s' c h2 with a | ⟨o, a, b⟩
          · exact .inl fun c' => h3 (c', _, _) (a c')
          · exact .inr ⟨o, a, fun c' q => h3 (c', _, _) (b c' q)⟩
        | inr s' =>
          rcases hK s' c h2 with a | ⟨o, a, b⟩
          · exact .inl fun c' => h3 (c', _, fun s => K s c') (a c')
          · exact .inr ⟨o, a, fun c' q => h3 (c', _, fun s => K s c') (b c' q)⟩
theorem Det.compG_ {B : C → α → (Option β → Prop) → Prop} {K : List β → C → Prop} (hB : ∀ x, Det (fun d : C × (Option β → Prop) => B d.1 x d.2)) (hK : ∀ s, Det (K s)) :
    ∀ (xs : List α) (acc : List β), Det (fun c => compG xs acc (fun x kk => B c x kk) (fun s => K s c))
  | [], s => hK s
  | x :: xs, s => fun c h => by
    rcases hB x (c, (fun o => compG xs (s ++ o.toList) (fun x kk => B c x kk) (fun s => K s c))) h with h1 | ⟨o, h2, h3⟩
    · exact .inl fun c' => h1 (c', _)
    · cases o with
      | inl o => exact .inr ⟨o, h2, fun c' q => h3 (c', _) q⟩
      | inr o =>
        rcases Det.compG_ hB hK xs (s ++ o.toList) c h2 with a | ⟨o, a, b⟩
        · exact .inl fun c' => h3 (c', _) (a c')
        · exact .inr ⟨o, a, fun c' q => h3 (c', _) (b c' q)⟩
theorem Det.comp_ {B : C → α → (Option β → Prop) → Prop} {K : List β → C → Prop} (hB : ∀ x, Det (fun d : C × (Option β → Prop) => B d.1 x d.2)) (hK : ∀ s, Det (K s)) (xs : List α) : Det (fun c => compW xs (fun x kk => B c x kk) (fun s => K s c)) := Det.compG_ hB hK xs []
theorem Det.mono {W : C → Prop} (h : Det W) {c c' : C} (hc : ∀ o : Ctx.Out C, Ctx.at_ o c → Ctx.at_ o c') (hw : W c) : W c' := by
  rcases h c hw with a | ⟨o, a, b⟩
  · exact a c'
  · exact b c' (hc o a)
/-- the way out of a loop goes on with K -/
theorem Det.sub {B : C → (S → Prop) → (S → Prop) → Prop} {K : S → C → Prop} (hB : Det (fun d : C × ((S → Prop) × (S → Prop)) => B d.1 d.2.1 d.2.2)) (hK : ∀ s, Det (K s)) : Det (fun d : C × (S → Prop) => B d.1 d.2 (fun s => K s d.1)) := fun d h => by
  rcases hB (d.1, d.2, fun s => K s d.1) h with h1 | ⟨o, h2, h3⟩
  · exact .inl fun d' => h1 (d'.1, d'.2, _)
  · cases o with
    | inl o => exact .inr ⟨.inl o, h2, fun d' q => h3 (d'.1, d'.2, _) q⟩
    | inr o =>
      cases o with
      | inl s' => exact .inr ⟨.inr s', h2, fun d' q => h3 (d'.1, d'.2, _) q⟩
      | inr s' =>
        rcases hK s' d.1 h2 with a | ⟨o, a, b⟩
        · exact .inl fun d' => h3 (d'.1, d'.2, fun s => K s d'.1) (a d'.1)
        · exact .inr ⟨.inl o, a, fun d' q => h3 (d'.1, d'.2, fun s => K s d'.1) (b d'.1 q)⟩
theorem Det.fst {E : Type} [Ctx E] {W : C → Prop} (h : Det W) : Det (fun d : C × E => W d.1) := fun d k => by
  rcases h d.1 k with a | ⟨o, a, b⟩
  · exact .inl fun d' => a d'.1
  · exact .inr ⟨.inl o, a, fun d' q => b d'.1 q⟩
/-- a while: its test tells by one outcome, too -/
theorem Det.while_ {T : S → (Bool → Prop) → Prop} {B : C → S → (S → Prop) → (S → Prop) → Prop} {K : S → C → Prop} (hT : ∀ s, Det (T s)) (hB : ∀ s, Det (fun d : C × ((S → Prop) × (S → Prop)) => B d.1 s d.2.1 d.2.2)) (hK : ∀ s, Det (K s)) (s : S) :
    Det (fun c => whileW (fun s t => T s t) (fun s nx bk => B c s nx bk) s (fun s => K s c)) := by
  have turn : ∀ u, Det (fun d : C × (S → Prop) => T u fun b => if b = true then B d.1 u d.2 (fun s => K s d.1) else K u d.1) := fun u =>
    Det.call (K := fun b (d : C × (S → Prop)) => if b = true then B d.1 u d.2 (fun s => K s d.1) else K u d.1) (hT u) fun b => Det.ite (Det.sub (B := fun c N k => B c u N k) (hB u) hK) (Det.fst (hK u))
  intro c ⟨I, ⟨m, hm⟩, hI⟩
  suffices go : ∀ m s, I m s → (∀ c', whileW (fun s t => T s t) (fun s nx bk => B c' s nx bk) s (fun s => K s c')) ∨ ∃ o : Ctx.Out C, Ctx.at_ o c ∧ ∀ c', Ctx.at_ o c' → whileW (fun s t => T s t) (fun s nx bk => B c' s nx bk) s (fun s => K s c') from go m s hm
  intro m
  induction m using Nat.strongRecOn with
  | ind m ih =>
    intro s hs
    have now : ∀ c', (∀ N : S → Prop, T s fun b => if b = true then B c' s N (fun s => K s c') else K s c') → whileW (fun s t => T s t) (fun s nx bk => B c' s nx bk) s (fun s => K s c') := fun c' h =>
      ⟨fun _ u => u = s, ⟨0, rfl⟩, fun n u e => by subst e; exact h _⟩
    rcases turn s (c, fun s' => ∃ m', m' < m ∧ I m' s') (hI m s hs) with h1 | ⟨o, h2, h3⟩
    · exact .inl fun c' => now c' fun N => h1 (c', N)
    · cases o with
      | inl o => exact .inr ⟨o, h2, fun c' q => now c' fun N => h3 (c', N) q⟩
      | inr s1 =>
        obtain ⟨m1, hlt, hs1⟩ := h2
        have step : ∀ c', whileW (fun s t => T s t) (fun s nx bk => B c' s nx bk) s1 (fun s => K s c') → whileW (fun s t => T s t) (fun s nx bk => B c' s nx bk) s (fun s => K s c') := fun c' ⟨J, ⟨n1, hn1⟩, hJ⟩ => by
          refine ⟨fun n u => J n u ∨ (u = s ∧ n = n1 + 1), ⟨n1 + 1, .inr ⟨rfl, rfl⟩⟩, fun n u hu => ?_⟩
          rcases hu with hu | ⟨rfl, rfl⟩
          · refine Det.mono (turn u) (c := (c', fun s' => ∃ m', m' < n ∧ J m' s')) (c' := (c', fun s' => ∃ m', m' < n ∧ (J m' s' ∨ (s' = s ∧ m' = n1 + 1)))) (fun o q => ?_) (hJ n u hu)
            cases o with
            | inl o => exact q
            | inr x => obtain ⟨m', a, b⟩ := q; exact ⟨m', a, .inl b⟩
          · exact h3 (c', fun s' => ∃ m', m' < n1 + 1 ∧ (J m' s' ∨ (s' = u ∧ m' = n1 + 1))) ⟨n1, Nat.lt_succ_self _, .inl hn1⟩
        rcases ih m1 hlt s1 hs1 with a | ⟨o, a, b⟩
        · exact .inl fun c' => step c' (a c')
        · exact .inr ⟨o, a, fun c' q => step c' (b c' q)⟩
/-- sorted keys -/
theorem sorted_unique {ys zs : List Nat} (p : ys.Perm zs) (hy : ys.Pairwise (· ≤ ·)) (hz : zs.Pairwise (· ≤ ·)) : ys = zs := p.eq_of_pairwise (fun a b _ _ => Nat.le_antisymm) hy hz
theorem Det.sorted {l : List Nat} {W : List Nat → C → Prop} (h : ∀ ys, Det (W ys)) : Det (fun c => ∀ ys : List Nat, ys.Perm l → ys.Pairwise (· ≤ ·) → W ys c) := by
  have ex : ∃ ys : List Nat, ys.Perm l ∧ ys.Pairwise (· ≤ ·) := ⟨l.mergeSort (fun a b => decide (a ≤ b)), List.mergeSort_perm _ _, by
    have := List.pairwise_mergeSort (le := fun a b => decide (a ≤ b)) (fun a b c h1 h2 => by simp at h1 h2 ⊢; omega) (fun a b => by simp; omega) l
    exact this.imp fun h => by simpa using h⟩
  obtain ⟨ys, hp, hs⟩ := ex
  intro c k
  have un : ∀ zs : List Nat, zs.Perm l → zs.Pairwise (· ≤ ·) → zs = ys := fun zs p s => sorted_unique (p.trans hp.symm) s hs
  rcases h ys c (k ys hp hs) with a | ⟨o, a, b⟩
  · exact .inl fun c' zs p s => by rw [un zs p s]; exact a c'
  · exact .inr ⟨o, a, fun c' q zs p s => by rw [un zs p s]; exact b c' q⟩
/-- what a reading tells, once it is known to tell something -/
theorem Det.tells {W : (α → Prop) → Prop} (h : Det W) {P : α → Prop} (hp : ∀ R : α → Prop, (∀ z, P z → R z) → W R) (hne : ¬ W fun _ => False) : ∃ z, P z ∧ ∀ R : α → Prop, R z → W R := by
  rcases h P (hp P fun _ q => q) with a | ⟨o, a, b⟩
  · exact absurd (a fun _ => False) hne
  · exact ⟨o, a, fun R q => b R q⟩
theorem Det.tells' {W : (α → Prop) → Prop} (h : Det W) {P : α → Prop} (hp : ∀ R : α → Prop, (∀ z, P z → R z) → W R) : (∀ R, W R) ∨ ∃ z, P z ∧ ∀ R : α → Prop, R z → W R := by
  rcases h P (hp P fun _ q => q) with a | ⟨o, a, b⟩
  · exact .inl a
  · exact .inr ⟨o, a, fun R q => b R q⟩
end
end Wk
/-! Fx: walks over one's own list, over lists in a region; new lists of new lists; is True. -/
namespace Wk
open PySem L2
section
variable {α β : Type} {e : Rep α} {b : Rep β} {K : PySem.W.Frag} {σ : L2.St} {F0 H0 F F' F2 H H' H2 G : Hp} {p q : Addr} {v u : V} {x : α} {xs : List α} {D : Ends} {S : Type} {g : TG} {tb : TS} {s0 : S} {k : S → Prop} {te : TE} {Q : VK}
/-- over one's own list of numbers, that is not changed the while -/
theorem w_forX {zs : List Nat} {body : Nat → S → (S → Prop) → (S → Prop) → Prop} (Inv : S → L2.St → Hp → Hp → Prop) (r : XL pN H0 F H p zs) (hW : forW zs s0 body k) (h0 : Inv s0 σ F H)
    (ex : ∀ s σ' F' H', Inv s σ' F' H' → XL pN H0 F' H' p zs)
    (turn : ∀ (N Bk : L2.St → Hp → Prop) x u s σ' F' H' (nx bk : S → Prop), Inv s σ' F' H' → x ∈ zs → pN.r F' u x → body x s nx bk → (∀ s' σ2 F2 H2, Inv s' σ2 F2 H2 → nx s' → N σ2 H2) → (∀ s' σ2 F2 H2, Inv s' σ2 F2 H2 → bk s' → Bk σ2 H2) →
      g u σ' H' fun σ2 H2 => tb { D with nx := N, ct := N, bk := Bk } σ2 H2)
    (done : ∀ s σ' F' H', Inv s σ' F' H' → k s → D.nx σ' H') :
    ∃ a, V.ref p = .ref a ∧ (∃ xs, SqL K H a xs) ∧ (fun J H1 => ∃ W : Nat → Nat → L2.St → Hp → Prop, (∃ m, W 0 m σ H1) ∧ ∀ i m σ H, W i m σ H →
      (J.stop i H ∧ D.nx σ H) ∨ (J.go i H ∧ ∃ N : L2.St → Hp → Prop, (∀ σ' H', N σ' H' → ∃ m', m' < m ∧ W (i + 1) m' σ' H') ∧ ∀ x H', J.yld i H x H' → g x σ H' fun σ2 H2 => tb { D with nx := N, ct := N, bk := D.nx } σ2 H2)) (Itl K a) H := by
  obtain ⟨vs, a, al⟩ := r.x
  have av := al.nats
  subst av
  have ent : ∀ s σ' F' H', Inv s σ' F' H' → H' p = some (.lst ((zs.map Int.ofNat).map V.int)) := fun s σ' F' H' h => by
    obtain ⟨vs', a', al'⟩ := (ex s σ' F' H' h).x
    have := al'.nats
    subst this; exact a'.h
  refine ⟨p, rfl, ⟨_, SqL.of a.h⟩, for_list (xs := (zs.map Int.ofNat).map V.int) (fun i σ' H' => ∃ s F', Inv s σ' F' H' ∧ forW (zs.drop i) s body k) ⟨s0, F, h0, hW⟩ (fun i σ' H' _ ⟨s, F', hI, _⟩ => SqL.of (ent _ _ _ _ hI)) ?_ ?_⟩
  · rintro i u σ' H' hu ⟨s, F', hI, hw⟩
    obtain ⟨x, hx, rx⟩ := al.got hu
    have e : zs.drop i = x :: zs.drop (i + 1) := by
      obtain ⟨h1, h2⟩ := List.getElem?_eq_some_iff.mp hx
      rw [← h2]; exact List.drop_eq_getElem_cons h1
    rw [e] at hw
    exact turn _ _ x u s σ' F' H' _ _ hI (List.mem_of_getElem? hx) rx hw (fun s' σ2 F2 H2 q n => ⟨s', F2, q, n⟩) (fun s' σ2 F2 H2 q n => done s' σ2 F2 H2 q n)
  · rintro σ' H' ⟨s, F', hI, hw⟩
    rw [List.drop_of_length_le (by rw [al.len]; exact Nat.le_refl _)] at hw
    exact done _ _ _ _ hI hw
/-- one's own list of new things is changed no more, and is new -/
theorem XL.frzNN (x : XL (pNew H0 e) H0 F H p xs) (w : Wf F0 H0 F H) : ∃ F', Wf F0 H0 F' H ∧ Ex F F' ∧ Fre H0 (pL e) F' (.ref p) xs ∧ Fz F F' p := by
  obtain ⟨vs, a, al⟩ := x.x
  refine ⟨_, w.freeze a, Ex.new a.n, ⟨p, vs, rfl, nw_at a.z upd_same, ?_⟩, fun q h z => by rw [upd_ne h]; exact z⟩
  exact all_cv (e := pNew H0 e) (e' := e) (G := F) (F := nw H0 (upd F p (.lst vs))) (fun {v x} h => e.mono (nw_ex (Ex.new a.n)) h) al
/-- a comprehension over a list in a region -/
theorem w_compRG {zs : List β} {tc : TT} {vs : List Nat} {bd : β → (Option α → Prop) → Prop} {kk : List α → Prop} (gr : RG H0 F H G) (r : (pL b).r G v zs) (w : Wf F0 H0 F H) (hn : zs.length < 1000000) (hW : compW zs bd kk)
    (turn : ∀ (Qy : V → Hp → Prop) (Qn : Hp → Prop) x u F1 H1 (R : Option α → Prop), Wf F H F1 H1 → x ∈ zs → b.r G u x → bd x R → (∀ y z F2 H2, Wf F1 H1 F2 H2 → e.r F2 y z → R (some z) → Qy y H2) → (∀ F2 H2, Wf F1 H1 F2 H2 → R none → Qn H2) →
      g u (wipe σ vs) H1 fun σ2 H2 => wipe σ2 vs = wipe σ vs ∧ tc σ2 H2 fun b H3 => if b = true then te σ2 H3 Qy else Qn H3)
    (done : ∀ p ys F' H', H p = none → Wf F H F' H' → XL e H0 F' H' p ys → kk ys → Q (.ref p) H') :
    kCpL K g tc te vs σ Q v H := by
  obtain ⟨p, ws, rfl, hp, a⟩ := r
  exact w_compC (b := pAt G b) (gr.h _ _ hp) (all_cv (e := b) (e' := pAt G b) (fun h => h) a) w hn hW turn done
/-- over a list of lists in a region, each of which grows by one -/
theorem w_forAG {zs : List (List Nat)} (Inv : L2.St → Hp → Hp → Prop) (gr : RG H0 F H G) (r : (pL (pL pN)).r G v zs) (h0 : Inv σ F H)
    (turn : ∀ (N Bk : L2.St → Hp → Prop) x u i σ' F' H', Inv σ' F' H' → RD H0 F' H' G i → i < zs.length → x ∈ zs → (pL pN).r G u x →
      (∀ σ2 F2 H2, Inv σ2 F2 H2 → RD H0 F2 H2 G (i + 1) → (∀ q o, H' q = some o → (∀ p, u = .ref p → q ≠ p) → H2 q = some o) → N σ2 H2) →
      g u σ' H' fun σ2 H2 => tb { D with nx := N, ct := N, bk := Bk } σ2 H2)
    (done : ∀ σ' F' H', Inv σ' F' H' → RD H0 F' H' G zs.length → D.nx σ' H') :
    ∃ a, v = .ref a ∧ (∃ xs, SqL K H a xs) ∧ (fun J H1 => ∃ W : Nat → Nat → L2.St → Hp → Prop, (∃ m, W 0 m σ H1) ∧ ∀ i m σ H, W i m σ H →
      (J.stop i H ∧ D.nx σ H) ∨ (J.go i H ∧ ∃ N : L2.St → Hp → Prop, (∀ σ' H', N σ' H' → ∃ m', m' < m ∧ W (i + 1) m' σ' H') ∧ ∀ x H', J.yld i H x H' → g x σ H' fun σ2 H2 => tb { D with nx := N, ct := N, bk := D.nx } σ2 H2)) (Itl K a) H := by
  obtain ⟨p, vs, rfl, hp, al⟩ := r
  refine ⟨p, rfl, ⟨_, SqL.of (gr.h _ _ hp)⟩, for_list (xs := vs) (fun i σ' H' => ∃ F', Inv σ' F' H' ∧ RD H0 F' H' G i ∧ H' p = some (.lst vs)) ⟨F, h0, gr.rd, gr.h _ _ hp⟩ (fun i σ' H' _ ⟨F', _, _, h⟩ => SqL.of h) ?_ ?_⟩
  · rintro i u σ' H' hu ⟨F', hI, rd, hl⟩
    obtain ⟨x, hx, rx⟩ := al.got hu
    have hi : i < zs.length := (List.getElem?_eq_some_iff.mp hx).1
    refine turn _ _ x u i σ' F' H' hI rd hi (List.mem_of_getElem? hx) rx fun σ2 F2 H2 h1 h2 h3 => ⟨F2, h1, h2, h3 p _ hl fun p' e z => ?_⟩
    subst e z
    obtain ⟨p2, ws, e2, hp2, al2⟩ := rx
    cases e2
    rw [hp] at hp2
    cases hp2
    obtain ⟨n, _, rn⟩ := al2.got hu
    have rn' : (V.ref p : V) = .int (n : Int) := rn
    cases rn'
  · rintro σ' H' ⟨F', hI, rd, hl⟩
    rw [al.len] at rd
    exact done _ _ _ hI rd
theorem v_notB {ta tb : TE} {x y : Bool} (ha : Val ta σ H (.bl x)) (hb : Val tb σ H (.bl y)) : Val (tOp rNotB ta tb) σ H (.bl (!decide (x = y))) := v2 ha hb fun Q k => ⟨x, y, rfl, rfl, k⟩
theorem v_isB {ta tb : TE} {x y : Bool} (ha : Val ta σ H (.bl x)) (hb : Val tb σ H (.bl y)) : Val (tOp rIsB ta tb) σ H (.bl (decide (x = y))) := v2 ha hb fun Q k => ⟨x, y, rfl, rfl, k⟩
theorem v_notB' {ta tb : TE} {x y : Bool} (ha : Val ta σ H (.bl x)) (hb : Val tb σ H (.bl y)) : Val (tOp rNotB ta tb) σ H (.bl (decide (¬ x = y))) := by
  have := v_notB ha hb
  rwa [← decide_not] at this
end
end Wk
/-! Wi: a class over others: Base.__init__(self, x), methods of an object whose class is one of some; tuples of four. -/
namespace Wk
open PySem L2 ClX
/-- a def of a class, called as C.m(x, ..) -/
structure Cf (P : Program) (w : World) (K : PySem.W.Frag) (mg : Str → Option Value) (base : Heap) (CX : CXT) (k : Nat) (C : Addr) (m : Str) (ps : List Str) (sp : Sp) : Prop where
  ex : ∃ f fd, FnOk P w K mg base CX k f fd ps sp ∧ (CVal K C (.type "type") m (.ref f) (.ref f) ∧ PySem.W.keepIn K (.ref f) = true) ∧ Binds K fd ps []
def tCf (C : Addr) (sp : Sp) (E : XK) (ta : TE) (t : TA) : TE := fun σ H Q => ta σ H fun x H1 => x = .ref C ∧ t σ H1 fun vs H2 => sp vs H2 Q E
/-- an object of one of some classes -/
def IsC (H : Hp) (x : V) (C : Addr) : Prop := ∃ a dx fs, x = .ref a ∧ H a = some (.ins C dx fs)
def tMethU (L : List (Addr × Sp)) (m : Str) (E : XK) (ta : TE) (t : TA) : TE := fun σ H Q => ta σ H fun x H1 => (∃ C, C ∈ L.map (·.1) ∧ ∃ a dx fs, x = .ref a ∧ H1 a = some (.ins C dx fs) ∧ fs.lookup m = none) ∧ t σ H1 fun vs H2 => ∀ C, IsC H1 x C → ∃ sp, (C, sp) ∈ L ∧ sp (x :: vs) H2 Q E
section
variable {X : Cx} {k : Nat} {C : Addr} {x m : Str} {ps : List Str} {sp : Sp} {o e : Expr} {es : List Expr} {p pos apos : Pos} {ta : TE} {t : TA} {pl : Sem Bool} {L : List (Addr × Sp)}
theorem pe_cf (M : Cf X.prog X.w X.K X.mg X.base CX0 k C m ps sp) (r : CRead X.K C (.type "type")) (hr : Room k X.A) (he : PE X o ta) (ha : PA X (e :: es) t)
    (hst : starEach (e :: es) X.env = (false, eval e X.env) :: starEach es X.env := by rfl) (hpl : (backTo pos (starEach es X.env)).any (·.1) = false := by rfl)
    (ht : eval (.Call (.Attribute o m apos) (e :: es) [] pos) X.env = (do
      let ov ← eval o X.env
      standAt apos.atName
      let (f, first) ← holding [ov] (getMethod ov m pl)
      callWith pos f first (backTo pos (starEach (e :: es) X.env)) (backToKw pos (keywordEach [] X.env))) := by rfl) :
    PE X (.Call (.Attribute o m apos) (e :: es) [] pos) (tCf C sp E0 ta t) := by
  obtain ⟨f, fd, F, ⟨cv, kp⟩, hb⟩ := M.ex
  refine ⟨fun pins s σ H Q I h => ?_⟩
  refine PySem.W.methodCall_KW (pl := pl) (thn (he.run pins s σ H _ I h) fun u s1 ⟨x, H1, I1, rx, ex, q⟩ => ?_) ht
  subst ex
  obtain rfl : u = Value.ref C := rx
  refine PySem.W.method_cls I1.kIn r.ga (getcval_ok I1 r cv fun s2 I2 => ?_)
  refine PySem.W.callWith_K (first := []) (h₀ := X.base) I.ok.mod.kin kp (thn (ha.run pos pins s2 σ H1 _ I2 q) fun us s3 ⟨vs, H2, I3, r3, q2⟩ => ⟨I3.kIn, ?_⟩) hst hpl
  exact run_fn (us := us) (vs := vs) F hr hb .nil pass0 I3 r3 (by rw [List.append_nil]; exact q2)
theorem pe_mdU (M : ∀ q ∈ L, Md X.prog X.w X.K X.mg X.base CX0 k q.1 m ps q.2 ∧ Cls X.K q.1) (hr : Room k X.A) (he : PE X o ta) (ha : PA X (e :: es) t)
    (hst : starEach (e :: es) X.env = (false, eval e X.env) :: starEach es X.env := by rfl) (hpl : (backTo pos (starEach es X.env)).any (·.1) = false := by rfl)
    (ht : eval (.Call (.Attribute o m apos) (e :: es) [] pos) X.env = (do
      let ov ← eval o X.env
      standAt apos.atName
      let (f, first) ← holding [ov] (getMethod ov m pl)
      callWith pos f first (backTo pos (starEach (e :: es) X.env)) (backToKw pos (keywordEach [] X.env))) := by rfl) :
    PE X (.Call (.Attribute o m apos) (e :: es) [] pos) (tMethU L m E0 ta t) := by
  refine ⟨fun pins s σ H Q I h => ?_⟩
  refine PySem.W.methodCall_KW (pl := pl) (thn (he.run pins s σ H _ I h) fun u s1 ⟨x, H1, I1, rx, ⟨C, hC, a, dx, fs, ex, ea, l⟩, q⟩ => ?_) ht
  subst ex
  obtain rfl : u = Value.ref a := rx
  obtain ⟨q0, hq0, e0⟩ := List.mem_map.mp hC
  obtain ⟨M0, c⟩ := M q0 hq0
  obtain ⟨f, fd, F, hm, hb⟩ := M0.ex
  rw [e0] at c hm
  refine getmeth_ok I1 ea c hm l ?_
  have hfun : ∀ (us : List Value) (vs : List V) (H2 : Hp) (s2 : Shared), Inv X pins σ H2 s2 → Vals vs us → (∀ C', IsC H1 (.ref a) C' → ∃ sp, (C', sp) ∈ L ∧ sp (.ref a :: vs) H2 Q E0) → wpAny (model X.prog X.w) X.A (call (.ref f) (.ref a :: us)) (EP X pins σ Q) X.xe s2 := by
    intro us vs H2 s2 I2 r q2
    obtain ⟨sp, hsp, q3⟩ := q2 C ⟨a, dx, fs, rfl, ea⟩
    obtain ⟨M1, _⟩ := M _ hsp
    obtain ⟨f1, fd1, F1, hm1, hb1⟩ := M1.ex
    have ef : f1 = f := by
      have := hm1.at_.symm.trans hm.at_
      cases this; rfl
    subst ef
    exact run_fn (us := .ref a :: us) (vs := .ref a :: vs) F1 hr hb1 .nil pass0 I2 (.cons rfl r) (by rw [List.append_nil]; exact q3)
  exact PySem.W.callWith_K (first := [.ref a]) (h₀ := X.base) I.ok.mod.kin hm.kp (thn (ha.run pos pins s1 σ H1 _ I1 q) fun us s2 ⟨vs, H2, I2, r, q2⟩ => ⟨I2.kIn, hfun us vs H2 s2 I2 r q2⟩) hst hpl
theorem pe_mdU0 (M : ∀ q ∈ L, Md X.prog X.w X.K X.mg X.base CX0 k q.1 m ps q.2 ∧ Cls X.K q.1) (hr : Room k X.A) (he : PE X o ta)
    (ht : eval (.Call (.Attribute o m apos) [] [] pos) X.env = (do
      let ov ← eval o X.env
      standAt apos.atName
      let (f, first) ← holding [ov] (getMethod ov m pl)
      callWith pos f first (backTo pos (starEach [] X.env)) (backToKw pos (keywordEach [] X.env))) := by rfl) :
    PE X (.Call (.Attribute o m apos) [] [] pos) (tMethU L m E0 ta tNil) := by
  refine ⟨fun pins s σ H Q I h => ?_⟩
  refine PySem.W.methodCall_KW (pl := pl) (thn (he.run pins s σ H _ I h) fun u s1 ⟨x, H1, I1, rx, ⟨C, hC, a, dx, fs, ex, ea, l⟩, q⟩ => ?_) ht
  subst ex
  obtain rfl : u = Value.ref a := rx
  obtain ⟨sp, hsp, q3⟩ := q C ⟨a, dx, fs, rfl, ea⟩
  obtain ⟨M1, c⟩ := M _ hsp
  obtain ⟨f, fd, F, hm, hb⟩ := M1.ex
  refine getmeth_ok I1 ea c hm l ?_
  exact PySem.W.callWith_K0 (first := [.ref a]) I1.kIn hm.kp (run_fn (us := [.ref a]) (vs := [.ref a]) F hr hb .nil pass0 I1 (.cons rfl .nil) q3)
end
section
variable {σ : L2.St} {H : Hp} {C : Addr} {m : Str} {sp : Sp} {E : XK} {ta : TE} {t : TA} {Q : VK} {L : List (Addr × Sp)}
theorem e_cf (h : ta σ H fun x H1 => x = .ref C ∧ t σ H1 fun vs H2 => sp vs H2 Q E) : tCf C sp E ta t σ H Q := h
theorem e_mdU (h : ta σ H fun x H1 => (∃ C, C ∈ L.map (·.1) ∧ ∃ a dx fs, x = .ref a ∧ H1 a = some (.ins C dx fs) ∧ fs.lookup m = none) ∧ t σ H1 fun vs H2 => ∀ C, IsC H1 x C → ∃ sp, (C, sp) ∈ L ∧ sp (x :: vs) H2 Q E) : tMethU L m E ta t σ H Q := h
end
/-! wires -/
abbrev WireV := Sum (Str × Nat) (Sum (Str × List Str) (Str × Str × Nat))
def pW (I S T : Addr) : Rep WireV := pAlt (pO2 I "name" "number" pS pN) (pAlt (pO2 S "name" "wires" pS (pTL pS)) (pO3 T "name" "wire" "number" pS pS pN))
def wName : WireV → Str
  | .inl x => x.1
  | .inr (.inl x) => x.1
  | .inr (.inr x) => x.1
def wTag : WireV → Nat
  | .inl _ => 0
  | .inr (.inl _) => 1
  | .inr (.inr _) => 2
def wNum : WireV → Option Nat
  | .inl x => some x.2
  | .inr (.inl _) => none
  | .inr (.inr x) => some x.2.2
def wWires : WireV → Option (List Str)
  | .inr (.inl x) => some x.2
  | _ => none
def wWire : WireV → Option Str
  | .inr (.inr x) => some x.2.1
  | _ => none
section
variable {I S T : Addr}
/-- the class of a wire -/
def wCls (I S T : Addr) : WireV → Addr
  | .inl _ => I
  | .inr (.inl _) => S
  | .inr (.inr _) => T
theorem wCls_mem (x : WireV) : wCls I S T x ∈ [I, S, T] := match x with
  | .inl _ => List.mem_cons_self ..
  | .inr (.inl _) => List.mem_cons_of_mem _ (List.mem_cons_self ..)
  | .inr (.inr _) => List.mem_cons_of_mem _ (List.mem_cons_of_mem _ (List.mem_cons_self ..))
end
/-- all that is asked of the classes -/
structure TW (K : PySem.W.Frag) (mg : Str → Option Value) (I S T B : Addr) : Prop where
  ci : Cls K I
  cs : Cls K S
  ct : Cls K T
  ni : NoAttr K I "name"
  ns : NoAttr K S "name"
  nt : NoAttr K T "name"
  mi : NoAttr K I "number"
  mt : NoAttr K T "number"
  ws : NoAttr K S "wires"
  wt : NoAttr K T "wire"
  ii : ClsI K mg "InWire" I
  is : ClsI K mg "SumWire" S
  it : ClsI K mg "StoreWire" T
  kI : ∀ x : WireV, PySem.W.kitOne K (.ref (wCls I S T x)) (.ref I) = some (decide (wTag x = 0))
  kS : ∀ x : WireV, PySem.W.kitOne K (.ref (wCls I S T x)) (.ref S) = some (decide (wTag x = 1))
  kT : ∀ x : WireV, PySem.W.kitOne K (.ref (wCls I S T x)) (.ref T) = some (decide (wTag x = 2))
  kB : ∀ x : WireV, PySem.W.kitOne K (.ref (wCls I S T x)) (.ref B) = some true
section
variable {K : PySem.W.Frag} {mg : Str → Option Value} {σ : L2.St} {F0 H0 F H : Hp} {v : V} {x : WireV} {I S T B : Addr} {Q : VK} {ta : TE}
theorem fl_Wname (tw : TW K mg I S T B) (r : (pW I S T).r F v x) (h : Ex F H) : ∀ ⦃σ ta⦄, Val ta σ H v → Val (tFld K ta "name") σ H (.str (wName x)) := by
  match x, r with
  | .inl y, r => obtain ⟨w, e, k⟩ := fl_21 (K := K) tw.ci tw.ni r h; cases (show w = .str _ from e); exact k
  | .inr (.inl y), r => obtain ⟨w, e, k⟩ := fl_21 (K := K) tw.cs tw.ns r h; cases (show w = .str _ from e); exact k
  | .inr (.inr y), r => obtain ⟨w, e, k⟩ := fl_31 (K := K) tw.ct tw.nt r h; cases (show w = .str _ from e); exact k
theorem fl_Wnum {n : Nat} (tw : TW K mg I S T B) (r : (pW I S T).r F v x) (h : Ex F H) (hn : wNum x = some n) : ∀ ⦃σ ta⦄, Val ta σ H v → Val (tFld K ta "number") σ H (.int (n : Int)) := by
  match x, r with
  | .inl y, r => obtain ⟨w, e, k⟩ := fl_22 (K := K) tw.ci tw.mi r h; cases (show w = .int _ from e); cases hn; exact k
  | .inr (.inl y), r => cases hn
  | .inr (.inr y), r => obtain ⟨w, e, k⟩ := fl_33 (K := K) tw.ct tw.mt r h; cases (show w = .int _ from e); cases hn; exact k
theorem fl_Wwires {ws : List Str} (tw : TW K mg I S T B) (r : (pW I S T).r F v x) (h : Ex F H) (hn : wWires x = some ws) : ∃ w, (pTL pS).r F w ws ∧ ∀ ⦃σ ta⦄, Val ta σ H v → Val (tFld K ta "wires") σ H w := by
  match x, r with
  | .inl y, r => cases hn
  | .inr (.inl y), r => obtain ⟨w, e, k⟩ := fl_22 (K := K) tw.cs tw.ws r h; cases hn; exact ⟨w, e, k⟩
  | .inr (.inr y), r => cases hn
theorem fl_Wwire {n : Str} (tw : TW K mg I S T B) (r : (pW I S T).r F v x) (h : Ex F H) (hn : wWire x = some n) : ∀ ⦃σ ta⦄, Val ta σ H v → Val (tFld K ta "wire") σ H (.str n) := by
  match x, r with
  | .inl y, r => cases hn
  | .inr (.inl y), r => cases hn
  | .inr (.inr y), r => obtain ⟨w, e, k⟩ := fl_32 (K := K) tw.ct tw.wt r h; cases (show w = .str _ from e); cases hn; exact k
theorem W_at {m : Str} (r : (pW I S T).r F v x) (h : Ex F H) (h1 : (m == ("name" : Str)) = false := by decide +kernel) (h2 : (m == ("number" : Str)) = false := by decide +kernel) (h3 : (m == ("wires" : Str)) = false := by decide +kernel) (h4 : (m == ("wire" : Str)) = false := by decide +kernel) :
    ∃ p dx fs, v = .ref p ∧ H p = some (.ins (wCls I S T x) dx fs) ∧ fs.lookup m = none := by
  match x, r with
  | .inl y, r => exact me_2 r h h1 h2
  | .inr (.inl y), r => exact me_2 r h h1 h3
  | .inr (.inr y), r => exact me_3 r h h1 h4 h2
theorem IsC.eq (r : (pW I S T).r F v x) (h : Ex F H) {C : Addr} (c : IsC H v C) : C = wCls I S T x := by
  obtain ⟨p, dx, fs, e, hp, _⟩ := W_at (m := "zz") r h
  obtain ⟨a, dx', fs', e', ha⟩ := c
  rw [e] at e'
  cases e'
  rw [hp] at ha
  cases ha; rfl
theorem ty_W (tw : TW K mg I S T B) (r : (pW I S T).r F v x) (h : Ex F H) : TyX K H v (.ref (wCls I S T x)) := by
  obtain ⟨p, dx, fs, e, hp, _⟩ := W_at (m := "zz") r h
  subst e
  match x, hp with
  | .inl y, hp => exact .base (.ins hp tw.ci tw.ii.ha tw.ii.hn tw.ii.ht tw.ii.hm)
  | .inr (.inl y), hp => exact .base (.ins hp tw.cs tw.is.ha tw.is.hn tw.is.ht tw.is.hm)
  | .inr (.inr y), hp => exact .base (.ins hp tw.ct tw.it.ha tw.it.hn tw.it.ht tw.it.hm)
theorem v_isD {C D : Addr} {b : Bool} (ha : Val ta σ H v) (t : TyX K H v (.ref C)) (hk : PySem.W.kitOne K (.ref C) (.ref D) = some b) : Val (tCB (rIsi K) (tCons ta (tCons (tC (.ref D)) tNil))) σ H (.bl b) := fun Q k => ha _ ⟨v, .ref D, .ref C, .ref D, b, rfl, .own D, t, hk, k⟩
end
theorem Md.mono {P : Program} {w : World} {K : PySem.W.Frag} {mg : Str → Option Value} {base : Heap} {CX : CXT} {j k : Nat} {C : Addr} {m : Str} {ps : List Str} {sp : Sp} (M : Md P w K mg base CX j C m ps sp) (h : j ≤ k) : Md P w K mg base CX k C m ps sp := let ⟨f, fd, F, a, b⟩ := M.ex; ⟨f, fd, F.mono h, a, b⟩
def MdU (P : Program) (w : World) (K : PySem.W.Frag) (mg : Str → Option Value) (base : Heap) (CX : CXT) (k : Nat) (L : List (Addr × Sp)) (m : Str) (ps : List Str) : Prop := ∀ q ∈ L, Md P w K mg base CX k q.1 m ps q.2 ∧ Cls K q.1
theorem MdU.three {P : Program} {w : World} {K : PySem.W.Frag} {mg : Str → Option Value} {base : Heap} {CX : CXT} {k : Nat} {m : Str} {ps : List Str} {A B C : Addr} {s1 s2 s3 : Sp} (h1 : Md P w K mg base CX k A m ps s1) (c1 : Cls K A) (h2 : Md P w K mg base CX k B m ps s2) (c2 : Cls K B) (h3 : Md P w K mg base CX k C m ps s3) (c3 : Cls K C) : MdU P w K mg base CX k [(A, s1), (B, s2), (C, s3)] m ps := fun q hq => by
  rcases List.mem_cons.mp hq with e | hq
  · subst e; exact ⟨h1, c1⟩
  · rcases List.mem_cons.mp hq with e | hq
    · subst e; exact ⟨h2, c2⟩
    · rw [List.mem_singleton.mp hq]; exact ⟨h3, c3⟩
/-- Base.__init__: one field -/
def sp_base1 (K : PySem.W.Frag) (a : Str) : Sp := fun vs H Q _ => ∃ (C dx ob : Addr) (v : V), vs = [.ref ob, v] ∧ Cls K C ∧ NoAttr K C a ∧ H ob = some (.ins C dx []) ∧ Q .non (upd H ob (.ins C dx [(a, v)]))
section
variable {K : PySem.W.Frag} {H0 F0 F H : Hp} {p : Addr} {v : V} {Q : VK} {E : XK}
/-- .. of one's own object -/
theorem n_base1 {C dx : Addr} {a : Str} (cl : Cls K C) (na : NoAttr K C a) (x : Xc H0 F H p (.ins C dx [])) (w : Wf F0 H0 F H) (k : ∀ H', Wf F0 H0 F H' → Xc H0 F H' p (.ins C dx [(a, v)]) → (∀ q o, H q = some o → q ≠ p → H' q = some o) → Q .non H') : sp_base1 K a [.ref p, v] H Q E :=
  ⟨C, dx, p, v, rfl, cl, na, x.h, k _ (w.set x) x.set fun q o h hq => by rw [upd_ne hq]; exact h⟩
end
/-! tuples of four -/
def pT4 {α β γ δ : Type} (e : Rep α) (f : Rep β) (g : Rep γ) (h : Rep δ) : Rep (α × β × γ × δ) := ⟨fun F v x => ∃ p u w y z, v = .ref p ∧ F p = some (.tup [u, w, y, z]) ∧ e.r F u x.1 ∧ f.r F w x.2.1 ∧ g.r F y x.2.2.1 ∧ h.r F z x.2.2.2, fun ex ⟨p, u, w, y, z, a, b, c, d, k, l⟩ => ⟨p, u, w, y, z, a, ex _ _ b, e.mono ex c, f.mono ex d, g.mono ex k, h.mono ex l⟩⟩
section
variable {α β γ δ : Type} {e : Rep α} {f : Rep β} {g : Rep γ} {i : Rep δ} {K : PySem.W.Frag} {σ : L2.St} {F0 H0 F H : Hp} {v u w y : V} {x : α} {x2 : β} {x3 : γ} {x4 : δ} {Q : VK} {z : α × β × γ × δ}
theorem n_tup4 (a : e.r F v x) (b : f.r F w x2) (c : g.r F u x3) (d : i.r F y x4) (h : Wf F0 H0 F H) (k : ∀ p F' H', Wf F H F' H' → (pT4 e f g i).r F' (.ref p) (x, x2, x3, x4) → Q (.ref p) H') : kTup Q [v, w, u, y] H :=
  ⟨Nat.le_of_lt (small_len (n := 4) (by decide)), fun p hp => k p _ _ (Wf.new h.f hp) ⟨p, v, w, u, y, rfl, upd_same, e.mono (Ex.new (h.f.non hp)) a, f.mono (Ex.new (h.f.non hp)) b, g.mono (Ex.new (h.f.non hp)) c, i.mono (Ex.new (h.f.non hp)) d⟩⟩
end
end Wk
namespace Wk
open PySem L2
section
variable {α : Type} {e : Rep α} {K : PySem.W.Frag} {σ : L2.St} {F0 H0 F H F' H' : Hp} {v : V} {xs : List α} {p q : Addr} {Q : VK} {ta : TE}
/-! texts: split, str(n) -/
def rSplit : V → List V → Hp → VK → Prop := fun x xs H Q => ∃ a b, x = .str a ∧ xs = [.str b] ∧ (b.length == 0) = false ∧ a.length + 2 ≤ sizeLine ∧ rNewStrs (Txt.split a b) H Q
theorem all_strs : ∀ {ys : List Str}, All pS F (ys.map V.str) ys
  | [] => trivial
  | _ :: _ => ⟨rfl, all_strs⟩
theorem n_split {a b : Str} (hb : (b.length == 0) = false) (hl : a.length + 2 < 1000000) (w : Wf F0 H0 F H) (k : ∀ p H', H p = none → Wf F H F H' → XL pS H0 F H' p (Txt.split a b) → Q (.ref p) H') : rSplit (.str a) [.str b] H Q :=
  ⟨a, b, rfl, rfl, hb, Nat.le_of_lt (small_len hl), fun p hp => k p _ hp (Wf.newX w.f hp) ⟨_, Xc.mk' w hp, all_strs⟩⟩
def rStrI : List V → Hp → VK → Prop := fun xs H Q => ∃ i, xs = [.int i] ∧ i.natAbs.log2 < 1920 ∧ Q (.str (toString i)) H
def strN (n : Nat) : Str := toString ((n : Nat) : Int)
theorem vn_str {n : Nat} (hn : n.log2 < 1920) (ha : Val ta σ H (.int (n : Int))) : Val (tCB rStrI (tCons ta tNil)) σ H (.str (strN n)) := v_cb1 ha fun Q k => ⟨n, rfl, by rw [Int.natAbs_natCast]; exact hn, k⟩
/-! borrowed lists -/
theorem L_bw (r : (pL e).r F v xs) (f : Ex F H) : ∃ p, v = .ref p ∧ BL e F H p xs := let ⟨p, vs, a, b, c⟩ := r; ⟨p, a, vs, f _ _ b, c⟩
theorem n_tupB (r : BL e F H p xs) (w : Wf F0 H0 F H) (k : ∀ p F' H', Wf F H F' H' → (pTL e).r F' (.ref p) xs → Q (.ref p) H') : rTupOf K [.ref p] H Q := by
  obtain ⟨vs, hp, a⟩ := r.x
  exact ⟨p, vs, rfl, .inl ⟨SqL.of hp, fun l hl => k l _ _ (Wf.new w.f hl) ⟨l, vs, rfl, upd_same, a.mono (Ex.new (w.f.non hl))⟩⟩⟩
theorem BL.made (b : BL e F H p xs) {x dx : Addr} {o o' : HO} (nx : H x = none) (nd : H dx = none) : BL e F (upd (upd H dx o) x o') p xs := by
  obtain ⟨vs, hp, a⟩ := b.x
  exact ⟨vs, by rw [upd_ne (ne_of_none hp nx), upd_ne (ne_of_none hp nd)]; exact hp, a⟩
theorem BL.neI (b : BL e F H p xs) {C dx : Addr} {fs : List (Str × V)} (h : H q = some (.ins C dx fs)) : p ≠ q := fun z => by
  obtain ⟨vs, hp, _⟩ := b.x
  rw [z, h] at hp; cases hp
end
end Wk
/-! Nt: methods that change fields of their own object; walks over d.values(); objects with four fields. -/
namespace Wk
open PySem L2
/-- the heap without some places -/
def woL (H : Hp) (L : List Addr) : Hp := fun a => if a ∈ L then none else H a
section
variable {α β κ : Type} [KeyT κ] {e : Rep α} {F0 H0 F F' H H' : Hp} {L : List Addr} {p d : Addr} {o : HO} {xs : List α} {m : List (κ × α)} {C dx : Addr} {fs : List (Str × V)}
theorem woL_in (h : d ∈ L) : woL H L d = none := if_pos h
theorem woL_out (h : d ∉ L) : woL H L d = H d := if_neg h
theorem woL_sub : Ex (woL H L) H := fun a u q => by
  by_cases c : a ∈ L
  · rw [woL_in c] at q; cases q
  · rw [woL_out c] at q; exact q
theorem Wf.startL (f : Ex F H) (n : ∀ d ∈ L, F d = none) : Wf F (woL H L) F H := ⟨woL_sub, f, Ex.rfl', fun a u h h0 => by rw [h] at h0; cases h0⟩
theorem Xc.toL (x : Xc H0 F H p o) (hp : p ∈ L) : Xc (woL H L) F H p o := ⟨woL_in hp, x.n, x.h⟩
theorem XL.toL (x : XL e H0 F H p xs) (hp : p ∈ L) : XL e (woL H L) F H p xs := let ⟨vs, a, b⟩ := x.x; ⟨vs, a.toL hp, b⟩
theorem XD.toL (x : XD e H0 F H p m) (hp : p ∈ L) : XD e (woL H L) F H p m := let ⟨vs, a, b⟩ := x.x; ⟨vs, a.toL hp, b⟩
theorem Xc.fromL {H1 : Hp} (x : Xc H1 F' H' p o) (z : H0 p = none) : Xc H0 F' H' p o := ⟨z, x.n, x.h⟩
theorem XL.fromL {H1 : Hp} (x : XL e H1 F' H' p xs) (z : H0 p = none) : XL e H0 F' H' p xs := let ⟨vs, a, b⟩ := x.x; ⟨vs, a.fromL z, b⟩
theorem XD.fromL {H1 : Hp} (x : XD e H1 F' H' p m) (z : H0 p = none) : XD e H0 F' H' p m := let ⟨vs, a, b⟩ := x.x; ⟨vs, a.fromL z, b⟩
theorem XL.nF (x : XL e H0 F H p xs) : F p = none := let ⟨_, a, _⟩ := x.x; a.n
theorem XD.nF (x : XD e H0 F H p m) : F p = none := let ⟨_, a, _⟩ := x.x; a.n
/-- behind a method that has changed what stands at L -/
theorem Wf.mcall (w : Wf F0 H0 F H) (hz : ∀ d ∈ L, H0 d = none) (s : Wf F (woL H L) F' H') (hn : ∀ d ∈ L, F' d = none) : Wf F0 H0 F' H' := by
  refine ⟨fun a u h => ?_, s.f, w.g.tr s.g, fun a u h h0 => ?_⟩
  · have hL : a ∉ L := fun q => by rw [hz a q] at h; cases h
    exact s.h a u (by rw [woL_out hL]; exact w.h a u h)
  · cases q : F a with
    | some y => exact w.n a y q h0
    | none =>
      have hL : a ∉ L := fun z => by rw [hn a z] at h; cases h
      have := s.n a u h q
      rw [woL_out hL] at this
      exact w.h.non this
theorem away_h (hp : p ∉ L) (s : Wf F (woL H L) F' H') (h : H p = some o) : H' p = some o := s.h p o (by rw [woL_out hp]; exact h)
theorem Xc.away (x : Xc H0 F H p o) (hp : p ∉ L) (s : Wf F (woL H L) F' H') : Xc H0 F' H' p o := by
  refine ⟨x.z, ?_, away_h hp s x.h⟩
  cases q : F' p with
  | none => rfl
  | some y =>
    have := s.n p y q x.n
    rw [woL_out hp, x.h] at this; cases this
theorem XL.away (x : XL e H0 F H p xs) (hp : p ∉ L) (s : Wf F (woL H L) F' H') : XL e H0 F' H' p xs := let ⟨vs, a, b⟩ := x.x; ⟨vs, a.away hp s, b.mono s.g⟩
theorem XD.away (x : XD e H0 F H p m) (hp : p ∉ L) (s : Wf F (woL H L) F' H') : XD e H0 F' H' p m := let ⟨vs, a, b⟩ := x.x; ⟨vs, a.away hp s, b.mono s.g⟩
theorem BL.away (x : BL e F H p xs) (hp : p ∉ L) (s : Wf F (woL H L) F' H') : BL e F' H' p xs := let ⟨vs, a, b⟩ := x.x; ⟨vs, away_h hp s a, b.mono s.g⟩
theorem BD.away (x : BD e F H p m) (hp : p ∉ L) (s : Wf F (woL H L) F' H') : BD e F' H' p m := let ⟨vs, a, b⟩ := x.x; ⟨vs, away_h hp s a, b.mono s.g⟩
theorem BO.away (x : BO C F H p dx fs) (hp : p ∉ L) (s : Wf F (woL H L) F' H') : BO C F' H' p dx fs := ⟨away_h hp s x.h⟩
theorem nin1 (h : p ≠ d) : p ∉ [d] := fun q => h (List.mem_singleton.mp q)
theorem nin2 {d2 : Addr} (h : p ≠ d) (h2 : p ≠ d2) : p ∉ [d, d2] := fun q => (List.mem_cons.mp q).elim h fun z => h2 (List.mem_singleton.mp z)
theorem allL1 {P : Addr → Prop} (h : P d) : ∀ x ∈ [d], P x := fun x hx => by rw [List.mem_singleton.mp hx]; exact h
theorem allL2 {P : Addr → Prop} {d2 : Addr} (h : P d) (h2 : P d2) : ∀ x ∈ [d, d2], P x := fun x hx => (List.mem_cons.mp hx).elim (fun z => by rw [z]; exact h) fun z => by rw [List.mem_singleton.mp z]; exact h2
theorem BD.neO (b : BD e F H p m) {q C dx : Addr} {fs : List (Str × V)} (h : H q = some (.ins C dx fs)) : p ≠ q := fun z => by
  obtain ⟨vs, hp, _⟩ := b.x
  rw [z, h] at hp; cases hp
theorem ne_symm {a b : Addr} (h : a ≠ b) : b ≠ a := fun z => h z.symm
end
/-! d.values() -/
section
variable {α β κ : Type} [DecidableEq κ] [KeyT κ] {e : Rep α} {b : Rep β} {K : PySem.W.Frag} {σ : L2.St} {F0 H0 F H : Hp} {d ob C dx : Addr} {fs : List (Str × V)} {m : List (κ × β)} {Q : VK} {g : TG} {te to : TE} {tc : TT} {vs : List Nat}
theorem DA.got : ∀ {kvs : List (Key × V)} {m : List (κ × β)} {i : Nat} {k : Key} {v : V}, DA b F kvs m → kvs[i]? = some (k, v) → ∃ q, m[i]? = some q ∧ b.r F v q.2
  | [], [], _, _, _, _, h => by simp at h
  | p :: r, q :: s, 0, k, v, ⟨_, c, _⟩, h => by
    simp at h
    subst h
    exact ⟨q, rfl, c⟩
  | p :: r, q :: s, i + 1, k, v, ⟨_, _, c⟩, h => by
    obtain ⟨z, h1, h2⟩ := DA.got (i := i) c (by simpa using h)
    exact ⟨z, by simpa using h1, h2⟩
  | [], _ :: _, _, _, _, q, _ => q.elim
  | _ :: _, [], _, _, _, q, _ => q.elim
theorem DA.cv {F' : Hp} (h : ∀ {v x}, b.r F v x → b.r F' v x) : ∀ {kvs : List (Key × V)} {m : List (κ × β)}, DA b F kvs m → DA b F' kvs m
  | [], [], _ => trivial
  | _ :: _, _ :: _, ⟨a, x, c⟩ => ⟨a, h x, DA.cv h c⟩
  | [], _ :: _, q => q.elim
  | _ :: _, [], q => q.elim
/-- things that hold nothing but objects and tuples -/
def NoD {α : Type} (e : Rep α) : Prop := ∀ (F G : Hp) (d : Addr) (v : V) (x : α), (∀ a o, a ≠ d → F a = some o → G a = some o) → (∀ C dx fs, F d ≠ some (.ins C dx fs)) → (∀ us, F d ≠ some (.tup us)) → e.r F v x → e.r G v x
theorem NoD.S : NoD pS := fun _ _ _ _ _ _ _ _ h => h
theorem NoD.N : NoD pN := fun _ _ _ _ _ _ _ _ h => h
theorem NoD.all (n : NoD e) {F G : Hp} {d : Addr} (h : ∀ a o, a ≠ d → F a = some o → G a = some o) (h1 : ∀ C dx fs, F d ≠ some (.ins C dx fs)) (h2 : ∀ us, F d ≠ some (.tup us)) : ∀ {us : List V} {xs : List α}, All e F us xs → All e G us xs
  | [], [], _ => trivial
  | _ :: _, _ :: _, ⟨a, c⟩ => ⟨n F G d _ _ h h1 h2 a, NoD.all n h h1 h2 c⟩
  | [], _ :: _, q => q.elim
  | _ :: _, [], q => q.elim
theorem NoD.TL (n : NoD e) : NoD (pTL e) := fun F G d v x h h1 h2 ⟨p, us, a, b, c⟩ => ⟨p, us, a, h p _ (fun z => h2 us (by rw [← z]; exact b)) b, n.all h h1 h2 c⟩
theorem NoD.O2 {γ : Type} {f : Rep γ} {C : Addr} {a c : Str} (n : NoD e) (k : NoD f) : NoD (pO2 C a c e f) := fun F G d v x h h1 h2 ⟨p, dx, fs, a, b, u, w, q, r1, r2⟩ => ⟨p, dx, fs, a, h p _ (fun z => h1 C dx fs (by rw [← z]; exact b)) b, u, w, q, n F G d _ _ h h1 h2 r1, k F G d _ _ h h1 h2 r2⟩
theorem NoD.O3 {γ δ : Type} {f : Rep γ} {i : Rep δ} {C : Addr} {a c l : Str} (n : NoD e) (k : NoD f) (j : NoD i) : NoD (pO3 C a c l e f i) := fun F G d v x h h1 h2 ⟨p, dx, fs, a, b, u, w, y, q, r1, r2, r3⟩ => ⟨p, dx, fs, a, h p _ (fun z => h1 C dx fs (by rw [← z]; exact b)) b, u, w, y, q, n F G d _ _ h h1 h2 r1, k F G d _ _ h h1 h2 r2, j F G d _ _ h h1 h2 r3⟩
theorem NoD.W {I S T : Addr} : NoD (pW I S T) := fun F G d v x h h1 h2 r => match x, r with
  | .inl _, r => NoD.O2 NoD.S NoD.N F G d v _ h h1 h2 r
  | .inr (.inl _), r => NoD.O2 NoD.S (NoD.TL NoD.S) F G d v _ h h1 h2 r
  | .inr (.inr _), r => NoD.O3 NoD.S NoD.S NoD.N F G d v _ h h1 h2 r
/-- a comprehension over the values of a field of one's own object; the dict's things do not need the dict -/
theorem w_compV {a : Str} {bd : β → (Option α → Prop) → Prop} {kk : List α → Prop} (cl : Cls K C) (na : NoAttr K C a) (bo : BO C F H ob dx fs) (lk : fs.lookup a = some (.ref d)) (r : BD b F H d m)
    (nb : NoD b) (ne : NoD e) (w : Wf F0 H0 F H) (hn : m.length < 1000000) (ho : ∀ H', Val to σ H' (.ref ob)) (hW : compW (m.map (·.2)) bd kk)
    (turn : ∀ (Qy : V → Hp → Prop) (Qn : Hp → Prop) x u F1 H1 (R : Option α → Prop), Ex F1 H1 → b.r F1 u x → bd x R → (∀ y z F2 H2, Wf F1 H1 F2 H2 → e.r F2 y z → R (some z) → Qy y H2) → (∀ F2 H2, Wf F1 H1 F2 H2 → R none → Qn H2) →
      g u (wipe σ vs) H1 fun σ2 H2 => wipe σ2 vs = wipe σ vs ∧ tc σ2 H2 fun b H3 => if b = true then te σ2 H3 Qy else Qn H3)
    (done : ∀ p ys F' H', H p = none → Wf F H F' H' → XL e H0 F' H' p ys → kk ys → Q (.ref p) H') :
    tLockE (tLc (iVals (tFld K to a)) g tc te vs) σ H Q := by
  obtain ⟨kvs, hd, da⟩ := r.x
  have hne : ob ≠ d := fun z => by
    have := bo.h
    rw [z, hd] at this; cases this
  have nI : ∀ C dx fs, F d ≠ some (.ins C dx fs) := fun C dx fs z => by
    have := w.f _ _ z
    rw [hd] at this; cases this
  have nT : ∀ us, F d ≠ some (.tup us) := fun us z => by
    have := w.f _ _ z
    rw [hd] at this; cases this
  refine ⟨d, .dK kvs, hd, trivial, fun od => ?_⟩
  have hob : upd H d (.frz od (.dK kvs)) ob = some (.ins C dx fs) := by rw [upd_ne hne]; exact bo.h
  have f1 : Ex (upd F d (.frz od (.dK kvs))) (upd H d (.frz od (.dK kvs))) := fun q u h => by
    by_cases c : q = d
    · subst c; rw [upd_same] at h ⊢; exact h
    · rw [upd_ne c] at h ⊢; exact w.f q u h
  have da1 : DA b (upd F d (.frz od (.dK kvs))) kvs m := da.cv fun {v x} h => nb F _ d v x (fun a o c q => by rw [upd_ne c]; exact q) nI nT h
  have len := da.len
  refine c_J ?_
  refine ho _ _ ⟨ob, C, dx, fs, _, rfl, hob, cl, na, lk, d, od, kvs, rfl, upd_same, ?_⟩
  have T : TWk (Itd d od kvs) (upd F d (.frz od (.dK kvs))) b (m.map (·.2)) := by
    refine ⟨fun H' => H' d = some (.frz od (.dK kvs)), _, by rw [List.length_map, ← len]; exact walk_values, fun F' H' h1 h2 => h2 _ _ (h1 _ _ upd_same), fun i H1 v H2 F' hi h1 h2 hy => ?_⟩
    obtain ⟨rfl, k, hk⟩ := hy
    obtain ⟨q, hq, rq⟩ := da1.got hk
    exact ⟨q.2, F', by rw [List.getElem?_map, hq]; rfl, Wf.id h2, b.mono h1 rq⟩
  refine w_compG (e := e) T (Wf.id f1) (by rw [List.length_map]; exact hn) hW (fun Qy Qn x u F1 H1 R q _ ru hb hy hq => turn Qy Qn x u F1 H1 R q.f ru hb hy hq) fun p ys F' H' hp s x hk => ?_
  have hdd : H' d = some (.frz od (.dK kvs)) := s.h _ _ upd_same
  have pd : p ≠ d := fun z => by rw [z, upd_same] at hp; cases hp
  have fd : F' d = some (.frz od (.dK kvs)) := s.g _ _ upd_same
  refine ⟨hdd, done p ys (fun a => if a = d then F d else F' a) (upd H' d (.dK kvs)) (by rw [upd_ne pd] at hp; exact hp) ⟨fun a o h => ?_, fun a o h => ?_, fun a o h => ?_, fun a o h h0 => ?_⟩ ?_ hk⟩
  · by_cases c : a = d
    · subst c; rw [hd] at h; cases h; exact upd_same
    · rw [upd_ne c]; exact s.h a o (by rw [upd_ne c]; exact h)
  · by_cases c : a = d
    · subst c
      rw [if_pos rfl] at h
      have := w.f _ _ h
      rw [hd] at this; cases this; exact upd_same
    · rw [if_neg c] at h; rw [upd_ne c]; exact s.f a o h
  · by_cases c : a = d
    · subst c; rw [if_pos rfl]; exact h
    · rw [if_neg c]; exact s.g a o (by rw [upd_ne c]; exact h)
  · by_cases c : a = d
    · subst c; rw [if_pos rfl, h0] at h; cases h
    · rw [if_neg c] at h
      have := s.n a o h (by rw [upd_ne c]; exact h0)
      rw [upd_ne c] at this; exact this
  · obtain ⟨us, xc, al⟩ := x.x
    have z := xc.z
    rw [upd_ne pd] at z
    refine ⟨us, ⟨w.h.non z, (if_neg pd).trans xc.n, by rw [upd_ne pd]; exact xc.h⟩, ?_⟩
    exact ne.all (d := d) (fun a o c q => (if_neg c).trans q) (fun C dx fs q => by rw [fd] at q; cases q) (fun us q => by rw [fd] at q; cases q) al
end
/-! objects with four fields -/
def F4s {α β γ δ : Type} (n m l k : Str) (e : Rep α) (f : Rep β) (g : Rep γ) (i : Rep δ) (F : Hp) (fs : List (Str × V)) (x : α × β × γ × δ) : Prop := ∃ u w y t, fs = [(n, u), (m, w), (l, y), (k, t)] ∧ e.r F u x.1 ∧ f.r F w x.2.1 ∧ g.r F y x.2.2.1 ∧ i.r F t x.2.2.2
theorem F4s.mono {α β γ δ : Type} {n m l k : Str} {e : Rep α} {f : Rep β} {g : Rep γ} {i : Rep δ} {F F' : Hp} {fs : List (Str × V)} {x : α × β × γ × δ} (h : Ex F F') : F4s n m l k e f g i F fs x → F4s n m l k e f g i F' fs x := fun ⟨u, w, y, t, a, b, c, d, j⟩ => ⟨u, w, y, t, a, e.mono h b, f.mono h c, g.mono h d, i.mono h j⟩
def pO4 {α β γ δ : Type} (C : Addr) (n m l k : Str) (e : Rep α) (f : Rep β) (g : Rep γ) (i : Rep δ) : Rep (α × β × γ × δ) := pOb C (F4s n m l k e f g i) F4s.mono
section
variable {α β γ δ : Type} {e : Rep α} {f : Rep β} {g : Rep γ} {i : Rep δ} {K : PySem.W.Frag} {F H : Hp} {C : Addr} {a b c d m : Str} {v : V} {z : α × β × γ × δ}
theorem fl_41 (cl : Cls K C) (na : NoAttr K C a) (r : (pO4 C a b c d e f g i).r F v z) (h : Ex F H)  : ∃ w, e.r F w z.1 ∧ ∀ ⦃σ ta⦄, Val ta σ H v → Val (tFld K ta a) σ H w := by
  obtain ⟨p, dx, fs, rfl, hp, u, w, y, t, rfl, r1, r2, r3, r4⟩ := r
  exact ⟨u, r1, fun _ _ ha Q k => ha _ ⟨p, C, dx, _, u, rfl, h _ _ hp, cl, na, lk_eq, k⟩⟩
theorem fl_42 (cl : Cls K C) (na : NoAttr K C b) (r : (pO4 C a b c d e f g i).r F v z) (h : Ex F H) (h1 : (b == a) = false := by decide +kernel) : ∃ w, f.r F w z.2.1 ∧ ∀ ⦃σ ta⦄, Val ta σ H v → Val (tFld K ta b) σ H w := by
  obtain ⟨p, dx, fs, rfl, hp, u, w, y, t, rfl, r1, r2, r3, r4⟩ := r
  exact ⟨w, r2, fun _ _ ha Q k => ha _ ⟨p, C, dx, _, w, rfl, h _ _ hp, cl, na, ((lk_ne h1).trans lk_eq), k⟩⟩
theorem fl_43 (cl : Cls K C) (na : NoAttr K C c) (r : (pO4 C a b c d e f g i).r F v z) (h : Ex F H) (h1 : (c == a) = false := by decide +kernel) (h2 : (c == b) = false := by decide +kernel) : ∃ w, g.r F w z.2.2.1 ∧ ∀ ⦃σ ta⦄, Val ta σ H v → Val (tFld K ta c) σ H w := by
  obtain ⟨p, dx, fs, rfl, hp, u, w, y, t, rfl, r1, r2, r3, r4⟩ := r
  exact ⟨y, r3, fun _ _ ha Q k => ha _ ⟨p, C, dx, _, y, rfl, h _ _ hp, cl, na, ((lk_ne h1).trans ((lk_ne h2).trans lk_eq)), k⟩⟩
theorem fl_44 (cl : Cls K C) (na : NoAttr K C d) (r : (pO4 C a b c d e f g i).r F v z) (h : Ex F H) (h1 : (d == a) = false := by decide +kernel) (h2 : (d == b) = false := by decide +kernel) (h3 : (d == c) = false := by decide +kernel) : ∃ w, i.r F w z.2.2.2 ∧ ∀ ⦃σ ta⦄, Val ta σ H v → Val (tFld K ta d) σ H w := by
  obtain ⟨p, dx, fs, rfl, hp, u, w, y, t, rfl, r1, r2, r3, r4⟩ := r
  exact ⟨t, r4, fun _ _ ha Q k => ha _ ⟨p, C, dx, _, t, rfl, h _ _ hp, cl, na, ((lk_ne h1).trans ((lk_ne h2).trans ((lk_ne h3).trans lk_eq))), k⟩⟩
theorem me_4 (r : (pO4 C a b c d e f g i).r F v z) (h : Ex F H) (h1 : (m == a) = false := by decide +kernel) (h2 : (m == b) = false := by decide +kernel) (h3 : (m == c) = false := by decide +kernel) (h4 : (m == d) = false := by decide +kernel) : ∃ p dx fs, v = .ref p ∧ H p = some (.ins C dx fs) ∧ fs.lookup m = none := by
  obtain ⟨p, dx, fs, rfl, hp, u, w, y, t, rfl, _⟩ := r
  exact ⟨p, dx, _, rfl, h _ _ hp, (lk_ne h1).trans ((lk_ne h2).trans ((lk_ne h3).trans ((lk_ne h4).trans rfl)))⟩
/-- all that stands in it -/
theorem st_O4 (r : (pO4 C a b c d e f g i).r F v z) (h : Ex F H) (h1 : (b == a) = false := by decide +kernel) (h2 : (c == a) = false := by decide +kernel) (h3 : (c == b) = false := by decide +kernel) (h4 : (d == a) = false := by decide +kernel) (h5 : (d == b) = false := by decide +kernel) (h6 : (d == c) = false := by decide +kernel) :
    ∃ p dx fs u w y t, v = .ref p ∧ H p = some (.ins C dx fs) ∧ fs.lookup a = some u ∧ fs.lookup b = some w ∧ fs.lookup c = some y ∧ fs.lookup d = some t ∧ e.r F u z.1 ∧ f.r F w z.2.1 ∧ g.r F y z.2.2.1 ∧ i.r F t z.2.2.2 ∧ ∀ m : Str, (m == a) = false → (m == b) = false → (m == c) = false → (m == d) = false → fs.lookup m = none := by
  obtain ⟨p, dx, fs, rfl, hp, u, w, y, t, rfl, r1, r2, r3, r4⟩ := r
  exact ⟨p, dx, _, u, w, y, t, rfl, h _ _ hp, lk_eq, (lk_ne h1).trans lk_eq, (lk_ne h2).trans ((lk_ne h3).trans lk_eq), (lk_ne h4).trans ((lk_ne h5).trans ((lk_ne h6).trans lk_eq)), r1, r2, r3, r4, fun m a1 a2 a3 a4 => (lk_ne a1).trans ((lk_ne a2).trans ((lk_ne a3).trans ((lk_ne a4).trans rfl)))⟩
end
section
variable {α κ : Type} [KeyT κ] {e : Rep α} {F H : Hp} {p : Addr} {xs : List α} {m : List (κ × α)}
theorem L_bwP (r : (pL e).r F (.ref p) xs) (f : Ex F H) : BL e F H p xs := by
  obtain ⟨q, vs, a, b, c⟩ := r
  cases a; exact ⟨vs, f _ _ b, c⟩
theorem D_bwP (r : (pD e).r F (.ref p) m) (f : Ex F H) : BD e F H p m := by
  obtain ⟨q, vs, a, b, c⟩ := r
  cases a; exact ⟨vs, f _ _ b, c⟩
end
section
variable {α : Type} {e : Rep α} {F0 H0 F H : Hp} {p : Addr} {xs : List α} {Q : VK}
/-- xs.pop(), what it tells let go -/
theorem a_pop (x : XL e H0 F H p xs) (w : Wf F0 H0 F H) (hne : xs ≠ []) (k : ∀ v H', Wf F0 H0 F H' → XL e H0 F H' p xs.dropLast → (∀ q o, H q = some o → q ≠ p → H' q = some o) → Q v H') : rPop (.ref p) [] H Q := by
  obtain ⟨vs, a, b⟩ := x.x
  have hl : 0 < vs.length := by rw [b.len]; exact List.length_pos_iff.mpr hne
  refine ⟨p, vs, vs[vs.length - 1]'(by omega), rfl, rfl, a.h, List.getElem?_eq_getElem _, k _ _ (w.set a) ⟨vs.dropLast, a.set, ?_⟩ fun q o h hq => by rw [upd_ne hq]; exact h⟩
  rw [List.dropLast_eq_take, List.dropLast_eq_take, ← b.len]
  exact b.take _
end
section
variable {α κ : Type} [DecidableEq κ] [KeyT κ] {e : Rep α} {σ : L2.St} {H0 F H : Hp} {p : Addr} {m : List (κ × α)} {ta ty td : TE} {j : κ}
theorem nin_BD (r : BD e F H p m) (hy : Val ty σ H (kV (KeyT.k j))) (hd : Val td σ H (.ref p)) : Val (tDNotIn ty td) σ H (.bl (!hasT m j)) := by
  obtain ⟨kvs, hp, a⟩ := r.x
  exact fun Q k => hy _ (hd _ ⟨p, _, rfl, DGet.k hp, by rw [a.has j]; exact k⟩)
theorem len_XD (r : XD e H0 F H p m) (ha : Val ta σ H (.ref p)) : Val (tCB rLenD (tCons ta tNil)) σ H (.int ((m.length : Nat) : Int)) := by
  obtain ⟨kvs, hp, a⟩ := r.rd
  exact v_cb1 ha fun Q k => ⟨p, kvs, rfl, hp, by rw [a.len]; exact k⟩
end
end Wk
namespace Wk
open PySem L2
/-! own objects just made -/
section
variable {α : Type} {e : Rep α} {F0 H0 F F' H H' : Hp} {x dx d : Addr} {o u : HO} {xs : List α}
theorem XL.made (r : XL e (wo (upd (upd H dx o) x u) x) F' H' d xs) (hne : d ≠ x) (w : Wf F0 H0 F H) : XL e H0 F' H' d xs ∧ H d = none := by
  have z := r.zero
  rw [wo_ne hne, upd_ne hne] at z
  have hd : d ≠ dx := fun q => by rw [q, upd_same] at z; cases z
  rw [upd_ne hd] at z
  exact ⟨r.fromL (w.h.non z), z⟩
theorem ne_of_h {p q : Addr} {o : HO} (h : H p = some o) (n : H q = none) : p ≠ q := ne_of_none h n
end
end Wk
namespace Wk
open PySem L2
section
variable {α β γ δ : Type} {e : Rep α} {f : Rep β} {g : Rep γ} {i : Rep δ} {K : PySem.W.Frag} {F0 H0 F H : Hp} {v : V} {x : α × β × γ × δ} {p : Addr} {xs : List α} {Q : VK}
theorem ix_4a (r : (pT4 e f g i).r F v x) (h : Ex F H) : ∃ w, e.r F w x.1 ∧ ∀ ⦃σ ta tb⦄, Val ta σ H v → Val tb σ H (.int 0) → Val (tOp (rIxT K) ta tb) σ H w := by
  obtain ⟨p, u, w, y, z, rfl, hp, a, b, c, d⟩ := r
  exact ⟨u, a, fun _ _ _ ha hb => v2 ha hb fun Q k => ⟨p, _, _, u, rfl, rfl, SqT.of (h _ _ hp), rfl, k⟩⟩
theorem ix_4b (r : (pT4 e f g i).r F v x) (h : Ex F H) : ∃ w, f.r F w x.2.1 ∧ ∀ ⦃σ ta tb⦄, Val ta σ H v → Val tb σ H (.int 1) → Val (tOp (rIxT K) ta tb) σ H w := by
  obtain ⟨p, u, w, y, z, rfl, hp, a, b, c, d⟩ := r
  exact ⟨w, b, fun _ _ _ ha hb => v2 ha hb fun Q k => ⟨p, _, _, w, rfl, rfl, SqT.of (h _ _ hp), rfl, k⟩⟩
theorem ix_4c (r : (pT4 e f g i).r F v x) (h : Ex F H) : ∃ w, g.r F w x.2.2.1 ∧ ∀ ⦃σ ta tb⦄, Val ta σ H v → Val tb σ H (.int 2) → Val (tOp (rIxT K) ta tb) σ H w := by
  obtain ⟨p, u, w, y, z, rfl, hp, a, b, c, d⟩ := r
  exact ⟨y, c, fun _ _ _ ha hb => v2 ha hb fun Q k => ⟨p, _, _, y, rfl, rfl, SqT.of (h _ _ hp), rfl, k⟩⟩
theorem ix_4d (r : (pT4 e f g i).r F v x) (h : Ex F H) : ∃ w, i.r F w x.2.2.2 ∧ ∀ ⦃σ ta tb⦄, Val ta σ H v → Val tb σ H (.int 3) → Val (tOp (rIxT K) ta tb) σ H w := by
  obtain ⟨p, u, w, y, z, rfl, hp, a, b, c, d⟩ := r
  exact ⟨z, d, fun _ _ _ ha hb => v2 ha hb fun Q k => ⟨p, _, _, z, rfl, rfl, SqT.of (h _ _ hp), rfl, k⟩⟩
theorem n_listB (r : BL e F H p xs) (w : Wf F0 H0 F H) (k : ∀ p H', H p = none → Wf F H F H' → XL e H0 F H' p xs → Q (.ref p) H') : rListOf K [.ref p] H Q := by
  obtain ⟨vs, hp, a⟩ := r.x
  exact ⟨p, vs, rfl, .inl (SqL.of hp), fun l hl => k l _ hl (Wf.newX w.f hl) ⟨vs, Xc.mk' w hl, a⟩⟩
end
end Wk
/-! Ng: the last item of a list. -/
namespace Wk
open PySem L2
section
variable {K : PySem.W.Frag} {α : Type} {e : Rep α} {F0 H0 F H : Hp} {v : V} {x : α} {xs : List α} {vs : List V} {p : Addr}
theorem All.gl (a : All e F vs xs) (hx : xs.getLast? = some x) : ∃ w ys, vs = ys ++ [w] ∧ e.r F w x := by
  rw [List.getLast?_eq_getElem?] at hx
  obtain ⟨w, h1, h2⟩ := a.get hx
  rw [← a.len, ← List.getLast?_eq_getElem?] at h1
  obtain ⟨ys, hy⟩ := List.getLast?_eq_some_iff.mp h1
  exact ⟨w, ys, hy, h2⟩
theorem ix_Lm (r : (pL e).r F v xs) (f : Ex F H) (hx : xs.getLast? = some x) : ∃ w, e.r F w x ∧ ∀ ⦃σ ta tb⦄, Val ta σ H v → Val tb σ H (.int (-1)) → Val (tOp (rIxL K) ta tb) σ H w := by
  obtain ⟨p, vs, rfl, hp, a⟩ := L_rd r f
  obtain ⟨w, ys, rfl, h2⟩ := a.gl hx
  exact ⟨w, h2, fun _ _ _ ha hb => v2 ha hb fun Q k => ⟨p, _, _, w, rfl, rfl, SqL.of hp, atI_last ys w, k⟩⟩
theorem ix_Xm (r : XL e H0 F H p xs) (hx : xs.getLast? = some x) : ∃ w, e.r F w x ∧ ∀ ⦃σ ta tb⦄, Val ta σ H (.ref p) → Val tb σ H (.int (-1)) → Val (tOp (rIxL K) ta tb) σ H w := by
  obtain ⟨vs, hp, a⟩ := r.rd
  obtain ⟨w, ys, rfl, h2⟩ := a.gl hx
  exact ⟨w, h2, fun _ _ _ ha hb => v2 ha hb fun Q k => ⟨p, _, _, w, rfl, rfl, SqL.of hp, atI_last ys w, k⟩⟩
end
end Wk
/-! Tq: tuples of four compared. -/
namespace Wk
open PySem L2
instance {α β γ δ : Type} {e : Rep α} {f : Rep β} {g : Rep γ} {i : Rep δ} {n m k l : Nat} [Dao e n] [Dao f m] [Dao g k] [Dao i l] : Dao (pT4 e f g i) (max n (max m (max k l)) + 1) := ⟨fun x => Dao.ok e x.1 ∧ Dao.ok f x.2.1 ∧ Dao.ok g x.2.2.1 ∧ Dao.ok i x.2.2.2, fun x => .tuple [Dao.d e x.1, Dao.d f x.2.1, Dao.d g x.2.2.1, Dao.d i x.2.2.2], fun {K F v x} h => by
    obtain ⟨p, u, w, y, z, rfl, hp, a, b, c, d⟩ := h
    exact .tup (SqT.of hp) (.cons (Dao.dp a) (.cons (Dao.dp b) (.cons (Dao.dp c) (.cons (Dao.dp d) .nil)))), fun x h => by
    show (PyData.canLay0 (Dao.d e x.1) && (PyData.canLay0 (Dao.d f x.2.1) && (PyData.canLay0 (Dao.d g x.2.2.1) && (PyData.canLay0 (Dao.d i x.2.2.2) && PyData.canLayAll0 [])))) = true
    rw [Dao.lay _ h.1, Dao.lay _ h.2.1, Dao.lay _ h.2.2.1, Dao.lay _ h.2.2.2]; rfl, fun x => by
    have a := Dao.dep (e := e) x.1
    have b := Dao.dep (e := f) x.2.1
    have c := Dao.dep (e := g) x.2.2.1
    have d := Dao.dep (e := i) x.2.2.2
    simp only [PyData.depth, PyData.depthAll]
    omega, fun x y => by
    show (PyData.eqv (Dao.d e x.1) (Dao.d e y.1) && (PyData.eqv (Dao.d f x.2.1) (Dao.d f y.2.1) && (PyData.eqv (Dao.d g x.2.2.1) (Dao.d g y.2.2.1) && (PyData.eqv (Dao.d i x.2.2.2) (Dao.d i y.2.2.2) && PyData.eqvAll [] [])))) = true ↔ _
    have z : PyData.eqvAll [] [] = true := rfl
    rw [z, Bool.and_true, Bool.and_eq_true, Bool.and_eq_true, Bool.and_eq_true, Dao.inj, Dao.inj, Dao.inj, Dao.inj, Prod.ext_iff, Prod.ext_iff, Prod.ext_iff]⟩
end Wk
/-! Op: None or a thing; all(list); a text in a tuple of texts; a dict of four new lists. -/
namespace Wk
open PySem L2
/-- things that are never None -/
def NN {α : Type} (e : Rep α) : Prop := ∀ F v x, e.r F v x → v ≠ .non
section
variable {α β γ δ : Type} {e : Rep α} {f : Rep β} {g : Rep γ} {i : Rep δ}
theorem NN.L : NN (pL e) := fun F v x ⟨p, vs, hv, _⟩ h => by rw [hv] at h; cases h
theorem NN.TL : NN (pTL e) := fun F v x ⟨p, vs, hv, _⟩ h => by rw [hv] at h; cases h
theorem NN.T2 : NN (pT2 e f) := fun F v x ⟨p, u, w, hv, _⟩ h => by rw [hv] at h; cases h
theorem NN.T3 : NN (pT3 e f g) := fun F v x ⟨p, u, w, y, hv, _⟩ h => by rw [hv] at h; cases h
theorem NN.T4 : NN (pT4 e f g i) := fun F v x ⟨p, u, w, y, z, hv, _⟩ h => by rw [hv] at h; cases h
theorem NN.S : NN pS := fun F v x hv h => by rw [show v = .str x from hv] at h; cases h
theorem NN.N : NN pN := fun F v x hv h => by rw [show v = .int (x : Int) from hv] at h; cases h
theorem NN.alt (a : NN e) (b : NN f) : NN (pAlt e f) := fun F v x r => match x, r with
  | .inl _, r => a F v _ r
  | .inr _, r => b F v _ r
variable {K : PySem.W.Frag} {σ : L2.St} {F F' H H0 F0 : Hp} {ta tb : TE} {v : V} {z : Option α} {y : α} {Q : VK}
theorem opt_dec (r : (pO e).r F v z) (n : NN e) : decide (v = .non) = z.isNone := by
  cases z with
  | none => exact decide_eq_true (show v = .non from r)
  | some y => exact decide_eq_false (n F v y r)
theorem v_isN (ha : Val ta σ H v) (hb : Val tb σ H .non) (r : (pO e).r F v z) (n : NN e) : Val (tOp rIsN ta tb) σ H (.bl z.isNone) := v2 ha hb fun Q k => ⟨rfl, by rw [opt_dec r n]; exact k⟩
theorem v_notN (ha : Val ta σ H v) (hb : Val tb σ H .non) (r : (pO e).r F v z) (n : NN e) : Val (tOp rNotN ta tb) σ H (.bl (!z.isNone)) := v2 ha hb fun Q k => ⟨rfl, by rw [opt_dec r n]; exact k⟩
theorem opt_s (r : (pO e).r F v z) (h : z = some y) : e.r F v y := by subst h; exact r
theorem opt_n : (pO e).r F .non none := rfl
theorem elim_l {f : α → Prop} {g : β → Prop} {x : α} (h : Sum.elim f g (.inl x)) : f x := h
theorem elim_r {f : α → Prop} {g : β → Prop} {x : β} (h : Sum.elim f g (.inr x)) : g x := h
theorem alt_r {x : Sum α β} {y : β} (r : (pAlt e f).r F v x) (h : x = Sum.inr y) : f.r F v y := by subst h; exact r
/-! all(list) -/
theorem bls_eq {vs : List V} : ∀ {xs : List Bool}, All pB F vs xs → vs = xs.map V.bl := by
  induction vs with
  | nil => intro xs h; cases xs with
    | nil => rfl
    | cons _ _ => exact h.elim
  | cons v vs ih => intro xs h; cases xs with
    | nil => exact h.elim
    | cons y ys => obtain ⟨a, b⟩ := h; rw [ih b, List.map_cons]; rw [show v = .bl y from a]
theorem v_all {bs : List Bool} (r : (pL pB).r F v bs) (f : Ex F H) (ha : Val ta σ H v) : Val (tCB (L2.rAll K) (tCons ta tNil)) σ H (.bl (bs.all id)) := by
  obtain ⟨p, vs, rfl, hp, a⟩ := L_rd r f
  rw [bls_eq a] at hp
  exact v_cb1 ha fun Q k => ⟨p, _, rfl, SqL.of hp, k⟩
theorem v_allX {p : Addr} {bs : List Bool} (r : XL pB H0 F H p bs) (ha : Val ta σ H (.ref p)) : Val (tCB (L2.rAll K) (tCons ta tNil)) σ H (.bl (bs.all id)) := by
  obtain ⟨vs, hp, a⟩ := r.rd
  rw [bls_eq a] at hp
  exact v_cb1 ha fun Q k => ⟨p, _, rfl, SqL.of hp, k⟩
/-! a text in a tuple of texts -/
theorem v_inTS {y : Str} {ys : List Str} (ha : Val ta σ H (.str y)) (hb : Val tb σ H v) (r : (pTL pS).r F v ys) (f1 : Ex F H) : Val (tOp (rIn K false) ta tb) σ H (.bl (decide (y ∈ ys))) := v2 ha hb fun Q k => by
  obtain ⟨p, vs, rfl, hp, a⟩ := r
  have e := all_str (ys := ys) a
  subst e
  exact ⟨p, _, rfl, .inr (SqT.of (f1 _ _ hp)), rfl, flat_str, by rw [if_neg (by decide), inV_str]; exact k⟩
theorem v_notInTS {y : Str} {ys : List Str} (ha : Val ta σ H (.str y)) (hb : Val tb σ H v) (r : (pTL pS).r F v ys) (f1 : Ex F H) : Val (tOp (rIn K true) ta tb) σ H (.bl (decide (¬ y ∈ ys))) := v2 ha hb fun Q k => by
  obtain ⟨p, vs, rfl, hp, a⟩ := r
  have e := all_str (ys := ys) a
  subst e
  exact ⟨p, _, rfl, .inr (SqT.of (f1 _ _ hp)), rfl, flat_str, by rw [if_pos rfl, inV_str, ← decide_not]; exact k⟩
/-! a dict of four new lists -/
theorem n_disp4L {e1 : Rep α} {e2 : Rep β} {e3 : Rep γ} {e4 : Rep δ} {j1 j2 j3 j4 : Str} {t1 t2 t3 t4 : TE} (k1 : ∀ H, Val t1 σ H (.str j1)) (k2 : ∀ H, Val t2 σ H (.str j2)) (k3 : ∀ H, Val t3 σ H (.str j3)) (k4 : ∀ H, Val t4 σ H (.str j4)) (w : Wf F0 H0 F H)
    (k : ∀ p l1 l2 l3 l4 H', H p = none → H l1 = none → H l2 = none → H l3 = none → H l4 = none → Wf F H F H' → XD pV H0 F H' p (putT (putT (putT (putT ([] : List (Str × V)) j1 (.ref l1)) j2 (.ref l2)) j3 (.ref l3)) j4 (.ref l4)) → XL e1 H0 F H' l1 [] → XL e2 H0 F H' l2 [] → XL e3 H0 F H' l3 [] → XL e4 H0 F H' l4 [] →
      l1 ≠ p → l2 ≠ p → l3 ≠ p → l4 ≠ p → l1 ≠ l2 → l1 ≠ l3 → l1 ≠ l4 → l2 ≠ l3 → l2 ≠ l4 → l3 ≠ l4 → Q (.ref p) H') : tDisp [(t1, tLst tNil), (t2, tLst tNil), (t3, tLst tNil), (t4, tLst tNil)] σ H Q := fun p hp => by
  have fr : ∀ {G : Hp} {a b : Addr} {o : HO}, upd G a o b = none → b ≠ a ∧ G b = none := fun {G a b o} h => by
    have : b ≠ a := fun z => by subst z; rw [upd_same] at h; cases h
    exact ⟨this, by rw [upd_ne this] at h; exact h⟩
  refine k1 _ _ ⟨Nat.zero_le _, fun l1 h1 => ?_⟩
  refine k2 _ _ ⟨Nat.zero_le _, fun l2 h2 => ?_⟩
  refine k3 _ _ ⟨Nat.zero_le _, fun l3 h3 => ?_⟩
  refine k4 _ _ ⟨Nat.zero_le _, fun l4 h4 => ?_⟩
  obtain ⟨a1, h1⟩ := fr h1
  obtain ⟨a21, h2⟩ := fr h2
  obtain ⟨a2, h2⟩ := fr h2
  obtain ⟨a32, h3⟩ := fr h3
  obtain ⟨a31, h3⟩ := fr h3
  obtain ⟨a3, h3⟩ := fr h3
  obtain ⟨a43, h4⟩ := fr h4
  obtain ⟨a42, h4⟩ := fr h4
  obtain ⟨a41, h4⟩ := fr h4
  obtain ⟨a4, h4⟩ := fr h4
  refine ⟨by rw [upd_ne a4.symm, upd_ne a3.symm, upd_ne a2.symm, upd_ne a1.symm, upd_same], [(KeyT.k j1, .ref l1), (KeyT.k j2, .ref l2), (KeyT.k j3, .ref l3), (KeyT.k j4, .ref l4)], rfl, by show 4 ≤ 15; decide, ?_⟩
  have ex : Ex H (upd (upd (upd (upd (upd (upd H p (.dK [])) l1 (.lst [])) l2 (.lst [])) l3 (.lst [])) l4 (.lst [])) p (.dK (mergeK [] [(KeyT.k j1, .ref l1), (KeyT.k j2, .ref l2), (KeyT.k j3, .ref l3), (KeyT.k j4, .ref l4)]))) := fun a o h => by
    have n : ∀ {b : Addr}, H b = none → a ≠ b := fun hb z => by rw [z, hb] at h; cases h
    rw [upd_ne (n hp), upd_ne (n h4), upd_ne (n h3), upd_ne (n h2), upd_ne (n h1), upd_ne (n hp)]; exact h
  have own : ∀ {l : Addr} {o : HO} {G : Hp}, H l = none → G l = some o → Xc H0 F G l o := fun hl hg => ⟨w.h.non hl, w.f.non hl, hg⟩
  refine k p l1 l2 l3 l4 _ hp h1 h2 h3 h4 (Wf.grow w.f ex) ⟨_, own hp upd_same, ?_⟩ ⟨[], own h1 ?_, trivial⟩ ⟨[], own h2 ?_, trivial⟩ ⟨[], own h3 ?_, trivial⟩ ⟨[], own h4 ?_, trivial⟩ a1 a2 a3 a4 a21.symm a31.symm a41.symm a32.symm a42.symm a43.symm
  · have d0 : DA pV F ([] : List (Key × V)) ([] : List (Str × V)) := trivial
    have d1 := DA.put (e := pV) (F := F) (j := j1) (v := V.ref l1) (x := V.ref l1) d0 (show pV.r F (V.ref l1) (V.ref l1) from rfl)
    have d2 := DA.put (e := pV) (F := F) (j := j2) (v := V.ref l2) (x := V.ref l2) d1 (show pV.r F (V.ref l2) (V.ref l2) from rfl)
    have d3 := DA.put (e := pV) (F := F) (j := j3) (v := V.ref l3) (x := V.ref l3) d2 (show pV.r F (V.ref l3) (V.ref l3) from rfl)
    exact DA.put (e := pV) (F := F) (j := j4) (v := V.ref l4) (x := V.ref l4) d3 (show pV.r F (V.ref l4) (V.ref l4) from rfl)
  · rw [upd_ne a1, upd_ne a41.symm, upd_ne a31.symm, upd_ne a21.symm, upd_same]
  · rw [upd_ne a2, upd_ne a42.symm, upd_ne a32.symm, upd_same]
  · rw [upd_ne a3, upd_ne a43.symm, upd_same]
  · rw [upd_ne a4, upd_same]
end
end Wk
/-! Dk: walks over the keys of a dict that is one's own or borrowed. -/
namespace Wk
open PySem L2
section
variable {α κ : Type} [DecidableEq κ] [KeyT κ] {e : Rep α} {K : PySem.W.Frag} {σ : L2.St} {F0 H0 F H F' H' : Hp} {d p : Addr} {od : Obj} {kvs : List (Key × V)} {m : List (κ × α)} {td ty : TE} {g : TG} {tb : TS} {D : Ends} {v : V} {x : α} {j : κ}
/-- a dict that is locked -/
def pDz (od : Obj) (kvs : List (Key × V)) (e : Rep α) : Rep (List (κ × α)) := ⟨fun F v m => ∃ p, v = .ref p ∧ F p = some (.frz od (.dK kvs)) ∧ DA e F kvs m, fun h ⟨p, a, b, c⟩ => ⟨p, a, h _ _ b, c.mono h⟩⟩
abbrev lk1 (F : Hp) (d : Addr) (od : Obj) (kvs : List (Key × V)) : Hp := upd F d (.frz od (.dK kvs))
theorem lk_ex (f : Ex F H) : Ex (lk1 F d od kvs) (lk1 H d od kvs) := fun a u h => by
  unfold lk1 at *
  by_cases c : a = d
  · subst c; rw [upd_same] at h ⊢; exact h
  · rw [upd_ne c] at h ⊢; exact f a u h
theorem lk_dz (hF : F d = none) (a : DA e F kvs m) : (pDz od kvs e).r (lk1 F d od kvs) (.ref d) m := ⟨d, rfl, upd_same, a.mono (Ex.new hF)⟩
theorem lk_end (hF : F d = none) (hd : H d = some (.dK kvs)) (f : Ex F H) (w : Wf (lk1 F d od kvs) (lk1 H d od kvs) F' H') : Wf F H F (upd H' d (.dK kvs)) := by
  have ex : Ex H (upd H' d (.dK kvs)) := fun a u h => by
    by_cases c : a = d
    · subst c; rw [hd] at h; rw [upd_same]; exact h
    · rw [upd_ne c]; exact w.h a u (by unfold lk1; rw [upd_ne c]; exact h)
  exact Wf.grow f ex
theorem lk_at (w : Wf F0 H0 F' H') (g : Ex (lk1 F d od kvs) F') : H' d = some (.frz od (.dK kvs)) := w.f _ _ (g _ _ upd_same)
/-- for k in d: -/
theorem f_lockK (hd : ∀ H, Val td σ H (.ref d)) (b : BD e F H d m) (k : ∀ (od : Obj) (kvs : List (Key × V)), H d = some (.dK kvs) → DA e F kvs m → kFor g tb ⟨fun σ' H' => H' d = some (.frz od (.dK kvs)) ∧ D.nx σ' (upd H' d (.dK kvs)), fun v H' => H' d = some (.frz od (.dK kvs)) ∧ D.rt v (upd H' d (.dK kvs)), fun σ' H' => H' d = some (.frz od (.dK kvs)) ∧ D.bk σ' (upd H' d (.dK kvs)), fun σ' H' => H' d = some (.frz od (.dK kvs)) ∧ D.ct σ' (upd H' d (.dK kvs))⟩ σ (Itk d od kvs) (lk1 H d od kvs)) : tLock (tFor (iKeys td) g tb) D σ H := by
  obtain ⟨kvs, h, a⟩ := b.x
  exact ⟨d, .dK kvs, h, trivial, fun od => hd _ _ ⟨d, od, rfl, .inl ⟨kvs, upd_same, k od kvs h a⟩⟩⟩
theorem DA.gotK : ∀ {kvs : List (Key × V)} {m : List (κ × α)} {i : Nat} {k : Key} {v : V}, DA e F kvs m → kvs[i]? = some (k, v) → ∃ q, m[i]? = some q ∧ k = KeyT.k q.1
  | [], [], _, _, _, _, h => by simp at h
  | p :: r, q :: s, 0, k, v, ⟨a, _, _⟩, h => by
    simp at h
    subst h
    exact ⟨q, rfl, a⟩
  | p :: r, q :: s, i + 1, k, v, ⟨_, _, c⟩, h => by
    obtain ⟨z, h1, h2⟩ := DA.gotK (i := i) c (by simpa using h)
    exact ⟨z, by simpa using h1, h2⟩
  | [], _ :: _, _, _, _, q, _ => q.elim
  | _ :: _, [], _, _, _, q, _ => q.elim
theorem twk_keys {b : Rep κ} (hk : ∀ F j, b.r F (kV (KeyT.k j)) j) (a : DA e F kvs m) : TWk (Itk d od kvs) (lk1 F d od kvs) b (m.map (·.1)) := by
  have len := a.len
  refine ⟨fun H' => H' d = some (.frz od (.dK kvs)), _, by rw [List.length_map, ← len]; exact walk_keys, fun F' H' h1 h2 => h2 _ _ (h1 _ _ upd_same), fun i H1 v H2 F' hi h1 h2 hy => ?_⟩
  obtain ⟨rfl, k, v, hk2, rfl⟩ := hy
  obtain ⟨q, hq, rq⟩ := a.gotK hk2
  refine ⟨q.1, F', by rw [List.getElem?_map, hq]; rfl, Wf.id h2, ?_⟩
  rw [rq]; exact hk _ _
theorem ix_Dz (r : (pDz od kvs e).r F v m) (f : Ex F H) (hx : valT m j = some x) : ∃ w, e.r F w x ∧ ∀ ⦃σ td ty⦄, Val td σ H v → Val ty σ H (kV (KeyT.k j)) → Val (tDGet td ty) σ H w := by
  obtain ⟨p, rfl, hp, a⟩ := r
  obtain ⟨w, h1, h2⟩ := (a.get j).1 x hx
  exact ⟨w, h2, fun _ _ _ hd hy Q k => hd _ (hy _ ⟨p, w, rfl, by rw [← h1]; exact .inl ⟨kvs, _, .inr ⟨_, f _ _ hp⟩, rfl, rfl⟩, k⟩)⟩
theorem BL.lk (b : BL e F H p xs) (hF : F d = none) (hp : p ≠ d) : BL e (lk1 F d od kvs) (lk1 H d od kvs) p xs := let ⟨vs, a, c⟩ := b.x; ⟨vs, by unfold lk1; rw [upd_ne hp]; exact a, c.mono (Ex.new hF)⟩
theorem BO.lk {C dx : Addr} {fs : List (Str × V)} (b : BO C F H p dx fs) (hp : p ≠ d) : BO C (lk1 F d od kvs) (lk1 H d od kvs) p dx fs := ⟨by unfold lk1; rw [upd_ne hp]; exact b.h⟩
theorem BD.neL {β : Type} {f : Rep β} {ys : List β} {q : Addr} (b : BD e F H p m) (c : BL f F H q ys) : q ≠ p := fun z => by
  obtain ⟨kvs, h1, _⟩ := b.x
  obtain ⟨vs, h2, _⟩ := c.x
  rw [z, h1] at h2; cases h2
theorem BD.neOb {q C dx : Addr} {fs : List (Str × V)} (b : BD e F H p m) (c : BO C F H q dx fs) : q ≠ p := fun z => by
  obtain ⟨kvs, h1, _⟩ := b.x
  have h2 := c.h
  rw [z, h1] at h2; cases h2
end
end Wk
namespace Wk
open PySem L2
theorem bd_nF {F0 H0 F H : Hp} {d : Addr} {o : HO} (h : F0 d = none) (hd : H0 d = some o) (w : Wf F0 H0 F H) : F d = none := by
  cases q : F d with
  | none => rfl
  | some u => have := w.n d u q h; rw [hd] at this; cases this
theorem BL.lend {α : Type} {e : Rep α} {F0 H0 F H : Hp} {p : Addr} {xs : List α} (b : BL e F H p xs) (w : Wf F0 H0 F H) : ∃ Fl, Ex Fl H ∧ Ex F Fl ∧ (pL e).r Fl (.ref p) xs := by
  obtain ⟨vs, h, a⟩ := b.x
  have g : Ex F (upd F p (.lst vs)) := fun q u hq => by
    by_cases c : q = p
    · subst c
      have := w.f _ _ hq
      rw [h] at this; cases this; exact upd_same
    · rw [upd_ne c]; exact hq
  exact ⟨upd F p (.lst vs), fun q u hq => by
    by_cases c : q = p
    · subst c; rw [upd_same] at hq; cases hq; exact h
    · rw [upd_ne c] at hq; exact w.f q u hq, g, p, vs, rfl, upd_same, a.mono g⟩
theorem bm_ty {α : Type} {e : Rep α} {K : PySem.W.Frag} {H0 F H : Hp} {p : Addr} {xs : List α} (z : XL e H0 F H p xs) : tyV K "list" (.ref p) H := let ⟨_, a, _⟩ := z.x; Or.inl ⟨rfl, _, Or.inl (Or.inl a.h)⟩
end Wk
namespace Wk
open PySem L2
theorem All.anyN {F G : Hp} : ∀ {vs : List V} {xs : List Nat}, All pN F vs xs → All pN G vs xs
  | [], [], _ => trivial
  | _ :: _, _ :: _, ⟨a, b⟩ => ⟨a, All.anyN b⟩
  | [], _ :: _, q => q.elim
  | _ :: _, [], q => q.elim
/-- numbers told in a new list, from what was lent -/
theorem XL.unlend {F F2 H H2 : Hp} {p : Addr} {xs : List Nat} (x : XL pN H F2 H2 p xs) (f : Ex F H) : XL pN H F H2 p xs := let ⟨vs, a, b⟩ := x.x; ⟨vs, ⟨a.z, f.non a.z, a.h⟩, b.anyN⟩
end Wk
/-! Xf: exceptions of the program with a field of their own: B.__init__(self, text); self.f = x; raise; e.f. -/
namespace Wk
open PySem L2 ClX
/-- B.__init__(self, ..), B an own class over ValueError without an __init__ of its own -/
def tWeI (K : PySem.W.Frag) (B : Addr) (to : TE) (ta : TA) : TE := fun σ H Q => to σ H fun x H1 => x = .ref B ∧ ta σ H1 fun vs H2 => ∃ (a C : Addr) (ws : List V), vs = .ref a :: ws ∧ ws.length ≤ 1000 ∧ OexC K C ∧ H2 a = some (exo a C none) ∧ Q .non H2
section
variable {X : Cx} {o e : Expr} {es : List Expr} {to te : TE} {ta : TA} {B : Addr} {p p' apos pos : Pos} {pl : Sem Bool}
theorem pe_weinit (r : CRead X.K B (.type "type")) (vB : PySem.W.findCls X.K (.ref B) (.type "type") "__init__" = some (.val (.builtin "ValueError.__init__"))) (ho : PE X o to) (ha : PA X (e :: es) ta)
    (hst : starEach (e :: es) X.env = (false, eval e X.env) :: starEach es X.env := by rfl) (hpl : (backTo pos (starEach es X.env)).any (·.1) = false := by rfl)
    (ht : eval (.Call (.Attribute o "__init__" apos) (e :: es) [] pos) X.env = (do
      let ov ← eval o X.env
      standAt apos.atName
      let (f, first) ← holding [ov] (getMethod ov "__init__" pl)
      callWith pos f first (backTo pos (starEach (e :: es) X.env)) (backToKw pos (keywordEach [] X.env))) := by rfl) :
    PE X (.Call (.Attribute o "__init__" apos) (e :: es) [] pos) (tWeI X.K B to ta) := by
  refine ⟨fun pins s σ H Q I h => ?_⟩
  refine PySem.W.methodCall_KW (pl := pl) (thn (ho.run pins s σ H _ I h) fun u s1 ⟨x, H1, I1, rx, ex, q⟩ => ?_) ht
  subst ex
  obtain rfl : u = Value.ref B := rx
  refine PySem.W.method_cls I1.kIn r.ga (PySem.W.cls_value I1.kIn r.rd vB rfl ?_)
  show wpAny _ _ (callWith pos (Value.builtin "ValueError.__init__") [] (backTo pos (starEach (e :: es) X.env)) []) _ _ _
  refine PyProof.Rows.callWith_method1 (thn (ha.run pos pins _ σ H1 _ (I1.tok _) q) fun us s2 ⟨vs, H2, I2, r2, a, C, ws, ev, hl, T, ea, q2⟩ => ?_) hst hpl
  subst ev
  cases r2 with
  | @cons _ u0 _ ur ra rw' =>
    obtain rfl : u0 = Value.ref a := ra
    have hlen : ur.length ≤ sizeLine := by
      rw [← Paired.length rw', sizeLine_eq]
      omega
    exact oinit_ok T I2 ea hlen fun s' J => ⟨.non, H2, J, rfl, q2⟩
end
/-- C.__init__(self, x): B.__init__(self, text); self.f = x -/
def sp_xi (f : Str) (C : Addr) : Sp := fun vs H Q _ => ∃ (a : Addr) (v : V), vs = [.ref a, v] ∧ H a = some (exo a C none) ∧ ∀ d, H d = none → d ≠ a → Q .non (upd (upd H d (exd d [(f, v)])) a (exo a C (some d)))
/-- raise C(x) -/
def tRaiseX (W : WX) (C : Addr) (f : Str) (ta : TA) : TS := fun _ σ H => tMkO C (sp_xi f C) [] ta σ H fun cls d H' => W cls d σ H'
section
variable {W : WX} {C : Addr} {f : Str} {ta : TA} {D : Ends} {σ : L2.St} {H : Hp} {v : V}
theorem a_raiseX {t : TE} (hv : Val t σ H v) (h : ∀ d, H d = none → W (.ref C) (some d) σ (upd H d (.xd [(f, v)]))) : tRaiseX W C f (tCons t tNil) D σ H := by
  unfold tRaiseX tMkO
  refine a_val hv (a_nil ?_)
  refine ⟨(show (1 : Nat) ≤ 1000 by decide), fun a ha => ⟨a, v, rfl, upd_same, fun d hd hda => ⟨rfl, d, [(f, v)], upd_same, ?_, ?_, ?_⟩⟩⟩
  · rw [upd_ne hda, upd_same]
  · rw [upd_ne hda] at hd; exact hd
  · have e : upd (del (upd (upd (upd H a (exo a C none)) d (exd d [(f, v)])) a (exo a C (some d))) a) d (.xd [(f, v)]) = upd H d (.xd [(f, v)]) := by
      funext b
      by_cases h1 : b = d
      · rw [h1, upd_same, upd_same]
      · rw [upd_ne h1, upd_ne h1]
        by_cases h2 : b = a
        · rw [h2, del_same, ha]
        · rw [del_ne h2, upd_ne h2, upd_ne h1, upd_ne h2]
    rw [e]
    rw [upd_ne hda] at hd
    exact h d hd
end
end Wk
namespace Wk
open PySem L2 ClX
/-- the __init__ of an exception class of the program -/
structure Xi (P : Program) (w : World) (K : PySem.W.Frag) (mg : Str → Option Value) (base : Heap) (CX : CXT) (k : Nat) (C : Addr) (ps : List Str) (sp : Sp) : Prop where
  ex : ∃ f fd, FnOk P w K mg base CX k f fd ps sp ∧ (PySem.W.findIn K (.ref C) "__init__" = some (some (.ref f)) ∧ PySem.W.typeIn K (.ref f) = some (.type "function")) ∧ Binds K fd ps []
section
variable {X : Cx} {k : Nat} {C : Addr} {x f : Str} {ps : List Str} {W : WX} {e : Expr} {te : TE} {p pos rpos : Pos}
theorem ps_raiseX (M : Xi X.prog X.w X.K X.mg X.base CX0 k C ps (sp_xi f C)) (T : OexC X.K C) (hc : X.calm = true) (tk : Takes X W) (hr : Room (k + 1) X.A) (hg : Gl X x) (hm : X.mg x = some (.ref C)) (he : PE X e te)
    (hdb : (x == ("__debug__" : Str)) = false := by decide) (hs : starEach [e] X.env = (false, eval e X.env) :: starEach [] X.env := by rfl) (hpl : (backTo pos (starEach [] X.env)).any (·.1) = false := by rfl) :
    PS X (.Raise (some (.Call (.Name x p) [e] [] pos)) none rpos) (tRaiseX W C f (tCons te tNil)) := by
  obtain ⟨f1, fd, F, ⟨iC, tI⟩, hb⟩ := M.ex
  exact ps_raise hc tk (pmk_oex T iC tI F hr hb .nil pass0 hg hm (pa_cons he pa_nil hs) hdb hs hpl)
end
end Wk
namespace Wk
open PySem L2 ClX
/-- the dict of an exception with one field -/
def pXd {α : Type} (f : Str) (e : Rep α) : Rep α := ⟨fun F v z => ∃ d w, v = .ref d ∧ F d = some (.xd [(f, w)]) ∧ e.r F w z, fun h q => by
  obtain ⟨d, w, rfl, hd, r⟩ := q
  exact ⟨d, w, rfl, h _ _ hd, e.mono h r⟩⟩
section
variable {α : Type} {f : Str} {e : Rep α} {F H : Hp} {d a C : Addr} {v w : V} {z : α} {K : PySem.W.Frag} {i : Nat} {σ : L2.St}
theorem pXd.get (r : (pXd f e).r F (.ref d) z) : ∃ w, F d = some (.xd [(f, w)]) ∧ e.r F w z := by
  obtain ⟨d', w, q, hd, r⟩ := r
  cases q
  exact ⟨w, hd, r⟩
theorem pXd.mk (hf : Ex F H) (n : H d = none) (r : e.r F v z) : (pXd f e).r (upd F d (.xd [(f, v)])) (.ref d) z :=
  ⟨d, v, rfl, upd_same, e.mono (Wf.new hf n).g r⟩
theorem v_xf (hs : σ[i]? = some (some (.ref a))) (hd : H d = some (.xd [(f, w)])) : Val (tXf a (.ref C) (some d) C f (tVar i)) σ H w := fun Q k =>
  ⟨_, hs, rfl, rfl, d, [(f, w)], w, rfl, hd, by simp [List.lookup], k⟩
end
/-- what the walk asks of an exception's class with a field -/
structure XF (K : PySem.W.Frag) (mg : Str → Option Value) (n : Str) (C : Addr) (f : Str) : Prop where
  g : mg n = some (.ref C)
  ox : OexC K C
  xf : XfC K C
  no : PySem.W.findIn K (.ref C) f = some none
end Wk

namespace Wk
open PySem PySem.Spec PySem.Calls PyProof.Rows L2 PySem.W
section
variable {prog : Program} {w : World} {A : Around} {E : Value → Shared → Prop} {s : Shared} {K : Frag} {x D C : Addr} {ox : Obj} {od : Option Obj} {a g : Value} {name : Str}
/-- a data descriptor of the class goes ahead of the fields -/
theorem find_data (hc : (clsIn K C).isSome = true) (ha : findIn K (.ref C) name = some (some a)) (hg : specialIn K a "__get__" = some (some g)) (ht : takesIn K a = some true) : findObj K C od name = some (.bind g a) := by
  cases e : clsIn K C with
  | none => rw [e] at hc; cases hc
  | some cd =>
    simp [findObj, e, ha, hg, ht]
/-- e.__class__, e an exception with fields -/
theorem exd_class {Q : Option Value → Shared → Prop} (T : ExcC K D) (X : K.In s.heap) (I : InstAt s.heap x ox D od) (h : Q (some (.ref D)) { s with toks := s.toks + 1 }) : wpAny (model prog w) A (getAttr? (.ref x) "__class__") Q E s := by
  have hc : (clsIn K D).isSome = true := by obtain ⟨cd, hc, _⟩ := any_some T.hd; rw [hc] <;> rfl
  have fnd : findObj K D od "__class__" = some (.bind (.builtin "getset_descriptor.__get__") (.builtin "object.__class__")) := find_data hc T.ha T.hn T.ht
  obtain ⟨hp, gg, dd, tt, oo⟩ := s
  have A0 := I.type (M := model prog w); have A1 := looks_findIn (M := model prog w) X T.hg
  have A2 := looks_findIn (M := model prog w) X T.hk; have A3 := looks_find (M := model prog w) X I fnd
  have sb : Looks (model prog w) hp (isInstance (.ref x) (.type "BaseException")) true := A0.andThen (looks_subIn X T.hs)
  have q0 : (false && onTheHeap (Value.builtin "BaseException.__getattribute__")) = false := rfl
  have q1 : (onTheHeap (Value.ref D) && Value.builtin "BaseException.__getattribute__" == Value.builtin "object.__getattribute__") = false := by
    rw [show (Value.builtin "BaseException.__getattribute__" == Value.builtin "object.__getattribute__") = false by decide +kernel]; rfl
  unfold getAttr? getAttrBy? getAttrBy; refine wpAny_bind (wpAny_mkText ?_)
  refine wpAny_bind (wpAny_attempt (wpAny_holding (wpAny_bind (A0.at (wpAny_bind (A1.at ?_))))))
  show wpAny _ _ (if (onTheHeap (Value.ref D) && Value.builtin "BaseException.__getattribute__" == Value.builtin "object.__getattribute__") = true then _ else _) _ _ _
  rw [q1, if_neg Bool.false_ne_true]; unfold getAttrByItsOwn hookBefore; refine wpAny_bind ?_
  rw [if_pos (show onTheHeap (Value.ref D) = true by rfl)]; refine A2.at ?_
  refine wpAny_bind (wpAny_attempt (wpAny_holding ?_)); unfold callGetattribute
  rw [q0, if_neg Bool.false_ne_true]; unfold boundAndCalled; rw [PySem.F.excAttr_ValueError.ga.bind (.ref x)]
  refine wpAny_bind (wpAny_pure ?_); show wpAny _ _ (call (.builtin "BaseException.__getattribute__") [.ref x, .str "__class__" tt]) _ _ _
  refine wpAny_call (codeAny_call_builtin PySem.F.excAttr_ValueError.ga.plain PySem.F.entry_bexc_ga (@check_slot (model prog w) _ _ ⟨hp, gg, dd, tt + 1, oo⟩ "BaseException.__getattribute__" "BaseException" "__getattribute__" (.ref x) [.str "__class__" tt] [] _ (by decide +kernel) (by decide +kernel) sb (PySem.F.args_bexc_ga (.ref x) (.str "__class__" tt)) ?_))
  unfold Builtin.«object.__getattribute__»; refine wpAny_bind (wpAny_of_eq (a := ((Value.ref x : Value), [Value.str "__class__" tt])) (by first | rfl | (simp only [slotArgs]; rfl)) ?_)
  refine wpAny_bind (wpAny_pure (wpAny_bind (A0.at (wpAny_bind (A3.at ?_)))))
  show wpAny _ _ (holding [Value.builtin "object.__class__"] (call (.builtin "getset_descriptor.__get__") [.builtin "object.__class__", .ref x, .ref D]) >>= ret) _ _ _
  refine wpAny_bind (wpAny_holding (wpAny_call (class_get (ox := ox) (od := od) X I T.hm ?_)))
  refine wpAny_pure ?_
  show wpAny _ _ (handedOut (.ref D)) _ _ _; rw [handedOut_of (v := .ref D) rfl]
  first | exact wpAny_pure (wpAny_pure h) | exact wpAny_pure h | exact wpAny_pure (wpAny_bind (wpAny_pure (wpAny_pure h)))
theorem kitx_exd (T : ExcC K D) : KitX K (.ref x) (.ref D) (fun h => InstAt h x ox D od) := by
  obtain ⟨cd, hc, _⟩ := any_some T.hd
  have at_ : ∃ (c' : Value) (d' : Option Addr) (sl' : Array (Option Value)), K.lookup D = some ⟨c', d', .cls cd, sl'⟩ := by
    unfold clsIn at hc
    split at hc
    · rename_i c' d' cd' sl' ho
      cases hc
      exact ⟨c', d', sl', ho⟩
    · cases hc
  obtain ⟨c', d', sl', ho⟩ := at_
  refine ⟨fun _ _ _ I => I.type, fun _ h X _ => fun A' Q' E' s' k q => ?_, fun h tp dd its n sl X htp => ?_, fun X I k => exd_class T X I k⟩
  · unfold isType loadHead; exact wpAny_bind (wpAny_loadPart (k _ _ (X _ _ ho)) (wpAny_pure q))
  · cases z : ((Value.ref D) == Value.ref tp) with
    | false => rfl
    | true =>
      obtain rfl : D = tp := Value.ref.inj (beq_iff_eq.mp z)
      cases (X _ _ ho).symm.trans htp
end
end Wk
namespace Wk
open PySem PySem.Spec PyProof.Rows L2
/-- isinstance of a caught exception with fields -/
def tIsX (K : PySem.W.Frag) (i : Nat) (cls : Value) (d : Option Addr) (a C : Addr) : TE := fun σ H Q => ∃ (D dd : Addr) (fs : List (Str × V)) (b : Bool), cls = .ref D ∧ d = some dd ∧ H dd = some (.xd fs) ∧ ExcC K D ∧ PySem.W.kitOne K (.ref D) (.ref C) = some b ∧ σ[i]? = some (some (.ref a)) ∧ Q (.bl b) H
def rIsX (K : PySem.W.Frag) (D a dd : Addr) : List V → Hp → VK → Prop := fun xs H Q => ∃ (c : V) (cv : Value) (b : Bool) (fs : List (Str × V)), xs = [.ref a, c] ∧ H dd = some (.xd fs) ∧ (∀ u, RelV c u → u = cv) ∧ PySem.W.kitOne K (.ref D) cv = some b ∧ Q (.bl b) H
theorem call_isX {X : Cx} {a D dd : Addr} {oe : Obj} {pn : List (Addr × Obj)} (C : ExcC X.K D) (hz : Zc (.ref D) (some dd) oe) (hf : ∃ vs, oe.data = .fields vs) : CallR (X.suite a ((a, oe) :: pn)) (.builtin "isinstance") (rIsX X.K D a dd) := by
  intro pins s σ H xs us Q I r h
  obtain ⟨c, cv, b, fs, rfl, hdd, hcv, e, q⟩ := h
  cases r with | cons rx rr => ?_
  cases rr with | cons rt rr => ?_
  cases rr; cases rx
  obtain rfl := hcv _ rt
  obtain ⟨hget, _⟩ := I.pin (a, oe) (List.mem_append.mpr (.inl List.mem_cons_self))
  obtain ⟨vs, hv⟩ := hf
  have hx : ObjOk X.prog X.w H s.heap dd (.xd fs) := I.hok dd _ hdd
  obtain ⟨mA, hns, hr⟩ := hx
  obtain ⟨oD, ho, _⟩ := lookIn_ns hns
  have J : PySem.W.InstAt s.heap a oe D (some oD) := ⟨hget, hz.1, by unfold PySem.W.notCls; rw [hv] <;> rfl, by rw [hz.2]; exact ho⟩
  refine PySem.W.kia_one (kitx_exd (ox := oe) (od := some oD) C) I.kIn J e (fun z => nomatch z) fun tk => ?_
  exact ⟨.bl b, H, I.kept (t' := tk) fun _ _ z => z, rfl, q⟩
theorem pe_isX {X : Cx} {a C : Addr} {oe : Obj} {cls : Value} {d : Option Addr} {pn : List (Addr × Obj)} {i : Nat} {x c : Str} {pf px pc pos : Pos} (hz : Zc cls d oe) (hf : ∃ vs, oe.data = .fields vs) (hg : Gl X "isinstance") (hm : X.mg "isinstance" = none)
    (hx : PE (X.suite a ((a, oe) :: pn)) (.Name x px) (tVar i)) (hc : Gl X c) (hcm : X.mg c = some (.ref C)) (hd : (c == ("__debug__" : Str)) = false := by decide)
    (he : starEach [.Name x px, .Name c pc] X.env = (false, eval (.Name x px) X.env) :: starEach [.Name c pc] X.env := by rfl) (he2 : starEach [.Name c pc] X.env = (false, eval (.Name c pc) X.env) :: starEach [] X.env := by rfl)
    (hpl : (backTo pos (starEach [.Name c pc] X.env)).any (·.1) = false := by rfl) :
    PE (X.suite a ((a, oe) :: pn)) (.Call (.Name "isinstance" pf) [.Name x px, .Name c pc] [] pos) (tIsX X.K i cls d a C) := by
  refine ⟨fun pins s σ H Q I h => ?_⟩
  obtain ⟨D, dd, fs, b, rfl, rfl, hdd, hC, hk, hs, q⟩ := h
  have hcl : PE (X.suite a ((a, oe) :: pn)) (.Name c pc) (tC (.ref C)) := pe_glob (X := X.suite a ((a, oe) :: pn)) hc hcm rfl hd
  have ha : PA (X.suite a ((a, oe) :: pn)) [.Name x px, .Name c pc] (tCons (tVar i) (tCons (tC (.ref C)) tNil)) := pa_cons hx (pa_cons hcl pa_nil)
  exact (pe_callB (X := X.suite a ((a, oe) :: pn)) (call_isX (X := X) (pn := pn) hC hz hf) hg hm PyProof.Rows.boot_isinstance ha (by decide) (by decide) he hpl).run pins s σ H Q I ⟨_, hs, _, _, b, fs, rfl, hdd, fun u ru => (show u = Value.ref C from ru), hk, q⟩
theorem v_isX {K : PySem.W.Frag} {i : Nat} {a D d C : Addr} {b : Bool} {σ : L2.St} {H : Hp} {fs : List (Str × V)} (hs : σ[i]? = some (some (.ref a))) (hd : H d = some (.xd fs)) (hC : ExcC K D) (hk : PySem.W.kitOne K (.ref D) (.ref C) = some b) : Val (tIsX K i (.ref D) (some d) a C) σ H (.bl b) := fun Q k => ⟨D, d, fs, b, rfl, rfl, hd, hC, hk, hs, k⟩
end Wk
namespace Wk
open PySem L2 ClX
section
variable {α : Type} {e : Rep α} {W : WX} {C B : Addr} {f : Str} {ta : TA} {D : Ends} {σ : L2.St} {F H : Hp} {v : V} {z : α} {K : PySem.W.Frag}
theorem a_raiseX2 {t : TE} (hv : Val t σ H v) (w : Ex F H) (r : e.r F v z) (h : ∀ d F' H', Wf F H F' H' → (pXd f e).r F' (.ref d) z → W (.ref C) (some d) σ H') : tRaiseX W C f (tCons t tNil) D σ H :=
  a_raiseX hv fun d hd => h d _ _ (Wf.new w hd) (pXd.mk w hd r)
/-- C.__init__(self, x), walked -/
theorem x_init {tm : TE} {m : Str} (T : OexC K C) (no : PySem.W.findIn K (.ref C) f = some none) {a : Addr} (h0 : σ[0]? = some (some (.ref a))) (h1 : σ[1]? = some (some v)) (ho : H a = some (exo a C none)) (hm : Val tm σ H (.str m))
    (hQ : ∀ d, H d = none → d ≠ a → D.nx σ (upd (upd H d (exd d [(f, v)])) a (exo a C (some d)))) :
    tSeq (tDrop (tWeI K B (tC (.ref B)) (tCons (tVar 0) (tCons tm tNil)))) (tOst K f (tVar 0) (tVar 1)) D σ H := by
  show tWeI K B (tC (.ref B)) (tCons (tVar 0) (tCons tm tNil)) σ H fun _ H1 => tOst K f (tVar 0) (tVar 1) D σ H1
  unfold tWeI
  show (V.ref B = .ref B) ∧ _
  refine ⟨rfl, ?_⟩
  refine a_val (val_var h0) (a_val hm (a_nil ?_))
  refine ⟨a, C, [.str m], rfl, (show (1 : Nat) ≤ 1000 by decide), T, ho, ?_⟩
  exact val_var h1 _ (val_var h0 _ ⟨a, C, rfl, T, no, .inl ⟨ho, hQ⟩⟩)
end
end Wk
/-! Aq: things of any kind compared; a new dict asked at once. -/
namespace Wk
open PySem L2
mutual
/-- as data (what is only of a told kind: nothing) -/
def dA : An → PyData
  | .i n => .int n
  | .b b => .bool b
  | .n => .none
  | .s x => .str x
  | .o _ => .none
  | .l xs => .list (dAs xs)
  | .t xs => .tuple (dAs xs)
def dAs : List An → List PyData
  | [] => []
  | x :: xs => dA x :: dAs xs
end
mutual
def anP : An → Bool
  | .o _ => false
  | .l xs => anPs xs
  | .t xs => anPs xs
  | .i _ => true
  | .b _ => true
  | .n => true
  | .s _ => true
def anPs : List An → Bool
  | [] => true
  | x :: xs => anP x && anPs xs
end
/-- can be compared -/
def aok (x : An) : Bool := anP x && SeqAt.shaped (dA x)
/-- compared -/
def aeq (x y : An) : Bool := PyData.eqv (dA x) (dA y)
mutual
theorem dp_A {K : PySem.W.Frag} {F : Hp} : ∀ {x : An} {v : V}, pA.r F v x → anP x = true → Dp K F v (dA x)
  | .i n, v, r, _ => by cases (show v = V.int n from r); exact .int _
  | .b b, v, r, _ => by cases (show v = V.bl b from r); exact .bl _
  | .n, v, r, _ => by cases (show v = V.non from r); exact .non
  | .s x, v, r, _ => by cases (show v = V.str x from r); exact .str _
  | .o T, _, _, h => by cases h
  | .l xs, v, r, h => by
    obtain ⟨p, vs, rfl, hp, a⟩ := (show ∃ p vs, v = .ref p ∧ F p = some (.lst vs) ∧ anRs F xs vs from r)
    exact .lst (SqL.of hp) (dp_As a h)
  | .t xs, v, r, h => by
    obtain ⟨p, vs, rfl, hp, a⟩ := (show ∃ p vs, v = .ref p ∧ F p = some (.tup vs) ∧ anRs F xs vs from r)
    exact .tup (SqT.of hp) (dp_As a h)
theorem dp_As {K : PySem.W.Frag} {F : Hp} : ∀ {xs : List An} {vs : List V}, anRs F xs vs → anPs xs = true → DpAll K F vs (dAs xs)
  | [], [], _, _ => .nil
  | x :: xs, v :: vs, ⟨a, b⟩, h => by
    obtain ⟨h1, h2⟩ := Bool.and_eq_true_iff.mp h
    exact .cons (dp_A a h1) (dp_As b h2)
  | [], _ :: _, r, _ => r.elim
  | _ :: _, [], r, _ => r.elim
end
section
variable {K : PySem.W.Frag} {σ : L2.St} {F F' H : Hp} {ta tb : TE} {v w : V} {x y : An}
theorem c_eqA (ha : Val ta σ H v) (hb : Val tb σ H w) (f : Ex F H) (r : pA.r F v x) (g : Ex F' H) (s : pA.r F' w y) (h : aok x = true ∧ aok y = true) : Val (tOp (rEqD K) ta tb) σ H (.bl (decide (aeq x y = true))) := by
  obtain ⟨a1, a2⟩ := Bool.and_eq_true_iff.mp h.1
  obtain ⟨b1, b2⟩ := Bool.and_eq_true_iff.mp h.2
  exact v2 ha hb fun Q k => ⟨_, _, dp_A (pA.mono f r) a1, dp_A (pA.mono g s) b1, a2, b2, by
    have z : PyData.eqv (dA x) (dA y) = decide (aeq x y = true) := by
      unfold aeq
      cases PyData.eqv (dA x) (dA y) <;> rfl
    rw [z]; exact k⟩
theorem c_neA (ha : Val ta σ H v) (hb : Val tb σ H w) (f : Ex F H) (r : pA.r F v x) (g : Ex F' H) (s : pA.r F' w y) (h : aok x = true ∧ aok y = true) : Val (tOp (rNeD K) ta tb) σ H (.bl (decide (¬ aeq x y = true))) := by
  obtain ⟨a1, a2⟩ := Bool.and_eq_true_iff.mp h.1
  obtain ⟨b1, b2⟩ := Bool.and_eq_true_iff.mp h.2
  exact v2 ha hb fun Q k => ⟨_, _, dp_A (pA.mono f r) a1, dp_A (pA.mono g s) b1, a2, b2, by
    have z : (!PyData.eqv (dA x) (dA y)) = decide (¬ aeq x y = true) := by
      unfold aeq
      cases PyData.eqv (dA x) (dA y) <;> rfl
    rw [z]; exact k⟩
theorem cv_T4 {α β γ δ : Type} {e : Rep α} {g : Rep β} {g2 : Rep γ} {g3 : Rep δ} {f : α → An} {k : β → An} {k2 : γ → An} {k3 : δ → An} (h : Cv e f) (h2 : Cv g k) (h3 : Cv g2 k2) (h4 : Cv g3 k3) : Cv (pT4 e g g2 g3) (fun x => .t [f x.1, k x.2.1, k2 x.2.2.1, k3 x.2.2.2]) :=
  fun ⟨p, u, w, y, z, a, b, c, d, q, q2⟩ => an_t.mpr ⟨p, _, a, b, h c, h2 d, h3 q, h4 q2, trivial⟩
/-- a dict asked, in parts -/
theorem e_dget {td ty : TE} {Q : VK} (h : td σ H fun x H1 => ty σ H1 fun y H2 => ∃ a v, x = .ref a ∧ DGet H2 a y (some v) ∧ Q v H2) : tDGet td ty σ H Q := h
theorem rv_dget {a b v : V} {Q : VK} (h : Val (tDGet (tC a) (tC b)) [] H v) (q : Q v H) : ∃ x v, a = .ref x ∧ DGet H x b (some v) ∧ Q v H := h Q q
end
theorem aeq_s {x y : Str} : aeq (.s x) (.s y) = true ↔ x = y := by
  show ((x == y) = true) ↔ _
  exact beq_iff_eq
end Wk
/-! Hl: what pop tells; lists of two or three things of unlike kinds. -/
namespace Wk
open PySem L2
section
variable {α : Type} {e : Rep α} {F0 H0 F H : Hp} {p : Addr} {xs ys : List α} {x y : α} {Q : VK}
/-- xs.pop(), told -/
theorem a_popV (z : XL e H0 F H p xs) (w : Wf F0 H0 F H) (hy : xs[xs.length - 1]? = some y) (k : ∀ v H', Wf F0 H0 F H' → XL e H0 F H' p xs.dropLast → e.r F v y → (∀ q o, H q = some o → q ≠ p → H' q = some o) → Q v H') : rPop (.ref p) [] H Q := by
  obtain ⟨vs, a, b⟩ := z.x
  obtain ⟨v, hv, r⟩ := b.get hy
  refine ⟨p, vs, v, rfl, rfl, a.h, by rw [b.len]; exact hv, k _ _ (w.set a) ⟨vs.dropLast, a.set, ?_⟩ r fun q o h hq => by rw [upd_ne hq]; exact h⟩
  rw [List.dropLast_eq_take, List.dropLast_eq_take, ← b.len]
  exact b.take _
/-- xs.pop(0), told -/
theorem a_pop0 (z : XL e H0 F H p xs) (w : Wf F0 H0 F H) (hy : xs = y :: ys) (k : ∀ v H', Wf F0 H0 F H' → XL e H0 F H' p ys → e.r F v y → (∀ q o, H q = some o → q ≠ p → H' q = some o) → Q v H') : rPopAt (.ref p) [.int 0] H Q := by
  obtain ⟨vs, a, b⟩ := z.x
  subst hy
  cases vs with
  | nil => exact b.elim
  | cons v vs =>
    obtain ⟨r, b'⟩ := b
    refine ⟨p, v :: vs, 0, 0, v, rfl, rfl, a.h, by decide, by decide, ?_, rfl, k _ _ (w.set a) ⟨vs, by rw [List.eraseIdx_cons_zero]; exact a.set, b'⟩ r fun q o h hq => by rw [upd_ne hq]; exact h⟩
    unfold seqIndex?
    simp
end
/-- a list of two, of three things of unlike kinds -/
def pH2 {α β : Type} (e : Rep α) (f : Rep β) : Rep (α × β) := ⟨fun F v x => ∃ p u w, v = .ref p ∧ F p = some (.lst [u, w]) ∧ e.r F u x.1 ∧ f.r F w x.2, fun h ⟨p, u, w, a, b, c, d⟩ => ⟨p, u, w, a, h _ _ b, e.mono h c, f.mono h d⟩⟩
def pH3 {α β γ : Type} (e : Rep α) (f : Rep β) (g : Rep γ) : Rep (α × β × γ) := ⟨fun F v x => ∃ p u w y, v = .ref p ∧ F p = some (.lst [u, w, y]) ∧ e.r F u x.1 ∧ f.r F w x.2.1 ∧ g.r F y x.2.2, fun h ⟨p, u, w, y, a, b, c, d, k⟩ => ⟨p, u, w, y, a, h _ _ b, e.mono h c, f.mono h d, g.mono h k⟩⟩
section
variable {α β γ : Type} {e : Rep α} {f : Rep β} {g : Rep γ} {K : PySem.W.Frag} {F0 H0 F H : Hp} {v w u : V} {x : α} {y : β} {z : γ} {Q : VK} {n m k : Nat}
theorem n_h2 (a : e.r F v x) (b : f.r F w y) (h : Wf F0 H0 F H) (k : ∀ p F' H', Wf F H F' H' → (pH2 e f).r F' (.ref p) (x, y) → Q (.ref p) H') : kLst Q [v, w] H :=
  ⟨Nat.le_of_lt (small_len (n := 2) (by decide)), fun p hp => k p _ _ (Wf.new h.f hp) ⟨p, v, w, rfl, upd_same, e.mono (Ex.new (h.f.non hp)) a, f.mono (Ex.new (h.f.non hp)) b⟩⟩
theorem n_h3 (a : e.r F v x) (b : f.r F w y) (c : g.r F u z) (h : Wf F0 H0 F H) (k : ∀ p F' H', Wf F H F' H' → (pH3 e f g).r F' (.ref p) (x, y, z) → Q (.ref p) H') : kLst Q [v, w, u] H :=
  ⟨Nat.le_of_lt (small_len (n := 3) (by decide)), fun p hp => k p _ _ (Wf.new h.f hp) ⟨p, v, w, u, rfl, upd_same, e.mono (Ex.new (h.f.non hp)) a, f.mono (Ex.new (h.f.non hp)) b, g.mono (Ex.new (h.f.non hp)) c⟩⟩
instance [Dat e n] [Dat f m] : Dat (pH2 e f) (max n m + 1) := ⟨fun x => .list [Dat.d e x.1, Dat.d f x.2], fun {K F v x} h => by
    obtain ⟨p, u, w, rfl, hp, a, b⟩ := h
    exact .lst (SqL.of hp) (.cons (Dat.dp a) (.cons (Dat.dp b) .nil)), fun x => by
    show (PyData.canLay0 (Dat.d e x.1) && (PyData.canLay0 (Dat.d f x.2) && PyData.canLayAll0 [])) = true
    rw [Dat.lay, Dat.lay]; rfl, fun x => by
    have a := Dat.dep (e := e) x.1
    have b := Dat.dep (e := f) x.2
    simp only [PyData.depth, PyData.depthAll]
    omega, fun x y => by
    show (PyData.eqv (Dat.d e x.1) (Dat.d e y.1) && (PyData.eqv (Dat.d f x.2) (Dat.d f y.2) && PyData.eqvAll [] [])) = true ↔ _
    have z : PyData.eqvAll [] [] = true := rfl
    rw [z, Bool.and_true, Bool.and_eq_true, Dat.inj, Dat.inj, Prod.ext_iff]⟩
instance [Dat e n] [Dat f m] [Dat g k] : Dat (pH3 e f g) (max n (max m k) + 1) := ⟨fun x => .list [Dat.d e x.1, Dat.d f x.2.1, Dat.d g x.2.2], fun {K F v x} h => by
    obtain ⟨p, u, w, y, rfl, hp, a, b, c⟩ := h
    exact .lst (SqL.of hp) (.cons (Dat.dp a) (.cons (Dat.dp b) (.cons (Dat.dp c) .nil))), fun x => by
    show (PyData.canLay0 (Dat.d e x.1) && (PyData.canLay0 (Dat.d f x.2.1) && (PyData.canLay0 (Dat.d g x.2.2) && PyData.canLayAll0 []))) = true
    rw [Dat.lay, Dat.lay, Dat.lay]; rfl, fun x => by
    have a := Dat.dep (e := e) x.1
    have b := Dat.dep (e := f) x.2.1
    have c := Dat.dep (e := g) x.2.2
    simp only [PyData.depth, PyData.depthAll]
    omega, fun x y => by
    show (PyData.eqv (Dat.d e x.1) (Dat.d e y.1) && (PyData.eqv (Dat.d f x.2.1) (Dat.d f y.2.1) && (PyData.eqv (Dat.d g x.2.2) (Dat.d g y.2.2) && PyData.eqvAll [] []))) = true ↔ _
    have z : PyData.eqvAll [] [] = true := rfl
    rw [z, Bool.and_true, Bool.and_eq_true, Bool.and_eq_true, Dat.inj, Dat.inj, Dat.inj, Prod.ext_iff, Prod.ext_iff]⟩
theorem ix_h2a {q : α × β} (r : (pH2 e f).r F v q) (h : Ex F H) : ∃ w, e.r F w q.1 ∧ ∀ ⦃σ ta tb⦄, Val ta σ H v → Val tb σ H (.int 0) → Val (tOp (rIxL K) ta tb) σ H w := by
  obtain ⟨p, u, w, rfl, hp, a, b⟩ := r
  exact ⟨u, a, fun _ _ _ ha hb => v2 ha hb fun Q k => ⟨p, _, _, u, rfl, rfl, SqL.of (h _ _ hp), rfl, k⟩⟩
theorem ix_h2b {q : α × β} (r : (pH2 e f).r F v q) (h : Ex F H) : ∃ w, f.r F w q.2 ∧ ∀ ⦃σ ta tb⦄, Val ta σ H v → Val tb σ H (.int 1) → Val (tOp (rIxL K) ta tb) σ H w := by
  obtain ⟨p, u, w, rfl, hp, a, b⟩ := r
  exact ⟨w, b, fun _ _ _ ha hb => v2 ha hb fun Q k => ⟨p, _, _, w, rfl, rfl, SqL.of (h _ _ hp), rfl, k⟩⟩
end
end Wk
namespace Wk
open PySem L2
/-- behind a call that was handed no list: what is no list is changed no more -/
theorem RG.fzN {F0 H0 F H F2 H2 : Hp} (w : Wf F0 H0 F H) (s : Wf (Wk.nl F) H F2 H2) : ∃ F3, Wf F H F3 H2 ∧ Ex (Wk.nl F2) F3 ∧ RG H0 F3 H2 F2 := by
  have key : ∀ a o, F2 a = some o → F a = none → H a = none := fun a o e q => s.n a o e (by
    cases z : Wk.nl F a with
    | none => rfl
    | some u => rw [nl_sub a u z] at q; cases q)
  have hx : Ex (Wk.nl F2) (un F (Wk.nl F2)) := fun a o e => by
    unfold un
    cases q : F a with
    | none => exact e
    | some u =>
      have h1 := s.h a u (w.f a u q)
      have h2 := s.f a o (nl_sub a o e)
      rw [h1] at h2
      exact h2
  refine ⟨un F (Wk.nl F2), ⟨s.h, fun a o e => ?_, un_l, fun a o e e0 => ?_⟩, hx, ⟨fun a o e => ?_, s.f⟩⟩
  · unfold un at e
    cases q : F a with
    | some u => rw [q] at e; cases e; exact s.h a _ (w.f a _ q)
    | none => rw [q] at e; exact s.f a o (nl_sub a o e)
  · unfold un at e
    rw [e0] at e
    exact key a o (nl_sub a o e) e0
  · by_cases n : NLst o
    · exact .inr ⟨hx a o (nl_o e n), n⟩
    · have hl : ∃ vs, o = .lst vs := Classical.byContradiction fun z => n fun vs q => z ⟨vs, q⟩
      obtain ⟨vs, rfl⟩ := hl
      have fn : F a = none := by
        cases q : F a with
        | none => rfl
        | some u =>
          exfalso
          have h1 := s.h a u (w.f a u q)
          have h2 := s.f a _ e
          rw [h1] at h2
          cases h2
          cases z : Wk.nl F a with
          | none =>
            have := s.n a _ e z
            rw [w.f a _ q] at this; cases this
          | some u => rw [nl_lst q] at z; cases z
      have hn := key a _ e fn
      refine .inl ⟨w.h.non hn, ?_⟩
      unfold un
      rw [fn]
      exact nl_lst e
end Wk
namespace Wk
open PySem L2
section
variable {α β γ : Type} {e : Rep α} {f : Rep β} {g : Rep γ} {K : PySem.W.Frag} {F H : Hp} {v : V} {k : Int}
/-- x[k] of a tuple of one of two kinds -/
theorem ix_alt {x : Sum α β} {pa : α → γ} {pb : β → γ} (r : (pAlt e f).r F v x)
    (ga : ∀ a, e.r F v a → ∃ w, g.r F w (pa a) ∧ ∀ ⦃σ ta tb⦄, Val ta σ H v → Val tb σ H (.int k) → Val (tOp (rIxT K) ta tb) σ H w)
    (gb : ∀ b, f.r F v b → ∃ w, g.r F w (pb b) ∧ ∀ ⦃σ ta tb⦄, Val ta σ H v → Val tb σ H (.int k) → Val (tOp (rIxT K) ta tb) σ H w) :
    ∃ w, g.r F w (Sum.elim pa pb x) ∧ ∀ ⦃σ ta tb⦄, Val ta σ H v → Val tb σ H (.int k) → Val (tOp (rIxT K) ta tb) σ H w := by
  cases x with
  | inl a => exact ga a r
  | inr b => exact gb b r
end
end Wk
/-! Cs: a comprehension whose item changes an own object. -/
namespace Wk
open PySem L2
section
variable {α β S : Type} {e : Rep α} {b : Rep β} {K : PySem.W.Frag} {F H : Hp} {L : List Addr} {v : V} {zs : List β} {g : TG} {tc : TT} {te : TE} {vs : List Nat} {σ : L2.St} {Q : VK} {s0 : S}
theorem w_compS {body : β → S × List α → (S × List α → Prop) → (S × List α → Prop) → Prop} {k : S × List α → Prop} (Inv : S → Hp → Hp → Prop) (r : (pL b).r F v zs) (f : Ex F H) (hn : zs.length < 1000000)
    (nF : ∀ d ∈ L, F d = none) (nS : ∀ D, H D = none → D ∉ L) (hI0 : Inv s0 F H) (keep : ∀ s F' H' D o, D ∉ L → Inv s F' H' → Inv s F' (upd H' D o)) (hF : ∀ s F' H', Inv s F' H' → ∀ d ∈ L, F' d = none)
    (hW : forW zs (s0, ([] : List α)) body k)
    (turn : ∀ (Qy : V → Hp → Prop) (Qn : Hp → Prop) x u s acc F1 H1 (nx bk : S × List α → Prop), Wf F (woL H L) F1 H1 → Inv s F1 H1 → x ∈ zs → b.r F1 u x → body x (s, acc) nx bk → (∀ y z s' F2 H2, Wf F1 (woL H1 L) F2 H2 → Inv s' F2 H2 → e.r F2 y z → nx (s', acc ++ [z]) → Qy y H2) →
      g u (wipe σ vs) H1 fun σ2 H2 => wipe σ2 vs = wipe σ vs ∧ tc σ2 H2 fun b H3 => if b = true then te σ2 H3 Qy else Qn H3)
    (done : ∀ p ys s F' H', H p = none → Wf F (woL H L) F' H' → Inv s F' H' → XL e H F' H' p ys → k (s, ys) → Q (.ref p) H') :
    kCpL K g tc te vs σ Q v H := by
  obtain ⟨p, ws, rfl, hp, a⟩ := r
  have hpL : p ∉ L := fun z => by rw [nF p z] at hp; cases hp
  unfold kCpL
  refine ⟨p, rfl, ⟨_, SqL.of (f _ _ hp)⟩, fun D hD => ?_⟩
  have hDL := nS D hD
  have zD : woL H L D = none := by rw [woL_out hDL]; exact hD
  have w0 : Wf F (woL H L) F H := Wf.startL f nF
  refine lc_list (xs := ws) (fun i H' => ∃ F' ac ys s, Wf F (woL H L) F' H' ∧ Inv s F' H' ∧ Xc (woL H L) F' H' D (.lst ac) ∧ All e F' ac ys ∧ ys.length ≤ i ∧ forW (zs.drop i) (s, ys) body k)
    ⟨F, [], [], s0, w0.tr (Wf.newX f hD), keep _ _ _ _ _ hDL hI0, (Xc.mk' (Wf.id f) hD).fromL zD, trivial, Nat.le_refl _, hW⟩ (fun i H' _ ⟨F', ac, ys, s, q, _⟩ => SqL.of (q.h _ _ (by rw [woL_out hpL]; exact f _ _ hp))) ?_ ?_
  · rintro i u H' hu ⟨F', ac, ys, s, q, hI, xc, al, hl, hw⟩
    obtain ⟨x, hx, rx⟩ := a.got hu
    obtain ⟨h1, h2⟩ := List.getElem?_eq_some_iff.mp hx
    have e' : zs.drop i = x :: zs.drop (i + 1) := by rw [← h2]; exact List.drop_eq_getElem_cons h1
    rw [e'] at hw
    refine turn _ _ x u s ys F' H' _ _ q hI (List.mem_of_getElem? hx) (b.mono q.g rx) hw (fun y z s' F2 H2 st hI2 ry hR => ?_)
    have xc2 := xc.away hDL st
    have q2 := q.mcall (fun d hd => woL_in hd) st (hF _ _ _ hI2)
    exact ⟨ac, xc2.h, by rw [al.len]; exact small_len (by omega), F2, ac ++ [y], ys ++ [z], s', q2.set xc2, keep _ _ _ _ _ hDL hI2, xc2.set, (al.mono st.g).snoc ry, by rw [List.length_append]; exact Nat.succ_le_succ hl, hR⟩
  · rintro H' ⟨F', ac, ys, s, q, hI, xc, al, hl, hw⟩
    rw [List.drop_of_length_le (by rw [a.len]; exact Nat.le_refl _)] at hw
    exact done D ys s F' H' hD q hI ⟨ac, ⟨hD, xc.n, xc.h⟩, al⟩ hw
end
end Wk
/-! Es: enumerate(a text), reversed(a text). -/
namespace Wk
open PySem PySem.Spec PyProof.Rows L2
/-- the text at each turn, each sign in a new pair -/
def IteS (x : Str) : It :=
  ⟨fun i _ => i < x.cps.size, fun i H v H' => ∃ T c, v = .ref T ∧ H T = none ∧ H' = upd H T (.tup [.int (i : Nat), .str ⟨#[c]⟩]) ∧ x.cps[i]? = some c, fun i _ => x.cps.size ≤ i⟩
theorem enumS_end {prog : Program} {w : World} {A : Around} {E : Value → Shared → Prop} {s : Shared} {en iw : Addr} {c : Int} {i : Nat} {x : Str} {t : Tok} {old : Value} {Q : Option Value → Shared → Prop} (hh : A.handled = none)
    (hen : IsEnum s.heap en iw c old) (hit : s.heap.IsStrIter iw (strIterType x) x t i) (hx : x.cps[i]? = none) (hQ : ∀ h', Heap.ExtBut iw s.heap h' → Q none { s with heap := h' }) : wpAny (model prog w) A (pyNext (.ref en)) Q E s := by
  have hTy2 : s.TypeIs (.ref en) "enumerate" := ⟨_, hen, rfl⟩
  unfold pyNext
  refine wpAny_bind (wpAny_attempt (wpAny_callSpecial?_slot (name := Str.ofString "__next__") hTy2 F.slot_enumerate_next (wpAny_call_entry F.slot_enumerate_next hTy2 F.entry_enumerate_next ?_ (F.args_enumerate_next_1 _))))
  show wpAny _ _ (field (.ref en) 2 >>= _) _ _ _
  refine wpAny_bind (wpAny_field hen rfl (x := .ref iw) rfl ?_)
  unfold strIterType at hit
  cases ha : x.cps.all (· < 128)
  · rw [ha, if_neg (by decide)] at hit
    refine wpAny_bind (wpAny_nextOf_wide_end hh hit hx fun h' x2 hx1 hx2 => ?_)
    obtain ⟨ob, ho, hcl⟩ := hx2
    refine wpAny_bind (wpAny_isInstance (T := "StopIteration") (b := true) ⟨ob, ho, hcl⟩ isSubtype_stop ?_)
    exact wpAny_pure (hQ _ hx1)
  · rw [ha, if_pos rfl] at hit
    refine wpAny_bind (wpAny_nextOf_ascii_end hh hit hx fun h' x2 hx1 hx2 => ?_)
    obtain ⟨ob, ho, hcl⟩ := hx2
    refine wpAny_bind (wpAny_isInstance (T := "StopIteration") (b := true) ⟨ob, ho, hcl⟩ isSubtype_stop ?_)
    exact wpAny_pure (hQ _ hx1)
theorem turn_enumS {P : Program} {w : World} {K : PySem.W.Frag} {elts : List Expr} {kk : Nat} {tpos : Pos} (x : Str) (t : Tok) (en iw : Addr) :
    Turn P w K (.Tuple elts kk tpos) (IteS x) [en, iw] en (fun i h => (∃ old, IsEnum h en iw ((i : Nat) : Int) old) ∧ h.IsStrIter iw (strIterType x) x t i ∧ en ≠ iw) where
  mem := by simp
  obj := fun i h stt b hb => by
    obtain ⟨⟨old, hen⟩, ⟨o, ho, hc, hd⟩, _⟩ := stt
    have e' : b = en ∨ b = iw := by simpa using hb
    rcases e' with z | z
    · rw [z]; exact ⟨_, hen, fun v q => nomatch q⟩
    · rw [z]; exact ⟨o, ho, fun v q => by rw [hd] at q; cases q⟩
  keep := fun i h h' stt k => let ⟨⟨old, hen⟩, ⟨o, ho, r⟩, hne⟩ := stt; ⟨⟨old, k en (by simp) _ hen⟩, ⟨o, k iw (by simp) o ho, r⟩, hne⟩
  item := by
    intro X hP hw hK hc i pins s σ H E Iv hff stt hg
    subst hP hw hK
    obtain ⟨⟨old, hen⟩, hit, hne⟩ := stt
    have hel : en < s.heap.objs.size := Heap.lt_size hen
    have hil : iw < s.heap.objs.size := by obtain ⟨_, q, _⟩ := hit; exact Heap.lt_size q
    refine wpAny_pyNext_enum_itemD (Draws.text (A := X.A.in1) (Iv.ok.hd hc) iw x t) hen hit hg hne (by simp [hne]) fun x2 h' tk hP ho hstt' hT hsz hkp => ?_
    obtain ⟨c, u, hcx, ex⟩ := hP
    subst ex
    refine ⟨_, rfl, wpAny_letOwnedTupleGo_enum (s := { s with heap := h', toks := tk + 1 }) ho fun h'' he' sb => ?_⟩
    have hT2 : h''.get? s.heap.objs.size = some { cls := .type "tuple", data := .seq #[.int i tk, .str ⟨#[c]⟩ u] } := (sb.2 _ (Nat.ne_of_gt hel)).trans hT
    have newt : ObjOk X.prog X.w (upd H s.heap.objs.size (.tup [.int (i : Nat), .str ⟨#[c]⟩])) h'' s.heap.objs.size (.tup [.int (i : Nat), .str ⟨#[c]⟩]) :=
      ⟨by show 2 ≤ sizeLine; decide, [.int i tk, .str ⟨#[c]⟩ u], .cons ⟨_, rfl⟩ (.cons ⟨_, rfl⟩ .nil), ⟨_, hT2, rfl, _, rfl⟩⟩
    have Iv1 : Inv X pins σ (upd H s.heap.objs.size (.tup [.int (i : Nat), .str ⟨#[c]⟩])) { s with heap := h'', toks := tk + 1 } :=
      Iv.turnedNew (ch := [en, iw]) (fun b ob hb q => (sb.2 b (fun z => hb (by simp [z]))).trans (hkp b ob (fun z => hb (by simp [z])) (fun z => hb (by simp [z])) q)) hff (Nat.le_refl _) newt
    refine ⟨.ref s.heap.objs.size, _, Iv1, rfl, ⟨_, c, rfl, Iv.hok.fresh (Nat.le_refl _), rfl, hcx⟩, ⟨⟨.str ⟨#[c]⟩ u, ?_⟩, (let ⟨o, ho2, r⟩ := hstt'; ⟨o, (sb.2 iw (Ne.symm hne)).trans ho2, r⟩), hne⟩, fun b hb => ?_⟩
    · have e1 : ((i + 1 : Nat) : Int) = (i : Int) + 1 := by omega
      rw [e1]; exact he'
    · have hb' : b < s.heap.objs.size := by
        have e' : b = en ∨ b = iw := by simpa using hb
        rcases e' with z | z <;> rw [z] <;> assumption
      rw [upd_ne (Nat.ne_of_lt hb')]
      exact (hff b hb).1
  done := by
    intro X hP hw hK hc i pins s σ H E Iv hff stt hg
    subst hP hw hK
    obtain ⟨⟨old, hen⟩, hit, hne⟩ := stt
    obtain ⟨f0, f1, f2, f3, f4, f5⟩ := hff iw (by simp)
    exact enumS_end (Iv.ok.hd hc) hen hit (Array.getElem?_eq_none hg) fun h' eb => ⟨rfl, Iv.turned (t' := s.toks) (fun b o hb q => eb b o hb q) f0 f1 f3 f4 f5⟩
  self := fun A i s Q E stt h => let ⟨⟨_, hen⟩, _⟩ := stt; wpAny_pyIter_enum hen h
def iEnumS (ta : TA) : TI := fun σ H R => ta σ H fun vs H1 => ∃ x, vs = [.str x] ∧ R (IteS x) H1
theorem pi_enumS {X : Cx} {e : Expr} {ta : TA} {p pos tpos : Pos} {elts : List Expr} {kk : Nat} (hg : Gl X "enumerate") (hm : X.mg "enumerate" = none) (ha : PA X [e] ta) (hs : starEach [e] X.env = [(false, eval e X.env)] := by rfl) :
    PI X (.Tuple elts kk tpos) (.Call (.Name "enumerate" p) [e] [] pos) (iEnumS ta) := by
  refine ⟨fun pins s σ H R Iv h => ?_⟩
  refine Call_ (ld_blt Iv hg hm boot_enumerate (PyProof.Rows.callWith_type1 (thn (ha.run pos pins s σ H _ Iv h) fun us s1 ⟨vs, H1, Iv1, r1, q1⟩ => ?_) hs rfl))
  obtain ⟨x, ex, qq⟩ := q1
  subst ex
  cases r1 with
  | cons r rr =>
    cases rr
    obtain ⟨t, rfl⟩ := r
    refine call_enumerate_str fun h' hen hit hsz hkp => wpAny_pyIter_enum hen ?_
    have Iv2 : Inv X pins σ H1 { s1 with heap := h' } := Iv1.kept (t' := s1.toks) hkp
    refine ⟨s1.heap.objs.size + 1, [s1.heap.objs.size + 1, s1.heap.objs.size], _, _, H1, rfl, Iv2, turn_enumS x t (s1.heap.objs.size + 1) s1.heap.objs.size, ⟨⟨.none, hen⟩, hit, Nat.succ_ne_self _⟩, fun b hb => ?_, qq⟩
    have hle2 : s1.heap.objs.size ≤ b := by
      have z : b = s1.heap.objs.size + 1 ∨ b = s1.heap.objs.size := by simpa using hb
      rcases z with z | z
      · rw [z]; exact Nat.le_succ _
      · rw [z]; exact Nat.le_refl _
    exact Iv1.fpOk hle2 (Iv1.hok.fresh hle2)
end Wk
/-! Rs: reversed(a text). -/
namespace Wk
open PySem PySem.Spec PyProof.Rows L2
theorem norevS : typeLookup (.type "str") "__reversed__" = pure none := by rw [typeLookup_type, builtinLookup_eq_fast]; kernel_rfl
theorem getS : typeLookup (.type "str") "__getitem__" = pure (some (.builtin "str.__getitem__")) := by rw [typeLookup_type, builtinLookup_eq_fast]; kernel_rfl
theorem subS : isSubtype (.type "str") (.type "dict") = pure false := by rw [isSubtype_type]; kernel_rfl
def rvObj (x : Str) (t : Tok) (i : Int) : Obj := { cls := .type "reversed", data := .fields #[.str x t, rawInt i] }
/-- reversed(x), the next place i -/
def IsRv (h : Heap) (a : Addr) (x : Str) (t : Tok) (i : Int) : Prop := ∃ ob, h.get? a = some ob ∧ ob.cls = .type "reversed" ∧ ob.data = .fields #[.str x t, rawInt i]
section
variable {prog : Program} {w : World} {A : Around} {E : Value → Shared → Prop} {s : Shared}
theorem IsRv.ty {a : Addr} {x : Str} {t : Tok} {i : Int} (q : IsRv s.heap a x t i) : s.TypeIs (.ref a) "reversed" := let ⟨ob, ho, hc, _⟩ := q; ⟨ob, ho, hc⟩
theorem code_rv {x : Str} {t : Tok} {Q₁ : Value → Shared → Prop} (hf : ¬ (x.length : Int) ≥ 2 ^ 63)
    (h : Q₁ (.ref s.heap.objs.size) { s with heap := s.heap.push (rvObj x t ((x.length : Int) - 1)), toks := s.toks + 1 + 1 }) :
    codeAny (model prog w) A (.call (.builtin "reversed.__new__") ⟨[.type "reversed", .str x t], []⟩) (wants Q₁ E) s := by
  have hS : s.TypeIs (.str x t) "str" := rfl
  refine codeAny_of_tree ?_
  show wpAny _ A.in1 (do checkBuiltinCall "reversed.__new__" ⟨[.type "reversed", .str x t], []⟩; again (.builtin "reversed.__new__" ⟨[.type "reversed", .str x t], []⟩)) _ _ s
  refine wpAny_bind (wpAny_of_eq (F.newCall_reversed_1 _) (wpAny_pure ⟨plainId_quiet F.plain_reversed_new _, codeAny_builtin F.entry_reversed_new ?_⟩))
  rw [Around.under_plainId F.plain_reversed_new _]
  unfold Builtin.«reversed.__new__»
  refine wpAny_bind (wpAny_of_eq (newClass_reversed _) ?_); try dsimp only
  refine wpAny_bind (wpAny_of_eq (a := ()) (by first | rfl | kernel_rfl) ?_); try dsimp only
  refine wpAny_bind (wpAny_of_eq (a := ()) (by first | rfl | kernel_rfl) ?_); try dsimp only
  refine wpAny_bind (wpAny_specialOf hS norevS ?_); try dsimp only
  refine wpAny_bind ?_
  wp_delta
  refine wpAny_bind (wpAny_isInstance (T := "str") (U := "dict") (b := false) hS subS ?_); try dsimp only
  try rw [if_neg Bool.false_ne_true]
  try dsimp only
  refine wpAny_bind (wpAny_specialOf hS getS ?_); try dsimp only
  try rw [if_pos (by decide +kernel)]
  refine wpAny_pure ?_; try dsimp only
  try rw [if_neg (by decide)]
  try dsimp only
  refine wpAny_bind (P.len_str hf ?_)
  refine wpAny_bind (wpAny_of_eq (a := some ((x.length : Nat) : Int)) rfl ?_); try dsimp only
  refine wpAny_bind ?_
  show wpAny _ _ (newObj (.type "reversed") (.fields #[.str x t, rawInt ((x.length : Int) - 1)])) _ _ _
  refine wpAny_newObj_type ?_
  exact wpAny_pure h
theorem call_rv {x : Str} {t : Tok} {Q : Value → Shared → Prop} (hf : ¬ (x.length : Int) ≥ 2 ^ 63)
    (h : Q (.ref s.heap.objs.size) { s with heap := s.heap.push (rvObj x t ((x.length : Int) - 1)), toks := s.toks + 1 + 1 }) : wpAny (model prog w) A (call (.type "reversed") [.str x t]) Q E s := by
  refine callType_codes (Q₁ := fun obj s₁ => s₁.TypeIs obj "reversed" ∧ Q obj s₁) RT.called_rt (F.typeCall_reversed_1 _) F.entry_object_init
    (code_rv (A := A.in1) hf ⟨⟨_, Heap.get?_push_size _ rfl, rfl⟩, h⟩) fun obj s₁ h₁ => ?_
  exact ⟨h₁.1, F.args_object_init_2 obj _, object_init_meets RT.called_rt.init.lookup RT.called_rt.made (by decide) prog w A.in1 _ s₁ ⟨h₁.1, rfl, h₁.2⟩⟩
theorem next_rv {iw : Addr} {x : Str} {t : Tok} {i c : Nat} {Q : Option Value → Shared → Prop} (hR : IsRv s.heap iw x t (i : Int)) (hx : x.cps[i]? = some c) (hz : x.length ≤ sizeLine)
    (hQ : ∀ h' u tk, IsRv h' iw x t ((i : Int) - 1) → Heap.SameBut iw s.heap h' → Q (some (.str ⟨#[c]⟩ u)) { s with heap := h', toks := tk }) : wpAny (model prog w) A (pyNext (.ref iw)) Q E s := by
  obtain ⟨ob, ho, hc, hd⟩ := id hR
  have hi : i < x.cps.size := (Array.getElem?_eq_some_iff.mp hx).1
  have hi2 : i < x.length := hi
  have hS : s.TypeIs (.str x t) "str" := rfl
  rw [sizeLine_eq] at hz
  unfold pyNext
  refine wpAny_bind (wpAny_attempt (wpAny_callSpecial?_slot (name := Str.ofString "__next__") hR.ty RT.slot_rt_next (wpAny_call_entry RT.slot_rt_next hR.ty RT.entry_rt_next ?_ (RT.args_rt_next _))))
  unfold Builtin.«reversed.__next__»
  refine wpAny_bind (wpAny_of_eq (a := (Value.ref iw, [])) rfl ?_); try dsimp only
  refine wpAny_bind (wpAny_field ho hd (x := .str x t) rfl ?_); try dsimp only
  refine wpAny_bind (wpAny_field ho hd (x := rawInt (i : Int)) rfl ?_)
  show wpAny _ _ (if (i : Int) < 0 then _ else _) _ _ s
  rw [if_neg (by omega)]
  try dsimp only
  refine wpAny_bind (wpAny_specialOf hS getS ?_); try dsimp only
  try rw [if_neg (by decide)]
  try dsimp only
  refine wpAny_bind (wpAny_mkInt ?_)
  refine wpAny_bind (wpAny_attempt ?_)
  have fin : seqIndex? (i : Int) x.length = some i := seqIndex_of (by omega) (by omega)
  refine P.getItem_str (s := { s with toks := s.toks + 1 }) (c := c) (by rw [decide_eq_false (by omega), decide_eq_false (by omega)]; rfl) (by rw [fin]; exact hx) ?_
  try dsimp only
  refine wpAny_bind (wpAny_field (s := { s with toks := s.toks + 1 + 1 }) ho hd (x := rawInt (i : Int)) rfl ?_); try dsimp only
  refine wpAny_bind (wpAny_setField (s := { s with toks := s.toks + 1 + 1 }) ho hd (by simp) ?_)
  have fn : IsRv (s.heap.update iw (Obj.mapFields (·.setIfInBounds 1 (rawInt ((i : Int) - 1))))) iw x t ((i : Int) - 1) :=
    ⟨_, Heap.get?_update_self _ ho (Obj.isFreed_of_fields (Obj.data_mapFields hd _)), (Obj.cls_mapFields ..).trans hc, by rw [Obj.data_mapFields hd]; simp⟩
  first
  | exact wpAny_pure ⟨_, rfl, wpAny_pure (hQ _ _ _ fn (Heap.SameBut.update ..))⟩
  | exact wpAny_bind (wpAny_pure (wpAny_pure ⟨_, rfl, wpAny_pure (hQ _ _ _ fn (Heap.SameBut.update ..))⟩))
theorem end_rv {iw : Addr} {x : Str} {t : Tok} {Q : Option Value → Shared → Prop} (hh : A.handled = none) (hR : IsRv s.heap iw x t (-1))
    (hQ : ∀ h', Heap.ExtBut iw s.heap h' → Q none { s with heap := h' }) : wpAny (model prog w) A (pyNext (.ref iw)) Q E s := by
  obtain ⟨ob, ho, hc, hd⟩ := id hR
  unfold pyNext
  refine wpAny_bind (wpAny_attempt (wpAny_callSpecial?_slot (name := Str.ofString "__next__") hR.ty RT.slot_rt_next (wpAny_call_entry RT.slot_rt_next hR.ty RT.entry_rt_next ?_ (RT.args_rt_next _))))
  unfold Builtin.«reversed.__next__»
  refine wpAny_bind (wpAny_of_eq (a := (Value.ref iw, [])) rfl ?_); try dsimp only
  refine wpAny_bind (wpAny_field ho hd (x := .str x t) rfl ?_); try dsimp only
  refine wpAny_bind (wpAny_field ho hd (x := rawInt (-1)) rfl ?_)
  show wpAny _ _ (if (-1 : Int) < 0 then _ else _) _ _ s
  rw [if_pos (by decide)]
  try dsimp only
  refine wpAny_bind (wpAny_rule ?_)
  refine wpAny_bind ?_
  wp_delta
  refine wpAny_bind (wpAny_setField ho hd (by simp) ?_)
  have ho2 := Heap.get?_update_self (Obj.mapFields (·.setIfInBounds 1 (rawInt (-1)))) ho (Obj.isFreed_of_fields (Obj.data_mapFields hd _))
  refine wpAny_setField (s := { s with heap := s.heap.update iw (Obj.mapFields (·.setIfInBounds 1 (rawInt (-1)))) }) ho2 (Obj.data_mapFields hd _) (by simp) ?_
  try dsimp only
  first
  | show wpAny _ _ (newExc (.type "StopIteration") [] >>= _) _ _ _
  | (refine wpAny_bind ?_; show wpAny _ _ (newExc (.type "StopIteration") [] >>= _) _ _ _)
  | (refine wpAny_bind ?_; wp_delta; show wpAny _ _ (newExc (.type "StopIteration") [] >>= _) _ _ _)
  refine wpAny_bind ?_
  simp only [newExc, newTuple]
  refine wpAny_bind (wpAny_newObj_type ?_ (by size_fits))
  refine wpAny_bind (m := firstArgMember _ _) (wpAny_of_eq (a := Value.none) (by first | rfl | (simp only [firstArgMember]; rfl)) ?_)
  refine wpAny_newObj_type ?_ (by size_fits)
  simp only [raiseNew]
  refine wpAny_bind (wpAny_handled ?_)
  first | rw [show A.in1.handled = none from hh] | rw [hh]
  refine wpAny_bind (wpAny_pure (wpAny_throw ?_))
  refine wpAny_bind (wpAny_isInstance (T := "StopIteration") (b := true) ⟨_, Heap.get?_push_size _ rfl, rfl⟩ isSubtype_stop ?_)
  refine wpAny_pure (hQ _ ?_)
  refine ((?_ : Heap.ExtBut iw s.heap _).push _).push _
  exact fun b o2 hb e => (Heap.get?_update_other _ _ (Ne.symm hb)).trans ((Heap.get?_update_other _ _ (Ne.symm hb)).trans e)
theorem iter_rv {iw : Addr} {x : Str} {t : Tok} {i : Int} {Q : Value → Shared → Prop} (hR : IsRv s.heap iw x t i) (h : Q (.ref iw) s) : wpAny (model prog w) A (pyIter (.ref iw)) Q E s := by
  refine wpAny_pyIter_slot hR.ty RT.slot_rt_iter (wpAny_call_entry RT.slot_rt_iter hR.ty RT.entry_rt_iter ?_ (RT.args_rt_iter _))
  show wpAny _ _ (ret (.ref iw)) _ _ s
  exact wpAny_pure ⟨_, rfl, "reversed", _, hR.ty, RT.slot_rt_next.lookup, h⟩
end
/-- the signs of a text from its end -/
def IrvS (x : Str) : It := ⟨fun i _ => i < x.cps.size, fun i H v H' => H' = H ∧ ∃ c, x.cps[x.cps.size - 1 - i]? = some c ∧ v = .str ⟨#[c]⟩, fun i _ => x.cps.size ≤ i⟩
theorem turn_rv {P : Program} {w : World} {K : PySem.W.Frag} {tg : Expr} (x : Str) (t : Tok) (hz : x.length ≤ sizeLine) (iw : Addr) : Turn P w K tg (IrvS x) [iw] iw (fun i h => i ≤ x.cps.size ∧ IsRv h iw x t ((x.cps.size : Int) - 1 - (i : Nat))) where
  mem := by simp
  obj := fun i h stt b hb => by
    have e : b = iw := by simpa using hb
    subst e
    obtain ⟨_, ob, e, c, d⟩ := stt
    exact ⟨ob, e, fun v z => by rw [d] at z; cases z⟩
  keep := fun i h h' stt k => let ⟨l, ob, ho, r⟩ := stt; ⟨l, ob, k iw (by simp) ob ho, r⟩
  item := by
    intro X hP hw hK hc i pins s σ H E Iv hff stt hg
    subst hP hw hK
    obtain ⟨f0, f1, f2, f3, f4, f5⟩ := hff iw (by simp)
    obtain ⟨_, hR⟩ := stt
    have hg : i < x.cps.size := hg
    have e1 : (x.cps.size : Int) - 1 - ((i : Nat) : Int) = ((x.cps.size - 1 - i : Nat) : Int) := by omega
    rw [e1] at hR
    have lt : x.cps.size - 1 - i < x.cps.size := by omega
    refine next_rv hR (c := x.cps[x.cps.size - 1 - i]) (Array.getElem?_eq_getElem lt) hz fun h' u tk st2 sb => ?_
    have e2 : ((x.cps.size - 1 - i : Nat) : Int) - 1 = (x.cps.size : Int) - 1 - ((i + 1 : Nat) : Int) := by omega
    rw [e2] at st2
    have Iv1 : Inv X pins σ H { s with heap := h', toks := tk } := Iv.turned (t' := tk) (fun b o2 hb e => (sb.2 b hb).trans e) f0 f1 f3 f4 f5
    obtain ⟨o2, e, c2, d⟩ := id st2
    exact ⟨_, rfl, go_of (s := { s with heap := h', toks := tk }) e c2 d (by decide) ⟨.str ⟨#[x.cps[x.cps.size - 1 - i]]⟩, H, Iv1, ⟨_, rfl⟩, ⟨rfl, _, Array.getElem?_eq_getElem lt, rfl⟩, ⟨hg, st2⟩, fun b hb => (hff b hb).1⟩⟩
  done := by
    intro X hP hw hK hc i pins s σ H E Iv hff stt hg
    subst hP hw hK
    obtain ⟨f0, f1, f2, f3, f4, f5⟩ := hff iw (by simp)
    obtain ⟨hin, hR⟩ := stt
    have hge : x.cps.size ≤ i := hg
    have e1 : (x.cps.size : Int) - 1 - ((i : Nat) : Int) = -1 := by omega
    rw [e1] at hR
    exact end_rv (Iv.ok.hd hc) hR fun h' eb => ⟨rfl, Iv.turned (t' := s.toks) (fun b o2 hb e => eb b o2 hb e) f0 f1 f3 f4 f5⟩
  self := fun A i s Q E stt h => iter_rv stt.2 h
def iRevS (ta : TA) : TI := fun σ H R => ta σ H fun vs H1 => ∃ x, vs = [.str x] ∧ x.length ≤ sizeLine ∧ R (IrvS x) H1
theorem pi_revS {X : Cx} {tg e : Expr} {ta : TA} {p pos : Pos} (hg : Gl X "reversed") (hm : X.mg "reversed" = none) (ha : PA X [e] ta) (hs : starEach [e] X.env = [(false, eval e X.env)] := by rfl) : PI X tg (.Call (.Name "reversed" p) [e] [] pos) (iRevS ta) := by
  refine ⟨fun pins s σ H R Iv h => ?_⟩
  refine Call_ (ld_blt Iv hg hm PyProof.Rows.boot_reversed (PyProof.Rows.callWith_type1 (thn (ha.run pos pins s σ H _ Iv h) fun us s1 ⟨vs, H1, Iv1, r1, q1⟩ => ?_) hs rfl))
  obtain ⟨x, ex, hz, qq⟩ := q1
  subst ex
  cases r1 with
  | cons r rr =>
    cases rr
    obtain ⟨t, rfl⟩ := r
    have hn := line63
    have hf : ¬ (x.length : Int) ≥ 2 ^ 63 := by omega
    refine call_rv hf (iter_rv (x := x) (t := t) (i := (x.length : Int) - 1) ⟨_, Heap.get?_push_size _ rfl, rfl, rfl⟩ ?_)
    have e1 : ((x.cps.size : Nat) : Int) - 1 - ((0 : Nat) : Int) = (x.length : Int) - 1 := by show (x.cps.size : Int) - 1 - 0 = (x.cps.size : Int) - 1; omega
    refine pi_one (tk := s1.toks + 1 + 1) Iv1 _ (turn_rv x t hz _) ⟨Nat.zero_le _, ?_⟩ qq
    rw [e1]
    exact ⟨_, Heap.get?_push_size _ rfl, rfl, rfl⟩
section
variable {F H : Hp} {x : Str}
theorem src_enumS {R : It → Hp → Prop} (f : Ex F H) (k : TWk (IteS x) F (pT2 pN pG) (enumT x.cps.toList) → R (IteS x) H) : ∃ y, [V.str x] = [V.str y] ∧ R (IteS y) H := by
  refine ⟨x, rfl, k ?_⟩
  refine TWk.pairs (G := fun _ => True) (X := fun i => some (.int (i : Nat))) (Y := fun i => (x.cps[i]?).map fun c => V.str ⟨#[c]⟩) ?_ (fun _ _ _ _ => trivial) ?_ ?_
  · rw [enumT_len, Str_len]
    refine ⟨fun i _ hi _ => hi, fun _ _ => Nat.le_refl _, fun i H v H' _ _ y => ?_⟩
    obtain ⟨T, c, h1, h2, h3, h4⟩ := y
    exact ⟨T, .int (i : Nat), _, h1, h2, h3, rfl, by show Option.map _ x.cps[i]? = _; rw [h4]; rfl⟩
  · intro i F' y _ hi hx
    rw [enumT_len] at hi
    rw [enumT_get, List.getElem?_eq_getElem hi]
    exact ⟨i, rfl, (Option.some.inj hx).symm⟩
  · intro i F' y _ hi hx
    rw [enumT_len] at hi
    have e : x.cps[i]? = some (x.cps.toList[i]) := by rw [← Array.getElem?_toList, List.getElem?_eq_getElem hi]
    have hx : (x.cps[i]?).map (fun c => V.str ⟨#[c]⟩) = some y := hx
    rw [e] at hx
    rw [enumT_get, List.getElem?_eq_getElem hi]
    exact ⟨x.cps.toList[i], rfl, (Option.some.inj hx).symm⟩
theorem src_revS {R : It → Hp → Prop} (f : Ex F H) (hz : x.length < 1000000) (k : TWk (IrvS x) F pG x.cps.toList.reverse → R (IrvS x) H) : ∃ y, [V.str x] = [V.str y] ∧ y.length ≤ sizeLine ∧ R (IrvS y) H := by
  refine ⟨x, rfl, Nat.le_of_lt (small_len hz), k ⟨fun _ => True, _, ⟨fun i _ hi _ => ?_, fun _ _ => ?_, fun i H v H' _ _ y => y⟩, fun _ _ _ _ => trivial, fun i H v H' F' hi h1 h2 hy => ?_⟩⟩
  · rw [List.length_reverse, Str_len] at hi; exact hi
  · rw [List.length_reverse, Str_len]; exact Nat.le_refl _
  · obtain ⟨rfl, c, hc, rfl⟩ := hy
    rw [List.length_reverse] at hi
    refine ⟨c, F', ?_, Wf.id h2, rfl⟩
    rw [List.getElem?_reverse hi]
    have e : x.cps.toList.length = x.cps.size := Array.length_toList
    rw [e, Array.getElem?_toList]; exact hc
end
end Wk
/-! Ms: a text times a number. -/
namespace Wk
open PySem PySem.Spec PyProof.Rows L2
def mulS (x : Str) (n : Nat) : Str := if n = 0 then Str.empty else if n = 1 ∨ x.length = 0 then x else ⟨(List.replicate n x.cps).foldl (· ++ ·) #[]⟩
def kMulS : R2 := fun x y H Q => ∃ (i : Str) (n : Nat), x = .str i ∧ y = .int (n : Int) ∧ n < 1000000 ∧ i.length * n < 1000000 ∧ Q (.str (mulS i n)) H
theorem fold_len (x : Array Nat) : ∀ (n : Nat) (acc : Array Nat), ((List.replicate n x).foldl (· ++ ·) acc).toList = acc.toList ++ (List.replicate n x.toList).flatten
  | 0, acc => by simp
  | n + 1, acc => by
    rw [List.replicate_succ, List.foldl_cons, fold_len x n, List.replicate_succ, List.flatten_cons, Array.toList_append, List.append_assoc]
theorem mulS_list (x : Str) (n : Nat) : (mulS x n).cps.toList = (List.replicate n x.cps.toList).flatten := by
  unfold mulS
  by_cases q : n = 0
  · rw [if_pos q, q]; rfl
  · rw [if_neg q]
    by_cases r : n = 1 ∨ x.length = 0
    · rw [if_pos r]
      rcases r with r | r
      · rw [r]; simp
      · have e : x.cps.toList = [] := List.eq_nil_of_length_eq_zero (by rw [Str_len]; exact r)
        rw [e]; simp
    · rw [if_neg r]
      show ((List.replicate n x.cps).foldl (· ++ ·) #[]).toList = _
      rw [fold_len]; rfl
theorem op_mulSn {X : Cx} : OpR X (binaryOp .Mult) kMulS := by
  intro pins s σ H x y v u Q I rx ry h
  obtain ⟨i, n, rfl, rfl, hn, hz, q⟩ := h
  obtain ⟨t, rfl⟩ := rx
  obtain ⟨t', rfl⟩ := ry
  have hl := line63
  have tl : PySem.Builtin.Str.tooLong (i.length * n) = false := by
    unfold PySem.Builtin.Str.tooLong; exact decide_eq_false (by have := small_len hz; omega)
  refine P.mul_str (by rw [decide_eq_false (by omega), decide_eq_false (by omega)]; rfl) (fun h1 _ => ?_) (fun h1 _ => by rw [Int.toNat_natCast]; exact tl) ?_
  · have p : (0 : Int) < n := by omega
    rw [gt_iff_lt, Int.not_lt]
    refine (Int.le_ediv_iff_mul_le p).mpr ?_
    have : ((i.length * n : Nat) : Int) = (i.length : Int) * (n : Int) := by push_cast; rfl
    omega
  · unfold mulS at q
    by_cases c0 : n = 0
    · rw [if_pos c0] at q
      rw [if_pos (by omega)]
      exact ⟨by decide, ⟨.str Str.empty, H, I.tok _, ⟨_, rfl⟩, q⟩⟩
    · rw [if_neg c0] at q
      rw [if_neg (by omega)]
      by_cases c1 : n = 1 ∨ i.length = 0
      · rw [if_pos c1] at q
        rw [if_pos (by rcases c1 with c | c <;> simp [c])]
        exact ⟨.str i, H, I, ⟨_, rfl⟩, q⟩
      · rw [if_neg c1] at q
        rw [if_neg (by
          intro z
          rcases Bool.or_eq_true_iff.mp z with z | z
          · exact c1 (.inl (by have := beq_iff_eq.mp z; omega))
          · exact c1 (.inr (beq_iff_eq.mp z))), Int.toNat_natCast]
        refine ⟨?_, ⟨.str ⟨(List.replicate n i.cps).foldl (· ++ ·) #[]⟩, H, I.tok _, ⟨_, rfl⟩, q⟩⟩
        have e := congrArg List.length (fold_len i.cps n #[])
        rw [Array.length_toList, List.length_append, List.length_flatten, List.map_replicate, List.sum_replicate_nat] at e
        refine Nat.le_of_lt (small_len ?_)
        show ((List.replicate n i.cps).foldl (· ++ ·) #[]).size < 1000000
        rw [e]
        show 0 + n * i.cps.toList.length < 1000000
        rw [Str_len, Nat.mul_comm]; omega
section
variable {F H : Hp} {x : Str} {n : Nat} {σ : L2.St} {ta tb : TE}
theorem v_mulS (ha : Val ta σ H (.str x)) (hb : Val tb σ H (.int (n : Int))) (h : n < 1000000 ∧ x.length * n < 1000000) : Val (tOp kMulS ta tb) σ H (.str (mulS x n)) :=
  v2 ha hb fun Q k => ⟨x, n, rfl, rfl, h.1, h.2, k⟩
end
/-- isinstance of the exception that is held and a class of the language's own -/
def tIsET (K : PySem.W.Frag) (i : Nat) (cls : Value) (d : Option Addr) (a : Addr) (T : String) : TE := fun σ H Q => ∃ (D : Addr) (b : Bool), cls = .ref D ∧ d = none ∧ ExcC K D ∧ PySem.W.kitOne K (.ref D) (.type T) = some b ∧ σ[i]? = some (some (.ref a)) ∧ Q (.bl b) H
theorem pe_isET {X : Cx} {a : Addr} {T : String} {oe : Obj} {cls : Value} {d : Option Addr} {pn : List (Addr × Obj)} {i : Nat} {x c : Str} {pf px pc pos : Pos} (hz : Zc cls d oe) (hf : ∃ vs, oe.data = .fields vs) (hg : Gl X "isinstance") (hm : X.mg "isinstance" = none)
    (hx : PE (X.suite a ((a, oe) :: pn)) (.Name x px) (tVar i)) (hcl : PE (X.suite a ((a, oe) :: pn)) (.Name c pc) (tC (.ty T)))
    (he : starEach [.Name x px, .Name c pc] X.env = (false, eval (.Name x px) X.env) :: starEach [.Name c pc] X.env := by rfl) (he2 : starEach [.Name c pc] X.env = (false, eval (.Name c pc) X.env) :: starEach [] X.env := by rfl)
    (hpl : (backTo pos (starEach [.Name c pc] X.env)).any (·.1) = false := by rfl) :
    PE (X.suite a ((a, oe) :: pn)) (.Call (.Name "isinstance" pf) [.Name x px, .Name c pc] [] pos) (tIsET X.K i cls d a T) := by
  refine ⟨fun pins s σ H Q I h => ?_⟩
  obtain ⟨D, b, rfl, rfl, hC, hk, hs, q⟩ := h
  have ha : PA (X.suite a ((a, oe) :: pn)) [.Name x px, .Name c pc] (tCons (tVar i) (tCons (tC (.ty T)) tNil)) := pa_cons hx (pa_cons hcl pa_nil)
  exact (pe_callB (X := X.suite a ((a, oe) :: pn)) (call_isE (X := X) (pn := pn) hC hz hf) hg hm PyProof.Rows.boot_isinstance ha (by decide) (by decide) he hpl).run pins s σ H Q I
    ⟨_, hs, _, _, b, rfl, fun u ru => (show u = Value.type T from ru), hk, q⟩
theorem kit_ty {K : PySem.W.Frag} {S : Addr} {T : String} {b : Bool} (hT : PySem.W.kitMeta T = true) (h : PySem.W.subIn K (.ref S) (.type T) = some b) : PySem.W.kitOne K (.ref S) (.type T) = some b := by
  show (if ((Value.ref S == Value.type T) = true) then some true else (if PySem.W.kitMeta T = true then PySem.W.subIn K (.ref S) (.type T) else none)) = some b
  rw [if_neg (by intro z; cases beq_iff_eq.mp z), if_pos hT]; exact h
end Wk
namespace My
open PySem L2 Wk
def topS (i : Nat) : Stmt := PySem.Challenge.pw_sumwires_k03_rows_of_signs.main.body.getD i (.Pass ⟨0, 0, 0, 0⟩)
structure Cz where
  BadMask : Addr
  BadRow : Addr
  BadTable : Addr
  WireError : Addr
  BadName : Addr
structure Tz (K : PySem.W.Frag) (mg : Str → Option Value) (cc : Cz) : Prop where
  xc_BadMask : XC K mg "BadMask" cc.BadMask
  xc_BadRow : XC K mg "BadRow" cc.BadRow
  xc_BadTable : XC K mg "BadTable" cc.BadTable
  xc_WireError : XC K mg "WireError" cc.WireError
  xc_BadName : XF K mg "BadName" cc.BadName "name"
  xw : ClX.CRead K cc.WireError (.type "type")
  xwv : PySem.W.findCls K (.ref cc.WireError) (.type "type") "__init__" = some (.val (.builtin "ValueError.__init__"))
  gl_MOST_SIGNS : ∃ u, mg "MOST_SIGNS" = some u ∧ RelV (.int 64) u
  xe_BadRow : ExcC K cc.BadRow
  xt_BadRow_ValueError : PySem.W.kitOne K (.ref cc.BadRow) (.type "ValueError") = some true
  xi_BadRow_BadMask : PySem.W.kitOne K (.ref cc.BadRow) (.ref cc.BadMask) = some false
  xi_BadRow_BadName : PySem.W.kitOne K (.ref cc.BadRow) (.ref cc.BadName) = some false
  xi_BadRow_BadTable : PySem.W.kitOne K (.ref cc.BadRow) (.ref cc.BadTable) = some false
  xi_BadRow_WireError : PySem.W.kitOne K (.ref cc.BadRow) (.ref cc.WireError) = some true
  xm_BadRow_BadRow : PySem.W.exmOne K (.ref cc.BadRow) (.ref cc.BadRow) = some true
abbrev s_BadName___init__ : Stmt := inClass (topS 5) 0
/-! BadName.__init__ -/
abbrev N_BadName___init__ : List Str := ["self", "name"]
theorem sc_BadName___init__ : FnScope N_BadName___init__ ["self", "name"] (defScope s_BadName___init__) := ⟨rfl, rfl, rfl, by decide +kernel, rfl, by decide +kernel, by decide +kernel⟩
theorem ok_BadName___init__ {P : Program} {w0 : World} {K : PySem.W.Frag} {mg : Str → Option Value} {base : Heap} {f : Addr} {fd : FuncData} {cc : Cz} (T : Tz K mg cc) (FU : Fun K "__init__" "BadName.__init__" s_BadName___init__ f fd) (hm : PySem.W.findIn K (.ref cc.BadName) "__init__" = some (some (.ref f)) ∧ PySem.W.typeIn K (.ref f) = some (.type "function")) (hb : Binds K fd ["self", "name"] []) : Xi P w0 K mg base CX0 2 cc.BadName ["self", "name"] (sp_xi "name" cc.BadName) := by
  refine ⟨f, fd, FU.ok sc_BadName___init__ (fun vs H Q E h => ?_) (fun cdv A outer s H0 vs Q E hr h => ?_), hm, hb⟩
  · obtain ⟨ob, v, rfl, _⟩ := h; rfl
  · obtain ⟨ob, v, rfl, ho, hQ⟩ := h
    have nd := sc_BadName___init__.nd
    have wf : Ex H0 H0 := Ex.rfl'
    refine ⟨(tSeq (tDrop (tWeI K cc.WireError (tC (.ref cc.WireError)) (tCons (tVar 0) (tCons (tC (.str (PySem.Str.ofString "no name"))) tNil)))) (tOst K "name" (tVar 0) (tVar 1))), (pss_cons (ps_expr (pe_weinit T.xw T.xwv (pe_glob (by rfl) T.xc_WireError.g rfl) (pa_cons (pv 0) (pa_cons pe_str pa_nil)))) (pss_one (ps_ost (pv 0) (pv 1)))), ?_⟩
    exact x_init (m := (PySem.Str.ofString "no name")) T.xc_BadName.ox T.xc_BadName.no rfl rfl ho val_c hQ
abbrev s_text_of : Stmt := topS 8
/-! text_of -/
def W_text_of (mask1 : Nat) (width1 : Nat) (R : Str → Prop) : Prop := (width1 < 1000000) ∧ compW (List.range width1) (fun place1 kk => (((mask1 >>> place1) &&& 1).log2 < 1920) ∧ kk (some (strN ((mask1 >>> place1) &&& 1)))) fun ys1 => ((ys1.map (·.length)).sum + ys1.length * (PySem.Str.ofString "").length ≤ 16777216) ∧ R (Txt.join (PySem.Str.ofString "") ys1)
def sp_text_of (K : PySem.W.Frag) (cc : Cz) : Sp := fun vs H Q _ => ∃ (F : Hp) (mask1 : Nat) (width1 : Nat) (R : Str → Prop), vs = [(.int ((mask1 : Nat) : Int)), (.int ((width1 : Nat) : Int))] ∧ Ex F H ∧ W_text_of mask1 width1 R ∧ ∀ z, R z → ∀ F' H', Wf F H F' H' → Q (.str (z)) H'
abbrev N_text_of : List Str := ["mask", "width", "place"]
theorem sc_text_of : FnScope N_text_of ["mask", "width"] (defScope s_text_of) := ⟨rfl, rfl, rfl, by decide +kernel, rfl, by decide +kernel, by decide +kernel⟩
theorem ok_text_of {P : Program} {w0 : World} {K : PySem.W.Frag} {mg : Str → Option Value} {base : Heap} {f : Addr} {fd : FuncData} {cc : Cz} (T : Tz K mg cc) (FU : Fun K "text_of" "text_of" s_text_of f fd) (hm : mg "text_of" = some (.ref f)) (hb : Binds K fd ["mask", "width"] []) (n_range : mg "range" = none) (n_str : mg "str" = none) : Fn P w0 K mg base CX0 1 "text_of" ["mask", "width"] (sp_text_of K cc) := by
  refine ⟨f, fd, FU.ok sc_text_of (fun vs H Q E h => ?_) (fun cdv A outer s H0 vs Q E hr h => ?_), hm, FU.kp, hb⟩
  · obtain ⟨_, _, _, _, rfl, _⟩ := h; rfl
  · obtain ⟨F0, mask1, width1, R, rfl, wf, hW, hQ⟩ := h
    have nd := sc_text_of.nd
    refine ⟨(tRet (tM1 (rJoin K) (tC (.str (PySem.Str.ofString ""))) (tLc (iRng1 (tCons (tVar 1) tNil)) (gName 2) tYes (tCB rStrI (tCons (tOp kAnd (tOp kShr (tVar 0) (tVar 2)) (tC (.int 1))) tNil)) [2]))), (pss_one (ps_ret (pe_join pe_str (pe_lc (own := [("place", 2)]) (wi := (iRng1 (tCons (tVar 1) tNil))) (g := (gName 2)) (tt := tYes) (te := (tCB rStrI (tCons (tOp kAnd (tOp kShr (tVar 0) (tVar 2)) (tC (.int 1))) tNil))) rfl nd (pi_range1 rfl n_range (pa_cons (pv 1) pa_nil)) (blkOk_by (N := N_text_of) (sc := defScope s_text_of) (by decide +kernel)) (fun _ _ _ _ _ => (pg_name (i := 2) nd rfl (Or.inl rfl))) (fun _ _ _ _ _ => pts_nil) (fun _ _ _ _ _ => (pe_callTy call_str_int (by rfl) n_str PyProof.Rows.boot_str (pa_cons (pe_op op_and (pe_op op_shr (pv 0) (pv 2)) pe_int) pa_nil))))))), ?_⟩
    have w := Wf.id wf
    refine a_retE ?_
    refine e_m1 ?_
    refine e_val (v := (.str ((PySem.Str.ofString "")))) val_c ?_
    refine ⟨⟨_, rfl⟩, ?_⟩
    refine c_RE ?_
    refine e_val (v := (.int ((width1 : Nat) : Int))) (val_var rfl) ?_
    obtain ⟨c1, hW⟩ := hW
    refine w_compR (e := pS) w c1 hW ?_ ?_
    · intro Qy Qn place1 F1 H1 R1 q1 hx1 hW hy1 hn1
      have w := Wf.id q1.f
      refine ⟨rfl, ?_⟩
      refine c_yes ?_
      refine e_cb ?_
      refine a_val (v := (.int (((mask1 >>> place1) &&& 1 : Nat) : Int))) (vn_and (vn_shr (val_var rfl) (val_var rfl)) val_c) ?_
      refine a_nil ?_
      obtain ⟨c2, hW⟩ := hW
      refine rcb1 (z := .str (strN ((mask1 >>> place1) &&& 1))) (vn_str c2 val_c) ?_
      exact hy1 _ _ _ _ w rfl hW
    intro p1 ys1 F2 H2 hp1 s1 x1 hW
    replace w := w.tr s1
    obtain ⟨c3, hW⟩ := hW
    refine n_joinX x1 c3 ?_
    exact hQ _ hW _ _ w
abbrev s_mask_in : Stmt := topS 9
/-! mask_in -/
def W_mask_in (text1 : An) (E_BadRow : Prop) (R : (Nat × Nat) → Prop) : Prop := jn (fun kk => if ¬ ((isA "str" text1) = true) then (kk true) else (∃ ys1 : Str, text1 = An.s ys1 ∧ ((ys1).length < 1000000) ∧ kk (decide (64 < ((ys1).length))))) fun b1 => if b1 = true then (E_BadRow) else (∃ ys2 : Str, text1 = An.s ys2 ∧ forW (enumT ys2.cps.toList) 0 (fun it1 mask1 nx1 bk1 => if ¬ (it1.2 ∈ (PySem.Str.ofString "01").cps.toList) then (E_BadRow) else (if (sg it1.2) = (PySem.Str.ofString "1") then ((it1.1 < 100000000) ∧ ∀ mask2 : Nat, mask2 = mask1 ||| (2 ^ it1.1) → nx1 mask2) else (nx1 mask1))) fun mask1 => ((ys2).length < 1000000) ∧ R (mask1, (ys2).length))
def sp_mask_in (K : PySem.W.Frag) (cc : Cz) : Sp := fun vs H Q E => ∃ (F : Hp) (v1 : V) (text1 : An) (E_BadRow : Prop) (R : (Nat × Nat) → Prop), vs = [v1] ∧ Ex F H ∧ pA.r F v1 text1 ∧ W_mask_in text1 E_BadRow R ∧ (E_BadRow → ∀ F' H', Wf F H F' H' → E (.ref cc.BadRow) none H') ∧ ∀ z, R z → ∀ v F' H', Wf F H F' H' → (pT2 pN pN).r F' v z → Q v H'
abbrev N_mask_in : List Str := ["text", "mask", "place", "sign"]
theorem sc_mask_in : FnScope N_mask_in ["text"] (defScope s_mask_in) := ⟨rfl, rfl, rfl, by decide +kernel, rfl, by decide +kernel, by decide +kernel⟩
theorem ok_mask_in {P : Program} {w0 : World} {K : PySem.W.Frag} {mg : Str → Option Value} {base : Heap} {f : Addr} {fd : FuncData} {cc : Cz} (T : Tz K mg cc) (FU : Fun K "mask_in" "mask_in" s_mask_in f fd) (hm : mg "mask_in" = some (.ref f)) (hb : Binds K fd ["text"] []) (n_enumerate : mg "enumerate" = none) (n_isinstance : mg "isinstance" = none) (n_len : mg "len" = none) (n_str : mg "str" = none) : Fn P w0 K mg base (L2.CX P w0) 1 "mask_in" ["text"] (sp_mask_in K cc) := by
  refine ⟨f, fd, FU.okX sc_mask_in (fun vs H Q E h => ?_) (fun cdv A outer s H0 vs Q E hr h => ?_), hm, FU.kp, hb⟩
  · obtain ⟨_, _, _, _, _, rfl, _⟩ := h; rfl
  · obtain ⟨F0, v1, text1, E_BadRow, R, rfl, wf, r1, hW, hE_BadRow, hQ⟩ := h
    have nd := sc_mask_in.nd
    refine ⟨(tSeq (tIfS (tOr (tNot (tB (tCB (rIsi K) (tCons (tVar 0) (tCons (tC (.ty "str")) tNil))))) (tTest (tOp kGt (tCB rLenS (tCons (tVar 0) tNil)) (tC (.int 64))))) (tRaise (fun cls d _ H => E cls d H) cc.BadRow) tNext) (tSeq (tAsg (tC (.int 0)) (gName 1)) (tSeq (tFor (iEnumS (tCons (tVar 0) tNil)) (gTup K 2 (gCons (gName 2) (gCons (gName 3) gNil))) (tSeq (tIfS (tTest (tOp kNotInS (tVar 3) (tC (.str (PySem.Str.ofString "01"))))) (tRaise (fun cls d _ H => E cls d H) cc.BadRow) tNext) (tIfS (tTest (tOp L2.rEq (tVar 3) (tC (.str (PySem.Str.ofString "1"))))) (tAug 1 (tOp kShl (tC (.int 1)) (tVar 2)) kOr) tNext))) (tRet (tTup (tCons (tVar 1) (tCons (tCB rLenS (tCons (tVar 0) tNil)) tNil))))))), (pss_cons (ps_if (PW.pt (pw_or (pt_not (pt_val (pe_callB call_isi (by rfl) n_isinstance PyProof.Rows.boot_isinstance (pa_cons (pv 0) (pa_cons (pe_bltn (v := .ty "str") (by rfl) n_str PyProof.Rows.boot_str rfl) pa_nil))))) (pw_or1 (pt_cmpR op_gt (pe_callB call_len_str (by rfl) n_len PySem.boot_len (pa_cons (pv 0) pa_nil)) (pe_globE T.gl_MOST_SIGNS rfl) (nomark _))))) (pss_one (ps_raise (W := (fun cls d _ H => E cls d H)) rfl (takes_of rfl rfl rfl rfl) (pmk_own PySem.F.excBase_ValueError T.xc_BadRow.x T.xc_BadRow.g T.xc_BadRow.k (raises_own T.xc_BadRow.b T.xc_BadRow.t) (by exact rfl)))) pss_nil) (pss_cons (ps_set (i := 1) nd rfl (Or.inl rfl) pe_int) (pss_cons (ps_for (passes_of rfl) rfl (pi_enumS (by rfl) n_enumerate (pa_cons (pv 0) pa_nil)) (pg_tup rfl (pgs_cons (pg_name (i := 2) nd rfl (Or.inl rfl)) (pgs_cons (pg_name (i := 3) nd rfl (Or.inl rfl)) pgs_nil)) (by rfl)) (pss_cons (ps_if (pt_cmpR op_notInSg (pv 3) pe_str rfl) (pss_one (ps_raise (W := (fun cls d _ H => E cls d H)) rfl (takes_of rfl rfl rfl rfl) (pmk_own PySem.F.excBase_ValueError T.xc_BadRow.x T.xc_BadRow.g T.xc_BadRow.k (raises_own T.xc_BadRow.b T.xc_BadRow.t) (by exact rfl)))) pss_nil) (pss_one (ps_if (pt_cmpR op_eq (pv 3) pe_str (nomark _)) (pss_one (ps_aug (i := 1) nd rfl (Or.inl rfl) (pe_op op_shlW pe_int (pv 2)) iop_or)) pss_nil)))) (pss_one (ps_ret (pe_tup (pa_cons (pv 1) (pa_cons (pe_callB call_len_str (by rfl) n_len PySem.boot_len (pa_cons (pv 0) pa_nil)) pa_nil)))))))), ?_⟩
    have w := Wf.id wf
    refine q_sq fun N1 hN1 => ?_
    refine a_ifE ?_
    refine e_jnT hW (fun b F' H' => b = b ∧ Wf F0 H0 F' H' ∧ Ex F0 F') ?_ ?_
    · intro N2 hN2 hW
      have gx1 : Ex F0 F0 := Ex.rfl'
      refine e_tOr ?_
      refine e_ans (b := decide (¬ ((isA "str" text1) = true))) (t_not (t_ofB (vb_of (v_isiA "str" (val_var rfl) r1 w.f) dec_tt))) ?_
      refine b_if (fun hc1 => ?_) (fun hc1 => ?_)
      · have hW := ifP hW hc1
        exact hN2 true _ _ ⟨rfl, w, gx1⟩ hW
      · have hW := ifN hW hc1
        obtain ⟨ys1, hy1, hW⟩ := hW
        obtain rfl : v1 = .str ys1 := an_str r1 hy1
        obtain ⟨c1, hW⟩ := hW
        refine e_ans (b := decide (64 < ((ys1).length))) (t_of (vb_dec (c_gt (len_Str c1 (val_var rfl)) val_c) n_lt)) ?_
        exact hN2 (decide (64 < ((ys1).length))) _ _ ⟨rfl, w, gx1⟩ hW
    intro b1 F1 H1 hI1 hW
    obtain ⟨_, w, gx2⟩ := hI1
    have r1 := Rep.mono _ gx2 r1
    refine bb_if (fun hc2 => ?_) (fun hc2 => ?_)
    · have hW := ifP hW hc2
      refine a_raise ?_
      exact hE_BadRow hW _ _ w
    · have hW := ifN hW hc2
      refine hN1 _ _ ?_
      refine q_sq fun N3 hN3 => ?_
      refine a_asg (v := (.int ((0 : Nat) : Int))) val_c ?_
      refine hN3 _ _ ?_
      refine q_sq fun N4 hN4 => ?_
      obtain ⟨ys2, hy2, hW⟩ := hW
      obtain rfl : v1 = .str ys2 := an_str r1 hy2
      refine f_J ?_
      refine a_val (v := (.str (ys2))) (val_var rfl) ?_
      refine a_nil ?_
      refine src_enumS (F := F1) w.f (fun T1 => ?_)
      refine w_forG (S := Nat) T1 (fun mask1 σ' F' H' => ∃ (o1 : Option V) (o2 : Option V), Wf F0 H0 F' H' ∧ Ex F1 F' ∧ σ' = [some (.str (ys2)), some (.int ((mask1 : Nat) : Int)), o1, o2]) hW ⟨_, _, w, Ex.rfl', rfl⟩ (fun s σ' F' H' hI => by obtain ⟨_, _, w', gx', _⟩ := hI; exact ⟨gx', w'.f⟩) w.f ?_ ?_
      · intro N5 Bk1 it1 u1 mask1 σ' F2 H2 F3 H3 nx1 bk1 hI2 hx1 s2 ru1 hW hN5 hB1
        obtain ⟨o1, o2, w, gx3, rfl⟩ := hI2
        replace w := w.tr s2
        replace gx3 := Ex.tr gx3 s2.g
        obtain ⟨p1, u2, u3, rfl, h1, rfl, rfl⟩ := ru1
        refine ⟨p1, _, rfl, SqT.of (w.f _ _ h1), rfl, _, _, rfl, _, _, rfl, rfl, ?_⟩
        refine q_sq fun N6 hN6 => ?_
        refine a_ifE ?_
        refine e_ans (b := decide (¬ (it1.2 ∈ (PySem.Str.ofString "01").cps.toList))) (t_iff (p := ¬ it1.2 ∈ (PySem.Str.ofString "01").cps.toList) (q := ¬ (it1.2 ∈ (PySem.Str.ofString "01").cps.toList)) (t_of (v_notInS (val_var rfl) val_c)) (by simp)) ?_
        refine b_if (fun hc3 => ?_) (fun hc3 => ?_)
        · have hW := ifP hW hc3
          refine a_raise ?_
          exact hE_BadRow hW _ _ w
        · have hW := ifN hW hc3
          refine hN6 _ _ ?_
          refine a_ifE ?_
          refine e_ans (b := decide ((sg it1.2) = (PySem.Str.ofString "1"))) (t_of (c_eqS (val_var rfl) val_c)) ?_
          refine b_if (fun hc4 => ?_) (fun hc4 => ?_)
          · have hW := ifP hW hc4
            obtain ⟨c2, hW⟩ := hW
            obtain ⟨mask2, emask1⟩ : ∃ mask2 : Nat, mask2 = mask1 ||| (2 ^ it1.1) := ⟨_, rfl⟩
            replace hW := hW mask2 emask1
            refine a_augV (x := (.int ((mask1 : Nat) : Int))) (y := (.int ((2 ^ it1.1 : Nat) : Int))) (z := (.int ((mask2 : Nat) : Int))) rfl (vn_one val_c (val_var rfl) c2) (v_eq (vn_or val_c val_c) (by rw [emask1])) ?_
            exact hN5 mask2 _ _ _ ⟨_, _, w, gx3, rfl⟩ hW
          · have hW := ifN hW hc4
            exact hN5 mask1 _ _ _ ⟨_, _, w, gx3, rfl⟩ hW
      · intro mask1 σ' F4 H4 hI3 hW
        obtain ⟨o1, o2, w, gx4, rfl⟩ := hI3
        refine hN4 _ _ ?_
        refine a_retE ?_
        refine e_tup ?_
        refine a_val (v := (.int ((mask1 : Nat) : Int))) (val_var rfl) ?_
        obtain ⟨c3, hW⟩ := hW
        refine a_val (v := (.int (((ys2).length : Nat) : Int))) (len_Str c3 (val_var rfl)) ?_
        refine a_nil ?_
        refine n_tup2 (e := pN) (f := pN) (x := mask1) (y := (ys2).length) rfl rfl w ?_
        intro p2 F5 H5 s4 r2
        replace w := w.tr s4
        replace gx4 := Ex.tr gx4 s4.g
        exact hQ _ hW _ _ _ w r2
abbrev s_words_of : Stmt := topS 10
/-! words_of -/
def W_words_of (row1 : Str) (R : (List Str) → Prop) : Prop := (row1.length + 2 < 1000000) ∧ R (Txt.split row1 (PySem.Str.ofString " "))
def sp_words_of (K : PySem.W.Frag) (cc : Cz) : Sp := fun vs H Q _ => ∃ (F : Hp) (row1 : Str) (R : (List Str) → Prop), vs = [(.str (row1))] ∧ Ex F H ∧ W_words_of row1 R ∧ ∀ z, R z → ∀ p F' H', Wf F H F' H' → XL pS H F' H' p z → Q (.ref p) H'
abbrev N_words_of : List Str := ["row"]
theorem sc_words_of : FnScope N_words_of ["row"] (defScope s_words_of) := ⟨rfl, rfl, rfl, by decide +kernel, rfl, by decide +kernel, by decide +kernel⟩
theorem ok_words_of {P : Program} {w0 : World} {K : PySem.W.Frag} {mg : Str → Option Value} {base : Heap} {f : Addr} {fd : FuncData} {cc : Cz} (T : Tz K mg cc) (FU : Fun K "words_of" "words_of" s_words_of f fd) (hm : mg "words_of" = some (.ref f)) (hb : Binds K fd ["row"] []) : Fn P w0 K mg base CX0 1 "words_of" ["row"] (sp_words_of K cc) := by
  refine ⟨f, fd, FU.ok sc_words_of (fun vs H Q E h => ?_) (fun cdv A outer s H0 vs Q E hr h => ?_), hm, FU.kp, hb⟩
  · obtain ⟨_, _, _, rfl, _⟩ := h; rfl
  · obtain ⟨F0, row1, R, rfl, wf, hW, hQ⟩ := h
    have nd := sc_words_of.nd
    refine ⟨(tRet (tM1 rSplit (tVar 0) (tC (.str (PySem.Str.ofString " "))))), (pss_one (ps_ret (pe_split (pv 0) pe_str))), ?_⟩
    have w := Wf.id wf
    refine a_retE ?_
    refine e_m1 ?_
    refine e_val (v := (.str (row1))) (val_var rfl) ?_
    refine ⟨⟨_, rfl⟩, ?_⟩
    refine e_val (v := (.str ((PySem.Str.ofString " ")))) val_c ?_
    obtain ⟨c1, hW⟩ := hW
    refine n_split (by decide +kernel) c1 w ?_
    intro p1 H1 hp1 s1 x1
    replace w := w.tr s1
    exact hQ _ hW _ _ _ w x1
abbrev s_cell : Stmt := topS 12
/-! _law_cell -/
def W_cell (script1 : List Int) (k1 : Nat) (R : Int → Prop) : Prop := if k1 < script1.length then (∃ x1, script1[k1]? = some x1 ∧ R x1) else (R (((41 * k1) + 3 : Nat) : Int))
def sp_cell (K : PySem.W.Frag) (cc : Cz) : Sp := fun vs H Q _ => ∃ (F : Hp) (v1 : V) (script1 : List Int) (k1 : Nat) (R : Int → Prop), vs = [v1, (.int ((k1 : Nat) : Int))] ∧ Ex F H ∧ (pScr K).r F v1 script1 ∧ W_cell script1 k1 R ∧ ∀ z, R z → ∀ F' H', Wf F H F' H' → Q (.int (z)) H'
abbrev N_cell : List Str := ["_law_script", "_law_k"]
theorem sc_cell : FnScope N_cell ["_law_script", "_law_k"] (defScope s_cell) := ⟨rfl, rfl, rfl, by decide +kernel, rfl, by decide +kernel, by decide +kernel⟩
theorem ok_cell {P : Program} {w0 : World} {K : PySem.W.Frag} {mg : Str → Option Value} {base : Heap} {f : Addr} {fd : FuncData} {cc : Cz} (T : Tz K mg cc) (FU : Fun K "_law_cell" "_law_cell" s_cell f fd) (hm : mg "_law_cell" = some (.ref f)) (hb : Binds K fd ["_law_script", "_law_k"] []) (n_len : mg "len" = none) : Fn P w0 K mg base CX0 1 "_law_cell" ["_law_script", "_law_k"] (sp_cell K cc) := by
  refine ⟨f, fd, FU.ok sc_cell (fun vs H Q E h => ?_) (fun cdv A outer s H0 vs Q E hr h => ?_), hm, FU.kp, hb⟩
  · obtain ⟨_, _, _, _, _, rfl, _⟩ := h; rfl
  · obtain ⟨F0, v1, script1, k1, R, rfl, wf, r1, hW, hQ⟩ := h
    have nd := sc_cell.nd
    refine ⟨(tSeq (tIfS (tTest (tOp kLt (tVar 1) (tCB (Wk.rLen K) (tCons (tVar 0) tNil)))) (tRet (tOp (L2.rIxL K) (tVar 0) (tVar 1))) tNext) (tRet (tOp kAdd (tOp kMul (tC (.int 41)) (tVar 1)) (tC (.int 3))))), (pss_cons (ps_if (pt_cmpR op_lt (pv 1) (pe_callB call_len_seq (by rfl) n_len PySem.boot_len (pa_cons (pv 0) pa_nil)) (nomark _)) (pss_one (ps_ret (pe_ix ix_list (pv 0) (pv 1) (fun _ _ => rfl)))) pss_nil) (pss_one (ps_ret (pe_op op_add (pe_op op_mul pe_int (pv 1)) pe_int)))), ?_⟩
    have w := Wf.id wf
    refine q_sq fun N1 hN1 => ?_
    refine a_ifE ?_
    refine e_ans (b := decide (k1 < script1.length)) (t_of (vb_dec (c_lt (val_var rfl) (len_S r1 w.f (val_var rfl))) n_lt)) ?_
    refine b_if (fun hc1 => ?_) (fun hc1 => ?_)
    · have hW := ifP hW hc1
      obtain ⟨x1, hx1_1, hW⟩ := hW
      have ix1 := ix_S (K := K) w.f r1 hx1_1
      refine a_ret (v := (.int (x1))) (ix1 (val_var rfl) (val_var rfl)) ?_
      exact hQ _ hW _ _ w
    · have hW := ifN hW hc1
      refine hN1 _ _ ?_
      refine a_ret (v := (.int ((((41 * k1) + 3 : Nat) : Int)))) (vn_add (vn_mul val_c (val_var rfl) (.inl (by decide))) val_c) ?_
      exact hQ _ hW _ _ w
abbrev s_mix : Stmt := topS 13
/-! _law_mix -/
def W_mix (cell_here1 : Int) (k1 : Nat) (R : Nat → Prop) : Prop := ∀ number1 : Nat, number1 = ((((modN cell_here1 2147483647) * 48271) + (7919 * k1)) + 11) % 2147483647 → (NMul number1 number1) ∧ ∀ number2 : Nat, number2 = (number1 * number1) % 2147483629 → (NMul number2 ((number2 + (48271 * k1)) + 7)) ∧ R ((number2 * ((number2 + (48271 * k1)) + 7)) % 2147483587)
def sp_mix (K : PySem.W.Frag) (cc : Cz) : Sp := fun vs H Q _ => ∃ (F : Hp) (cell_here1 : Int) (k1 : Nat) (R : Nat → Prop), vs = [(.int (cell_here1)), (.int ((k1 : Nat) : Int))] ∧ Ex F H ∧ W_mix cell_here1 k1 R ∧ ∀ z, R z → ∀ F' H', Wf F H F' H' → Q (.int ((z : Nat) : Int)) H'
abbrev N_mix : List Str := ["_law_cell_here", "_law_k", "_law_number"]
theorem sc_mix : FnScope N_mix ["_law_cell_here", "_law_k"] (defScope s_mix) := ⟨rfl, rfl, rfl, by decide +kernel, rfl, by decide +kernel, by decide +kernel⟩
theorem ok_mix {P : Program} {w0 : World} {K : PySem.W.Frag} {mg : Str → Option Value} {base : Heap} {f : Addr} {fd : FuncData} {cc : Cz} (T : Tz K mg cc) (FU : Fun K "_law_mix" "_law_mix" s_mix f fd) (hm : mg "_law_mix" = some (.ref f)) (hb : Binds K fd ["_law_cell_here", "_law_k"] []) : Fn P w0 K mg base CX0 1 "_law_mix" ["_law_cell_here", "_law_k"] (sp_mix K cc) := by
  refine ⟨f, fd, FU.ok sc_mix (fun vs H Q E h => ?_) (fun cdv A outer s H0 vs Q E hr h => ?_), hm, FU.kp, hb⟩
  · obtain ⟨_, _, _, _, rfl, _⟩ := h; rfl
  · obtain ⟨F0, cell_here1, k1, R, rfl, wf, hW, hQ⟩ := h
    have nd := sc_mix.nd
    refine ⟨(tSeq (tAsg (tOp kMod (tOp kAdd (tOp kAdd (tOp kMul (tOp kMod (tVar 0) (tC (.int 2147483647))) (tC (.int 48271))) (tOp kMul (tC (.int 7919)) (tVar 1))) (tC (.int 11))) (tC (.int 2147483647))) (gName 2)) (tSeq (tAsg (tOp kMod (tOp kMul (tVar 2) (tVar 2)) (tC (.int 2147483629))) (gName 2)) (tRet (tOp kMod (tOp kMul (tVar 2) (tOp kAdd (tOp kAdd (tVar 2) (tOp kMul (tC (.int 48271)) (tVar 1))) (tC (.int 7)))) (tC (.int 2147483587)))))), (pss_cons (ps_set (i := 2) nd rfl (Or.inl rfl) (pe_op op_mod (pe_op op_add (pe_op op_add (pe_op op_mul (pe_op op_mod (pv 0) pe_int) pe_int) (pe_op op_mul pe_int (pv 1))) pe_int) pe_int)) (pss_cons (ps_set (i := 2) nd rfl (Or.inl rfl) (pe_op op_mod (pe_op op_mul (pv 2) (pv 2)) pe_int)) (pss_one (ps_ret (pe_op op_mod (pe_op op_mul (pv 2) (pe_op op_add (pe_op op_add (pv 2) (pe_op op_mul pe_int (pv 1))) pe_int)) pe_int))))), ?_⟩
    have w := Wf.id wf
    refine q_sq fun N1 hN1 => ?_
    obtain ⟨number1, enumber1⟩ : ∃ number1 : Nat, number1 = ((((modN cell_here1 2147483647) * 48271) + (7919 * k1)) + 11) % 2147483647 := ⟨_, rfl⟩
    replace hW := hW number1 enumber1
    refine a_asg (v := (.int ((number1 : Nat) : Int))) (v_eq (vn_mod (vn_add (vn_add (vn_mul (vm_mod (val_var rfl) val_c (by decide)) val_c (.inr (by decide))) (vn_mul val_c (val_var rfl) (.inl (by decide)))) val_c) val_c (by decide)) (by rw [enumber1])) ?_
    refine hN1 _ _ ?_
    refine q_sq fun N2 hN2 => ?_
    obtain ⟨c1, hW⟩ := hW
    obtain ⟨number2, enumber2⟩ : ∃ number2 : Nat, number2 = (number1 * number1) % 2147483629 := ⟨_, rfl⟩
    replace hW := hW number2 enumber2
    refine a_asg (v := (.int ((number2 : Nat) : Int))) (v_eq (vn_mod (vn_mul (val_var rfl) (val_var rfl) c1) val_c (by decide)) (by rw [enumber2])) ?_
    refine hN2 _ _ ?_
    obtain ⟨c2, hW⟩ := hW
    refine a_ret (v := (.int (((number2 * ((number2 + (48271 * k1)) + 7)) % 2147483587 : Nat) : Int))) (vn_mod (vn_mul (val_var rfl) (vn_add (vn_add (val_var rfl) (vn_mul val_c (val_var rfl) (.inl (by decide)))) val_c) c2) val_c (by decide)) ?_
    exact hQ _ hW _ _ w
abbrev s_signs : Stmt := topS 14
/-! _law_signs -/
def W_signs  (R : Str → Prop) : Prop := ∀ some1 : Str, some1 = (PySem.Str.ofString " !\"#$&'()*+,-./0123456789:;<=>?@ABCDEFGHIJKLMNOPQRSTUVWXYZ[\\]^_`") → (some1.length + (PySem.Str.ofString "abcdefghijklmnopqrstuvwxyz{|}~\n").length < 1000000) ∧ R (some1 ++ (PySem.Str.ofString "abcdefghijklmnopqrstuvwxyz{|}~\n"))
def sp_signs (K : PySem.W.Frag) (cc : Cz) : Sp := fun vs H Q _ => ∃ (F : Hp)  (R : Str → Prop), vs = [] ∧ Ex F H ∧ W_signs R ∧ ∀ z, R z → ∀ F' H', Wf F H F' H' → Q (.str (z)) H'
abbrev N_signs : List Str := ["_law_some"]
theorem sc_signs : FnScope N_signs [] (defScope s_signs) := ⟨rfl, rfl, rfl, by decide +kernel, rfl, by decide +kernel, by decide +kernel⟩
theorem ok_signs {P : Program} {w0 : World} {K : PySem.W.Frag} {mg : Str → Option Value} {base : Heap} {f : Addr} {fd : FuncData} {cc : Cz} (T : Tz K mg cc) (FU : Fun K "_law_signs" "_law_signs" s_signs f fd) (hm : mg "_law_signs" = some (.ref f)) (hb : Binds K fd [] []) : Fn P w0 K mg base CX0 1 "_law_signs" [] (sp_signs K cc) := by
  refine ⟨f, fd, FU.ok sc_signs (fun vs H Q E h => ?_) (fun cdv A outer s H0 vs Q E hr h => ?_), hm, FU.kp, hb⟩
  · obtain ⟨_, _, rfl, _⟩ := h; rfl
  · obtain ⟨F0, R, rfl, wf, hW, hQ⟩ := h
    have nd := sc_signs.nd
    refine ⟨(tSeq (tAsg (tC (.str (PySem.Str.ofString " !\"#$&'()*+,-./0123456789:;<=>?@ABCDEFGHIJKLMNOPQRSTUVWXYZ[\\]^_`"))) (gName 0)) (tRet (tOp kAddS (tVar 0) (tC (.str (PySem.Str.ofString "abcdefghijklmnopqrstuvwxyz{|}~\n")))))), (pss_cons (ps_set (i := 0) nd rfl (Or.inl rfl) pe_str) (pss_one (ps_ret (pe_op op_addS (pv 0) pe_str)))), ?_⟩
    have w := Wf.id wf
    refine q_sq fun N1 hN1 => ?_
    obtain ⟨some1, esome1⟩ : ∃ some1 : Str, some1 = (PySem.Str.ofString " !\"#$&'()*+,-./0123456789:;<=>?@ABCDEFGHIJKLMNOPQRSTUVWXYZ[\\]^_`") := ⟨_, rfl⟩
    replace hW := hW some1 esome1
    refine a_asg (v := (.str (some1))) (v_eq val_c (by rw [esome1])) ?_
    refine hN1 _ _ ?_
    obtain ⟨c1, hW⟩ := hW
    refine a_ret (v := (.str (some1 ++ (PySem.Str.ofString "abcdefghijklmnopqrstuvwxyz{|}~\n")))) (v_addS (val_var rfl) val_c c1) ?_
    exact hQ _ hW _ _ w
abbrev s_spoilt : Stmt := topS 15
/-! _law_spoilt -/
def W_spoilt (text1 : Str) (cell_here1 : Int) (R : Str → Prop) : Prop := ∀ way1 : Nat, way1 = modN cell_here1 6 → ((text1).length < 1000000) ∧ (0 < ((text1).length) + 1) ∧ ∀ at1 : Nat, at1 = modN (cell_here1 / ((6 : Nat) : Int)) (((text1).length) + 1) → W_signs fun z1 => W_mix cell_here1 1 fun z2 => (z1.length < 1000000) ∧ ∃ c4 : Nat, z1.cps.toList[z2 % 95]? = some c4 ∧ if way1 = 0 then ((text1.length < 1000000) ∧ ((cutTS text1 none (some at1)).length + (sg c4).length < 1000000) ∧ (text1.length < 1000000) ∧ (((cutTS text1 none (some at1)) ++ (sg c4)).length + (cutTS text1 (some (at1 + 1)) none).length < 1000000) ∧ R (((cutTS text1 none (some at1)) ++ (sg c4)) ++ (cutTS text1 (some (at1 + 1)) none))) else (if way1 = 1 then ((text1.length < 1000000) ∧ ((cutTS text1 none (some at1)).length + (sg c4).length < 1000000) ∧ (text1.length < 1000000) ∧ (((cutTS text1 none (some at1)) ++ (sg c4)).length + (cutTS text1 (some at1) none).length < 1000000) ∧ R (((cutTS text1 none (some at1)) ++ (sg c4)) ++ (cutTS text1 (some at1) none))) else (if way1 = 2 then ((text1.length < 1000000) ∧ (text1.length < 1000000) ∧ ((cutTS text1 none (some at1)).length + (cutTS text1 (some (at1 + 1)) none).length < 1000000) ∧ R ((cutTS text1 none (some at1)) ++ (cutTS text1 (some (at1 + 1)) none))) else (R text1)))
def sp_spoilt (K : PySem.W.Frag) (cc : Cz) : Sp := fun vs H Q _ => ∃ (F : Hp) (text1 : Str) (cell_here1 : Int) (R : Str → Prop), vs = [(.str (text1)), (.int (cell_here1))] ∧ Ex F H ∧ W_spoilt text1 cell_here1 R ∧ ∀ z, R z → ∀ F' H', Wf F H F' H' → Q (.str (z)) H'
abbrev N_spoilt : List Str := ["_law_text", "_law_cell_here", "_law_way", "_law_at", "_law_sign"]
theorem sc_spoilt : FnScope N_spoilt ["_law_text", "_law_cell_here"] (defScope s_spoilt) := ⟨rfl, rfl, rfl, by decide +kernel, rfl, by decide +kernel, by decide +kernel⟩
theorem ok_spoilt {P : Program} {w0 : World} {K : PySem.W.Frag} {mg : Str → Option Value} {base : Heap} {f : Addr} {fd : FuncData} {cc : Cz} (T : Tz K mg cc) (FU : Fun K "_law_spoilt" "_law_spoilt" s_spoilt f fd) (hm : mg "_law_spoilt" = some (.ref f)) (hb : Binds K fd ["_law_text", "_law_cell_here"] []) (c_signs : Fn P w0 K mg base CX0 1 "_law_signs" [] (sp_signs K cc)) (c_mix : Fn P w0 K mg base CX0 1 "_law_mix" ["_law_cell_here", "_law_k"] (sp_mix K cc)) (n_len : mg "len" = none) : Fn P w0 K mg base CX0 2 "_law_spoilt" ["_law_text", "_law_cell_here"] (sp_spoilt K cc) := by
  refine ⟨f, fd, FU.ok sc_spoilt (fun vs H Q E h => ?_) (fun cdv A outer s H0 vs Q E hr h => ?_), hm, FU.kp, hb⟩
  · obtain ⟨_, _, _, _, rfl, _⟩ := h; rfl
  · obtain ⟨F0, text1, cell_here1, R, rfl, wf, hW, hQ⟩ := h
    have nd := sc_spoilt.nd
    refine ⟨(tSeq (tAsg (tOp kMod (tVar 1) (tC (.int 6))) (gName 2)) (tSeq (tAsg (tOp kMod (tOp kDiv (tVar 1) (tC (.int 6))) (tOp kAdd (tCB rLenS (tCons (tVar 0) tNil)) (tC (.int 1)))) (gName 3)) (tSeq (tAsg (tOp L2.rIxS (tCall (sp_signs K cc) [] E0 tNil) (tOp kMod (tCall (sp_mix K cc) [] E0 (tCons (tVar 1) (tCons (tC (.int 1)) tNil))) (tC (.int 95)))) (gName 4)) (tSeq (tIfS (tTest (tOp L2.rEq (tVar 2) (tC (.int 0)))) (tRet (tOp kAddS (tOp kAddS (tSl rSlS (tVar 0) tNoPart (tPart (tVar 3))) (tVar 4)) (tSl rSlS (tVar 0) (tPart (tOp kAdd (tVar 3) (tC (.int 1)))) tNoPart))) tNext) (tSeq (tIfS (tTest (tOp L2.rEq (tVar 2) (tC (.int 1)))) (tRet (tOp kAddS (tOp kAddS (tSl rSlS (tVar 0) tNoPart (tPart (tVar 3))) (tVar 4)) (tSl rSlS (tVar 0) (tPart (tVar 3)) tNoPart))) tNext) (tSeq (tIfS (tTest (tOp L2.rEq (tVar 2) (tC (.int 2)))) (tRet (tOp kAddS (tSl rSlS (tVar 0) tNoPart (tPart (tVar 3))) (tSl rSlS (tVar 0) (tPart (tOp kAdd (tVar 3) (tC (.int 1)))) tNoPart))) tNext) (tRet (tVar 0)))))))), (pss_cons (ps_set (i := 2) nd rfl (Or.inl rfl) (pe_op op_mod (pv 1) pe_int)) (pss_cons (ps_set (i := 3) nd rfl (Or.inl rfl) (pe_op op_mod (pe_op op_fdivW (pv 1) pe_int) (pe_op op_add (pe_callB call_len_str (by rfl) n_len PySem.boot_len (pa_cons (pv 0) pa_nil)) pe_int))) (pss_cons (ps_set (i := 4) nd rfl (Or.inl rfl) (pe_ix ix_str (pe_fn0 c_signs (hr.mono (by decide)) rfl) (pe_op op_mod (pe_fn c_mix (hr.mono (by decide)) rfl (pa_cons (pv 1) (pa_cons pe_int pa_nil))) pe_int) (fun _ _ => rfl))) (pss_cons (ps_if (pt_cmpR op_eq (pv 2) pe_int (nomark _)) (pss_one (ps_ret (pe_op op_addS (pe_op op_addS (pe_slice sl_str (pv 0) po_none (po_some (pv 3))) (pv 4)) (pe_slice sl_str (pv 0) (po_some (pe_op op_add (pv 3) pe_int)) po_none)))) pss_nil) (pss_cons (ps_if (pt_cmpR op_eq (pv 2) pe_int (nomark _)) (pss_one (ps_ret (pe_op op_addS (pe_op op_addS (pe_slice sl_str (pv 0) po_none (po_some (pv 3))) (pv 4)) (pe_slice sl_str (pv 0) (po_some (pv 3)) po_none)))) pss_nil) (pss_cons (ps_if (pt_cmpR op_eq (pv 2) pe_int (nomark _)) (pss_one (ps_ret (pe_op op_addS (pe_slice sl_str (pv 0) po_none (po_some (pv 3))) (pe_slice sl_str (pv 0) (po_some (pe_op op_add (pv 3) pe_int)) po_none)))) pss_nil) (pss_one (ps_ret (pv 0))))))))), ?_⟩
    have w := Wf.id wf
    refine q_sq fun N1 hN1 => ?_
    obtain ⟨way1, eway1⟩ : ∃ way1 : Nat, way1 = modN cell_here1 6 := ⟨_, rfl⟩
    replace hW := hW way1 eway1
    refine a_asg (v := (.int ((way1 : Nat) : Int))) (v_eq (vm_mod (val_var rfl) val_c (by decide)) (by rw [eway1])) ?_
    refine hN1 _ _ ?_
    refine q_sq fun N2 hN2 => ?_
    obtain ⟨c1, hW⟩ := hW
    obtain ⟨c2, hW⟩ := hW
    obtain ⟨at1, eat1⟩ : ∃ at1 : Nat, at1 = modN (cell_here1 / ((6 : Nat) : Int)) (((text1).length) + 1) := ⟨_, rfl⟩
    replace hW := hW at1 eat1
    refine a_asg (v := (.int ((at1 : Nat) : Int))) (v_eq (vm_mod (vi_div (val_var rfl) val_c ⟨by decide, by decide +kernel⟩) (vn_add (len_Str c1 (val_var rfl)) val_c) c2) (by rw [eat1])) ?_
    refine hN2 _ _ ?_
    refine q_sq fun N3 hN3 => ?_
    refine a_asgE ?_
    refine e_op ?_
    refine e_call ?_
    refine a_nil ?_
    refine ⟨F0, _, rfl, w.f, hW, ?_⟩
    intro z1 hW F1 H1 s1
    replace w := w.tr s1
    refine e_op ?_
    refine e_call ?_
    refine a_val (v := (.int (cell_here1))) (val_var rfl) ?_
    refine a_val (v := (.int ((1 : Nat) : Int))) val_c ?_
    refine a_nil ?_
    refine ⟨F1, (cell_here1), (1), _, rfl, w.f, hW, ?_⟩
    intro z2 hW F2 H2 s2
    replace w := w.tr s2
    refine e_val (v := (.int ((95 : Nat) : Int))) val_c ?_
    refine rv2 (z := (.int ((z2 % 95 : Nat) : Int))) (vn_mod val_c val_c (by decide)) ?_
    obtain ⟨c3, hW⟩ := hW
    obtain ⟨c4, hc1, hW⟩ := hW
    refine rv2 (z := .str (sg c4)) (ix_Str val_c val_c c3 hc1) ?_
    refine hN3 _ _ ?_
    refine q_sq fun N4 hN4 => ?_
    refine a_ifE ?_
    refine e_ans (b := decide (way1 = 0)) (t_of (vb_dec (c_eqI (val_var rfl) val_c) n_eq)) ?_
    refine b_if (fun hc2 => ?_) (fun hc2 => ?_)
    · have hW := ifP hW hc2
      refine a_retE ?_
      refine e_op ?_
      refine e_op ?_
      obtain ⟨c5, hW⟩ := hW
      refine e_val (v := .str (cutTS text1 none (some at1))) (v_cutS (lo := none) (hi := (some at1)) (val_var rfl) po_n (po_s (n := at1) (val_var rfl)) c5) ?_
      refine e_val (v := (.str (sg c4))) (val_var rfl) ?_
      obtain ⟨c6, hW⟩ := hW
      refine rv2 (z := (.str ((cutTS text1 none (some at1)) ++ (sg c4)))) (v_addS val_c val_c c6) ?_
      obtain ⟨c7, hW⟩ := hW
      refine e_val (v := .str (cutTS text1 (some (at1 + 1)) none)) (v_cutS (lo := (some (at1 + 1))) (hi := none) (val_var rfl) (po_s (n := at1 + 1) (vn_add (val_var rfl) val_c)) po_n c7) ?_
      obtain ⟨c8, hW⟩ := hW
      refine rv2 (z := (.str (((cutTS text1 none (some at1)) ++ (sg c4)) ++ (cutTS text1 (some (at1 + 1)) none)))) (v_addS val_c val_c c8) ?_
      exact hQ _ hW _ _ w
    · have hW := ifN hW hc2
      refine hN4 _ _ ?_
      refine q_sq fun N5 hN5 => ?_
      refine a_ifE ?_
      refine e_ans (b := decide (way1 = 1)) (t_of (vb_dec (c_eqI (val_var rfl) val_c) n_eq)) ?_
      refine b_if (fun hc3 => ?_) (fun hc3 => ?_)
      · have hW := ifP hW hc3
        refine a_retE ?_
        refine e_op ?_
        refine e_op ?_
        obtain ⟨c9, hW⟩ := hW
        refine e_val (v := .str (cutTS text1 none (some at1))) (v_cutS (lo := none) (hi := (some at1)) (val_var rfl) po_n (po_s (n := at1) (val_var rfl)) c9) ?_
        refine e_val (v := (.str (sg c4))) (val_var rfl) ?_
        obtain ⟨c10, hW⟩ := hW
        refine rv2 (z := (.str ((cutTS text1 none (some at1)) ++ (sg c4)))) (v_addS val_c val_c c10) ?_
        obtain ⟨c11, hW⟩ := hW
        refine e_val (v := .str (cutTS text1 (some at1) none)) (v_cutS (lo := (some at1)) (hi := none) (val_var rfl) (po_s (n := at1) (val_var rfl)) po_n c11) ?_
        obtain ⟨c12, hW⟩ := hW
        refine rv2 (z := (.str (((cutTS text1 none (some at1)) ++ (sg c4)) ++ (cutTS text1 (some at1) none)))) (v_addS val_c val_c c12) ?_
        exact hQ _ hW _ _ w
      · have hW := ifN hW hc3
        refine hN5 _ _ ?_
        refine q_sq fun N6 hN6 => ?_
        refine a_ifE ?_
        refine e_ans (b := decide (way1 = 2)) (t_of (vb_dec (c_eqI (val_var rfl) val_c) n_eq)) ?_
        refine b_if (fun hc4 => ?_) (fun hc4 => ?_)
        · have hW := ifP hW hc4
          refine a_retE ?_
          refine e_op ?_
          obtain ⟨c13, hW⟩ := hW
          refine e_val (v := .str (cutTS text1 none (some at1))) (v_cutS (lo := none) (hi := (some at1)) (val_var rfl) po_n (po_s (n := at1) (val_var rfl)) c13) ?_
          obtain ⟨c14, hW⟩ := hW
          refine e_val (v := .str (cutTS text1 (some (at1 + 1)) none)) (v_cutS (lo := (some (at1 + 1))) (hi := none) (val_var rfl) (po_s (n := at1 + 1) (vn_add (val_var rfl) val_c)) po_n c14) ?_
          obtain ⟨c15, hW⟩ := hW
          refine rv2 (z := (.str ((cutTS text1 none (some at1)) ++ (cutTS text1 (some (at1 + 1)) none)))) (v_addS val_c val_c c15) ?_
          exact hQ _ hW _ _ w
        · have hW := ifN hW hc4
          refine hN6 _ _ ?_
          refine a_ret (v := (.str (text1))) (val_var rfl) ?_
          exact hQ _ hW _ _ w
abbrev s_read : Stmt := topS 16
/-! _law_read -/
def W_read (text1 : Str) (R : An → Prop) : Prop := ((text1).length < 1000000) ∧ if 64 < ((text1).length) then (R (An.s (PySem.Str.ofString "refused"))) else ((text1.length < 1000000) ∧ forW text1.cps.toList.reverse 0 (fun sign1 mask1 nx1 bk1 => if ((sg sign1) ≠ (PySem.Str.ofString "0")) ∧ ((sg sign1) ≠ (PySem.Str.ofString "1")) then (R (An.s (PySem.Str.ofString "refused"))) else (∀ mask2 : Nat, mask2 = (2 * mask1) + (Bool.toNat (decide ((sg sign1) = (PySem.Str.ofString "1")))) → nx1 mask2)) fun mask1 => ((text1).length < 1000000) ∧ R ((fun x => An.t [(fun n : Nat => An.i (n : Int)) x.1, (fun n : Nat => An.i (n : Int)) x.2]) (mask1, (text1).length)))
def sp_read (K : PySem.W.Frag) (cc : Cz) : Sp := fun vs H Q _ => ∃ (F : Hp) (text1 : Str) (R : An → Prop), vs = [(.str (text1))] ∧ Ex F H ∧ W_read text1 R ∧ ∀ z, R z → ∀ v F' H', Wf F H F' H' → pA.r F' v z → Q v H'
abbrev N_read : List Str := ["_law_text", "_law_mask", "_law_sign"]
theorem sc_read : FnScope N_read ["_law_text"] (defScope s_read) := ⟨rfl, rfl, rfl, by decide +kernel, rfl, by decide +kernel, by decide +kernel⟩
theorem ok_read {P : Program} {w0 : World} {K : PySem.W.Frag} {mg : Str → Option Value} {base : Heap} {f : Addr} {fd : FuncData} {cc : Cz} (T : Tz K mg cc) (FU : Fun K "_law_read" "_law_read" s_read f fd) (hm : mg "_law_read" = some (.ref f)) (hb : Binds K fd ["_law_text"] []) (n_int : mg "int" = none) (n_len : mg "len" = none) (n_reversed : mg "reversed" = none) : Fn P w0 K mg base CX0 1 "_law_read" ["_law_text"] (sp_read K cc) := by
  refine ⟨f, fd, FU.ok sc_read (fun vs H Q E h => ?_) (fun cdv A outer s H0 vs Q E hr h => ?_), hm, FU.kp, hb⟩
  · obtain ⟨_, _, _, rfl, _⟩ := h; rfl
  · obtain ⟨F0, text1, R, rfl, wf, hW, hQ⟩ := h
    have nd := sc_read.nd
    refine ⟨(tSeq (tIfS (tTest (tOp kGt (tCB rLenS (tCons (tVar 0) tNil)) (tC (.int 64)))) (tRet (tC (.str (PySem.Str.ofString "refused")))) tNext) (tSeq (tAsg (tC (.int 0)) (gName 1)) (tSeq (tFor (iRevS (tCons (tVar 0) tNil)) (gName 2) (tSeq (tIfS (tAnd (tTest (tOp L2.rNe (tVar 2) (tC (.str (PySem.Str.ofString "0"))))) (tTest (tOp L2.rNe (tVar 2) (tC (.str (PySem.Str.ofString "1")))))) (tRet (tC (.str (PySem.Str.ofString "refused")))) tNext) (tAsg (tOp kAdd (tOp kMul (tC (.int 2)) (tVar 1)) (tCB rInt1 (tCons (tOp L2.rEq (tVar 2) (tC (.str (PySem.Str.ofString "1")))) tNil))) (gName 1)))) (tRet (tTup (tCons (tVar 1) (tCons (tCB rLenS (tCons (tVar 0) tNil)) tNil))))))), (pss_cons (ps_if (pt_cmpR op_gt (pe_callB call_len_str (by rfl) n_len PySem.boot_len (pa_cons (pv 0) pa_nil)) pe_int (nomark _)) (pss_one (ps_ret pe_str)) pss_nil) (pss_cons (ps_set (i := 1) nd rfl (Or.inl rfl) pe_int) (pss_cons (ps_for PassesOwn.never rfl (pi_revS (by rfl) n_reversed (pa_cons (pv 0) pa_nil)) (pg_name (i := 2) nd rfl (Or.inl rfl)) (pss_cons (ps_if (PW.pt (pw_and (pt_cmpR op_ne (pv 2) pe_str (nomark _)) (pw_and1 (pt_cmpR op_ne (pv 2) pe_str (nomark _))))) (pss_one (ps_ret pe_str)) pss_nil) (pss_one (ps_set (i := 1) nd rfl (Or.inl rfl) (pe_op op_add (pe_op op_mul pe_int (pv 1)) (pe_callTy call_int1 (by rfl) n_int PyProof.Rows.boot_int (pa_cons (pe_cmpR op_eq (pv 2) pe_str (nomark _)) pa_nil))))))) (pss_one (ps_ret (pe_tup (pa_cons (pv 1) (pa_cons (pe_callB call_len_str (by rfl) n_len PySem.boot_len (pa_cons (pv 0) pa_nil)) pa_nil)))))))), ?_⟩
    have w := Wf.id wf
    refine q_sq fun N1 hN1 => ?_
    refine a_ifE ?_
    obtain ⟨c1, hW⟩ := hW
    refine e_ans (b := decide (64 < ((text1).length))) (t_of (vb_dec (c_gt (len_Str c1 (val_var rfl)) val_c) n_lt)) ?_
    refine b_if (fun hc1 => ?_) (fun hc1 => ?_)
    · have hW := ifP hW hc1
      refine a_ret (v := (.str ((PySem.Str.ofString "refused")))) val_c ?_
      exact hQ (An.s (PySem.Str.ofString "refused")) hW _ _ _ w (show pA.r _ (.str ((PySem.Str.ofString "refused"))) (An.s (PySem.Str.ofString "refused")) from rfl)
    · have hW := ifN hW hc1
      refine hN1 _ _ ?_
      refine q_sq fun N2 hN2 => ?_
      refine a_asg (v := (.int ((0 : Nat) : Int))) val_c ?_
      refine hN2 _ _ ?_
      refine q_sq fun N3 hN3 => ?_
      refine f_J ?_
      refine a_val (v := (.str (text1))) (val_var rfl) ?_
      refine a_nil ?_
      obtain ⟨c2, hW⟩ := hW
      refine src_revS (F := F0) w.f c2 (fun T1 => ?_)
      refine w_forG (S := Nat) T1 (fun mask1 σ' F' H' => ∃ (o1 : Option V), Wf F0 H0 F' H' ∧ Ex F0 F' ∧ σ' = [some (.str (text1)), some (.int ((mask1 : Nat) : Int)), o1]) hW ⟨_, w, Ex.rfl', rfl⟩ (fun s σ' F' H' hI => by obtain ⟨_, w', gx', _⟩ := hI; exact ⟨gx', w'.f⟩) w.f ?_ ?_
      · intro N4 Bk1 sign1 u1 mask1 σ' F1 H1 F2 H2 nx1 bk1 hI1 hx1 s2 ru1 hW hN4 hB1
        obtain ⟨o1, w, gx1, rfl⟩ := hI1
        replace w := w.tr s2
        replace gx1 := Ex.tr gx1 s2.g
        obtain rfl : u1 = (.str (sg sign1)) := ru1
        refine g_name ?_
        refine q_sq fun N5 hN5 => ?_
        refine a_ifE ?_
        refine e_ans (b := decide (((sg sign1) ≠ (PySem.Str.ofString "0")) ∧ ((sg sign1) ≠ (PySem.Str.ofString "1")))) (t_and (t_of (c_neS (val_var rfl) val_c)) (fun _ => (t_of (c_neS (val_var rfl) val_c)))) ?_
        refine b_if (fun hc2 => ?_) (fun hc2 => ?_)
        · have hW := ifP hW hc2
          refine a_ret (v := (.str ((PySem.Str.ofString "refused")))) val_c ?_
          exact hQ (An.s (PySem.Str.ofString "refused")) hW _ _ _ w (show pA.r _ (.str ((PySem.Str.ofString "refused"))) (An.s (PySem.Str.ofString "refused")) from rfl)
        · have hW := ifN hW hc2
          refine hN5 _ _ ?_
          obtain ⟨mask2, emask1⟩ : ∃ mask2 : Nat, mask2 = (2 * mask1) + (Bool.toNat (decide ((sg sign1) = (PySem.Str.ofString "1")))) := ⟨_, rfl⟩
          replace hW := hW mask2 emask1
          refine a_asg (v := (.int ((mask2 : Nat) : Int))) (v_eq (vn_add (vn_mul val_c (val_var rfl) (.inl (by decide))) (v_intB (c_eqS (val_var rfl) val_c))) (by rw [emask1])) ?_
          exact hN4 mask2 _ _ _ ⟨_, w, gx1, rfl⟩ hW
      · intro mask1 σ' F3 H3 hI2 hW
        obtain ⟨o1, w, gx2, rfl⟩ := hI2
        refine hN3 _ _ ?_
        refine a_retE ?_
        refine e_tup ?_
        refine a_val (v := (.int ((mask1 : Nat) : Int))) (val_var rfl) ?_
        obtain ⟨c3, hW⟩ := hW
        refine a_val (v := (.int (((text1).length : Nat) : Int))) (len_Str c3 (val_var rfl)) ?_
        refine a_nil ?_
        refine n_tup2 (e := pN) (f := pN) (x := mask1) (y := (text1).length) rfl rfl w ?_
        intro p1 F4 H4 s4 r1
        replace w := w.tr s4
        replace gx2 := Ex.tr gx2 s4.g
        have r2 : pA.r _ (.ref p1) ((fun x => An.t [(fun n : Nat => An.i (n : Int)) x.1, (fun n : Nat => An.i (n : Int)) x.2]) (mask1, (text1).length)) := (cv_T2 cv_nat cv_nat) r1
        exact hQ ((fun x => An.t [(fun n : Nat => An.i (n : Int)) x.1, (fun n : Nat => An.i (n : Int)) x.2]) (mask1, (text1).length)) hW _ _ _ w r2
abbrev s_told : Stmt := topS 17
/-! _law_told -/
def W_told (thing1 : An) (R : An → Prop) : Prop := jn (fun kk => W_mask_in thing1 (([true, true, false].length + [false, false].length < 1000000) ∧ kk ((An.s (PySem.Str.ofString "refused")), [true, true, false] ++ [false, false])) fun z1 => kk (((fun x => An.t [(fun n : Nat => An.i (n : Int)) x.1, (fun n : Nat => An.i (n : Int)) x.2]) z1), ([] : List Bool))) fun (told_here1, kinds1) => jn (fun kk => if kinds1 ≠ ([] : List Bool) then (kk (decide (kinds1 ≠ [true, true, false, false, false]))) else (kk false)) fun b1 => if b1 = true then (R (An.s (PySem.Str.ofString "odd"))) else (R told_here1)
def sp_told (K : PySem.W.Frag) (cc : Cz) : Sp := fun vs H Q _ => ∃ (F : Hp) (v1 : V) (thing1 : An) (R : An → Prop), vs = [v1] ∧ Ex F H ∧ pA.r F v1 thing1 ∧ W_told thing1 R ∧ ∀ z, R z → ∀ v F' H', Wf F H F' H' → pA.r F' v z → Q v H'
abbrev N_told : List Str := ["_law_thing", "_law_told_here", "_law_kinds", "e"]
theorem sc_told : FnScope N_told ["_law_thing"] (defScope s_told) := ⟨rfl, rfl, rfl, by decide +kernel, rfl, by decide +kernel, by decide +kernel⟩
theorem ok_told {P : Program} {w0 : World} {K : PySem.W.Frag} {mg : Str → Option Value} {base : Heap} {f : Addr} {fd : FuncData} {cc : Cz} (T : Tz K mg cc) (FU : Fun K "_law_told" "_law_told" s_told f fd) (hm : mg "_law_told" = some (.ref f)) (hb : Binds K fd ["_law_thing"] []) (c_mask_in : Fn P w0 K mg base (L2.CX P w0) 1 "mask_in" ["text"] (sp_mask_in K cc)) (n_ValueError : mg "ValueError" = none) (n_isinstance : mg "isinstance" = none) : Fn P w0 K mg base CX0 2 "_law_told" ["_law_thing"] (sp_told K cc) := by
  refine ⟨f, fd, FU.ok sc_told (fun vs H Q E h => ?_) (fun cdv A outer s H0 vs Q E hr h => ?_), hm, FU.kp, hb⟩
  · obtain ⟨_, _, _, _, rfl, _⟩ := h; rfl
  · obtain ⟨F0, v1, thing1, R, rfl, wf, r1, hW, hQ⟩ := h
    have nd := sc_told.nd
    refine ⟨(tSeq (tAsg (tC (.str (PySem.Str.ofString "nothing"))) (gName 1)) (tSeq (tAsg (tLst tNil) (gName 2)) (tSeq (tTryAs K (.ref cc.BadRow) 3 (fun W1 => (tAsg (tCallS (sp_mask_in K cc) (WE W1) (tCons (tVar 0) tNil)) (gName 1))) (fun ea ec ed => (tSeq (tAsg (tC (.str (PySem.Str.ofString "refused"))) (gName 1)) (tSeq (tAsg (tLst (tCons (tIsE K 3 ec ed ea cc.WireError) (tCons (tIsET K 3 ec ed ea "ValueError") (tCons (tIsE K 3 ec ed ea cc.BadMask) tNil)))) (gName 2)) (tAsg (tOp L2.rCat (tVar 2) (tLst (tCons (tIsE K 3 ec ed ea cc.BadName) (tCons (tIsE K 3 ec ed ea cc.BadTable) tNil)))) (gName 2))))) (fun _ _ _ _ => False)) (tSeq (tIfS (tAnd (tTest (tOp (L2.rNeD K) (tVar 2) (tLst tNil))) (tTest (tOp (L2.rNeD K) (tVar 2) (tLst (tCons (tC (.bl true)) (tCons (tC (.bl true)) (tCons (tC (.bl false)) (tCons (tC (.bl false)) (tCons (tC (.bl false)) tNil))))))))) (tRet (tC (.str (PySem.Str.ofString "odd")))) tNext) (tRet (tVar 1)))))), (pss_cons (ps_set (i := 1) nd rfl (Or.inl rfl) pe_str) (pss_cons (ps_set (i := 2) nd rfl (Or.inl rfl) (pe_lst pa_nil)) (pss_cons (ps_try_as (i := 3) (tb := fun W1 => (tAsg (tCallS (sp_mask_in K cc) (WE W1) (tCons (tVar 0) tNil)) (gName 1))) (ts := fun ea ec ed => (tSeq (tAsg (tC (.str (PySem.Str.ofString "refused"))) (gName 1)) (tSeq (tAsg (tLst (tCons (tIsE K 3 ec ed ea cc.WireError) (tCons (tIsET K 3 ec ed ea "ValueError") (tCons (tIsE K 3 ec ed ea cc.BadMask) tNil)))) (gName 2)) (tAsg (tOp L2.rCat (tVar 2) (tLst (tCons (tIsE K 3 ec ed ea cc.BadName) (tCons (tIsE K 3 ec ed ea cc.BadTable) tNil)))) (gName 2))))) (Wout := (fun _ _ _ _ => False)) rfl rfl nd rfl rfl ⟨rfl, by decide, Or.inl T.xc_BadRow.g⟩ takes0 (fun W1 pn1 xe1 tk1 po1 => (pss_one (ps_set (i := 1) nd rfl (Or.inl rfl) (pe_fnS (W := W1) c_mask_in tk1 (hr.mono (by decide)) rfl (pa_cons (pv 0) pa_nil))))) (fun ea oe ec ed pn hz hf => (pss_cons (ps_set (i := 1) nd rfl (Or.inl rfl) pe_str) (pss_cons (ps_set (i := 2) nd rfl (Or.inl rfl) (pe_lst (pa_cons (pe_isE hz hf (by rfl) n_isinstance (pv 3) (by rfl) T.xc_WireError.g) (pa_cons (pe_isET (T := "ValueError") hz hf (by rfl) n_isinstance (pv 3) (pe_bltn (by rfl) n_ValueError (by kernel_rfl) rfl)) (pa_cons (pe_isE hz hf (by rfl) n_isinstance (pv 3) (by rfl) T.xc_BadMask.g) pa_nil))))) (pss_one (ps_set (i := 2) nd rfl (Or.inl rfl) (pe_op op_cat (pv 2) (pe_lst (pa_cons (pe_isE hz hf (by rfl) n_isinstance (pv 3) (by rfl) T.xc_BadName.g) (pa_cons (pe_isE hz hf (by rfl) n_isinstance (pv 3) (by rfl) T.xc_BadTable.g) pa_nil)))))))))) (pss_cons (ps_if (PW.pt (pw_and (pt_cmpR (op_neD hr.units) (pv 2) (pe_lst pa_nil) (nomark _)) (pw_and1 (pt_cmpR (op_neD hr.units) (pv 2) (pe_lst (pa_cons pe_bl (pa_cons pe_bl (pa_cons pe_bl (pa_cons pe_bl (pa_cons pe_bl pa_nil)))))) (nomark _))))) (pss_one (ps_ret pe_str)) pss_nil) (pss_one (ps_ret (pv 1))))))), ?_⟩
    have w := Wf.id wf
    refine q_sq fun N1 hN1 => ?_
    have r2 : pA.r F0 (.str ((PySem.Str.ofString "nothing"))) (An.s (PySem.Str.ofString "nothing")) := rfl
    refine a_asg (v := (.str ((PySem.Str.ofString "nothing")))) val_c ?_
    refine hN1 _ _ ?_
    refine q_sq fun N2 hN2 => ?_
    refine a_asgE ?_
    refine e_lst ?_
    refine a_nil ?_
    refine n_lstX (e := pB) (xs := []) (vs := []) (show All pB _ [] [] from trivial) (show 0 < 1000000 from by decide) w ?_
    intro p1 H1 hp1 s1 x1
    replace r1 := Rep.mono _ s1.g r1
    replace r2 := Rep.mono _ s1.g r2
    replace w := w.tr s1
    obtain ⟨F1, w1, g1, r3, fz1⟩ := x1.frzE w
    replace r1 := Rep.mono _ g1 r1
    replace r2 := Rep.mono _ g1 r2
    replace w := w1
    refine hN2 _ _ ?_
    refine q_jn (S := An × List Bool) hW (fun s σ' F' H' => match s with | (told_here1, kinds1) => ∃ (v2 : V) (v3 : V), Wf F0 H0 F' H' ∧ Ex F1 F' ∧ σ' = [some v1, some v2, some v3, none] ∧ pA.r F' v2 told_here1 ∧ (pL pB).r F' v3 kinds1) ?_ ?_
    · intro N3 hN3 hW
      have gx1 : Ex F1 F1 := Ex.rfl'
      refine a_tryAs ?_
      refine a_asgE ?_
      refine e_callS ?_
      refine a_val (v := v1) (val_var rfl) ?_
      refine a_nil ?_
      refine ⟨F1, (v1), (thing1), _, _, rfl, w.f, r1, hW, ?_, ?_⟩
      · intro hW F2 H2 s2
        replace r1 := Rep.mono _ s2.g r1
        replace r2 := Rep.mono _ s2.g r2
        replace r3 := Rep.mono _ s2.g r3
        replace w := w.tr s2
        replace gx1 := Ex.tr gx1 s2.g
        refine a_excAs T.xm_BadRow_BadRow (fun a1 ha1 => ?_)
        refine q_sq fun N4 hN4 => ?_
        have r6 : pA.r F2 (.str ((PySem.Str.ofString "refused"))) (An.s (PySem.Str.ofString "refused")) := rfl
        refine a_asg (v := (.str ((PySem.Str.ofString "refused")))) val_c ?_
        refine hN4 _ _ ?_
        refine q_sq fun N5 hN5 => ?_
        refine a_asgE ?_
        refine e_lst ?_
        refine a_val (v := (.bl (true))) (fun Q k => ⟨_, _, rfl, rfl, T.xe_BadRow, T.xi_BadRow_WireError, rfl, k⟩) ?_
        refine a_val (v := (.bl (true))) (fun Q k => ⟨_, _, rfl, rfl, T.xe_BadRow, T.xt_BadRow_ValueError, rfl, k⟩) ?_
        refine a_val (v := (.bl (false))) (fun Q k => ⟨_, _, rfl, rfl, T.xe_BadRow, T.xi_BadRow_BadMask, rfl, k⟩) ?_
        refine a_nil ?_
        refine n_lstX (e := pB) (xs := [true, true, false]) (vs := [(.bl (true)), (.bl (true)), (.bl (false))]) (show All pB _ [(.bl (true)), (.bl (true)), (.bl (false))] [true, true, false] from ⟨rfl, ⟨rfl, ⟨rfl, trivial⟩⟩⟩) (show 3 < 1000000 from by decide) w ?_
        intro p2 H3 hp2 s3 x2
        replace r1 := Rep.mono _ s3.g r1
        replace r6 := Rep.mono _ s3.g r6
        replace r3 := Rep.mono _ s3.g r3
        replace w := w.tr s3
        replace gx1 := Ex.tr gx1 s3.g
        obtain ⟨F3, w2, g2, r7, fz2⟩ := x2.frzE w
        replace r1 := Rep.mono _ g2 r1
        replace r6 := Rep.mono _ g2 r6
        replace r3 := Rep.mono _ g2 r3
        replace w := w2
        replace gx1 := Ex.tr gx1 g2
        refine hN5 _ _ ?_
        refine a_asgE ?_
        refine e_op ?_
        refine e_val (v := (.ref p2)) (val_var rfl) ?_
        refine e_lst ?_
        refine a_val (v := (.bl (false))) (fun Q k => ⟨_, _, rfl, rfl, T.xe_BadRow, T.xi_BadRow_BadName, rfl, k⟩) ?_
        refine a_val (v := (.bl (false))) (fun Q k => ⟨_, _, rfl, rfl, T.xe_BadRow, T.xi_BadRow_BadTable, rfl, k⟩) ?_
        refine a_nil ?_
        refine n_lstX (e := pB) (xs := [false, false]) (vs := [(.bl (false)), (.bl (false))]) (show All pB _ [(.bl (false)), (.bl (false))] [false, false] from ⟨rfl, ⟨rfl, trivial⟩⟩) (show 2 < 1000000 from by decide) w ?_
        intro p3 H4 hp3 s4 x3
        replace r1 := Rep.mono _ s4.g r1
        replace r6 := Rep.mono _ s4.g r6
        replace r7 := Rep.mono _ s4.g r7
        replace w := w.tr s4
        replace gx1 := Ex.tr gx1 s4.g
        obtain ⟨F4, w3, g3, r8, fz3⟩ := x3.frzE w
        replace r1 := Rep.mono _ g3 r1
        replace r6 := Rep.mono _ g3 r6
        replace r7 := Rep.mono _ g3 r7
        replace w := w3
        replace gx1 := Ex.tr gx1 g3
        obtain ⟨c1, hW⟩ := hW
        refine n_cat r7 r8 w c1 ?_
        intro p4 H5 hp4 s5 x4
        replace r1 := Rep.mono _ s5.g r1
        replace r6 := Rep.mono _ s5.g r6
        replace r7 := Rep.mono _ s5.g r7
        replace r8 := Rep.mono _ s5.g r8
        replace w := w.tr s5
        replace gx1 := Ex.tr gx1 s5.g
        obtain ⟨F5, w4, g4, r9, fz4⟩ := x4.frzE w
        replace r1 := Rep.mono _ g4 r1
        replace r6 := Rep.mono _ g4 r6
        replace r7 := Rep.mono _ g4 r7
        replace r8 := Rep.mono _ g4 r8
        replace w := w4
        replace gx1 := Ex.tr gx1 g4
        exact hN3 ((An.s (PySem.Str.ofString "refused")), [true, true, false] ++ [false, false]) _ _ _ ⟨_, _, w, gx1, rfl, r6, r9⟩ hW
      intro z1 hW v4 F6 H6 s6 r10
      replace r1 := Rep.mono _ s6.g r1
      replace r2 := Rep.mono _ s6.g r2
      replace r3 := Rep.mono _ s6.g r3
      replace w := w.tr s6
      replace gx1 := Ex.tr gx1 s6.g
      have r11 : pA.r _ v4 ((fun x => An.t [(fun n : Nat => An.i (n : Int)) x.1, (fun n : Nat => An.i (n : Int)) x.2]) z1) := (cv_T2 cv_nat cv_nat) r10
      exact hN3 (((fun x => An.t [(fun n : Nat => An.i (n : Int)) x.1, (fun n : Nat => An.i (n : Int)) x.2]) z1), ([] : List Bool)) _ _ _ ⟨_, _, w, gx1, rfl, r11, r3⟩ hW
    · intro s7 σ' F7 H7 hI1 hW
      obtain ⟨told_here1, kinds1⟩ := s7
      obtain ⟨v2, v3, w, gx2, rfl, r4, r5⟩ := hI1
      have r1 := Rep.mono _ gx2 r1
      refine q_sq fun N6 hN6 => ?_
      refine a_ifE ?_
      refine e_jnT hW (fun b F' H' => b = b ∧ Wf F0 H0 F' H' ∧ Ex F7 F') ?_ ?_
      · intro N7 hN7 hW
        have gx3 : Ex F7 F7 := Ex.rfl'
        refine e_tAnd ?_
        refine e_tT ?_
        refine e_op ?_
        refine e_val (v := v3) (val_var rfl) ?_
        refine e_lst ?_
        refine a_nil ?_
        refine n_lstX (e := pB) (xs := []) (vs := []) (show All pB _ [] [] from trivial) (show 0 < 1000000 from by decide) w ?_
        intro p5 H8 hp5 s8 x5
        replace r1 := Rep.mono _ s8.g r1
        replace r4 := Rep.mono _ s8.g r4
        replace r5 := Rep.mono _ s8.g r5
        replace w := w.tr s8
        replace gx3 := Ex.tr gx3 s8.g
        replace gx2 := Ex.tr gx2 s8.g
        obtain ⟨F8, w5, g5, r12, fz5⟩ := x5.frzE w
        replace r1 := Rep.mono _ g5 r1
        replace r4 := Rep.mono _ g5 r4
        replace r5 := Rep.mono _ g5 r5
        replace w := w5
        replace gx3 := Ex.tr gx3 g5
        replace gx2 := Ex.tr gx2 g5
        refine rv2T (b := decide (kinds1 ≠ ([] : List Bool))) (c_neD (K := K) (e := (pL pB)) val_c val_c w.f r5 w.f r12) ?_
        refine b_if (fun hc1 => ?_) (fun hc1 => ?_)
        · have hW := ifP hW hc1
          refine e_tT ?_
          refine e_op ?_
          refine e_val (v := v3) (val_var rfl) ?_
          refine e_lst ?_
          refine a_val (v := (.bl (true))) val_c ?_
          refine a_val (v := (.bl (true))) val_c ?_
          refine a_val (v := (.bl (false))) val_c ?_
          refine a_val (v := (.bl (false))) val_c ?_
          refine a_val (v := (.bl (false))) val_c ?_
          refine a_nil ?_
          refine n_lstX (e := pB) (xs := [true, true, false, false, false]) (vs := [(.bl (true)), (.bl (true)), (.bl (false)), (.bl (false)), (.bl (false))]) (show All pB _ [(.bl (true)), (.bl (true)), (.bl (false)), (.bl (false)), (.bl (false))] [true, true, false, false, false] from ⟨rfl, ⟨rfl, ⟨rfl, ⟨rfl, ⟨rfl, trivial⟩⟩⟩⟩⟩) (show 5 < 1000000 from by decide) w ?_
          intro p6 H9 hp6 s9 x6
          replace r1 := Rep.mono _ s9.g r1
          replace r4 := Rep.mono _ s9.g r4
          replace r5 := Rep.mono _ s9.g r5
          replace r12 := Rep.mono _ s9.g r12
          replace w := w.tr s9
          replace gx3 := Ex.tr gx3 s9.g
          replace gx2 := Ex.tr gx2 s9.g
          obtain ⟨F9, w6, g6, r13, fz6⟩ := x6.frzE w
          replace r1 := Rep.mono _ g6 r1
          replace r4 := Rep.mono _ g6 r4
          replace r5 := Rep.mono _ g6 r5
          replace r12 := Rep.mono _ g6 r12
          replace w := w6
          replace gx3 := Ex.tr gx3 g6
          replace gx2 := Ex.tr gx2 g6
          refine rv2T (b := decide (kinds1 ≠ [true, true, false, false, false])) (c_neD (K := K) (e := (pL pB)) val_c val_c w.f r5 w.f r13) ?_
          exact hN7 (decide (kinds1 ≠ [true, true, false, false, false])) _ _ ⟨rfl, w, gx3⟩ hW
        · have hW := ifN hW hc1
          exact hN7 false _ _ ⟨rfl, w, gx3⟩ hW
      intro b1 F10 H10 hI2 hW
      obtain ⟨_, w, gx4⟩ := hI2
      have r1 := Rep.mono _ gx4 r1
      have r4 := Rep.mono _ gx4 r4
      have r5 := Rep.mono _ gx4 r5
      have gx2 := Ex.tr gx2 gx4
      refine bb_if (fun hc2 => ?_) (fun hc2 => ?_)
      · have hW := ifP hW hc2
        refine a_ret (v := (.str ((PySem.Str.ofString "odd")))) val_c ?_
        exact hQ (An.s (PySem.Str.ofString "odd")) hW _ _ _ w (show pA.r _ (.str ((PySem.Str.ofString "odd"))) (An.s (PySem.Str.ofString "odd")) from rfl)
      · have hW := ifN hW hc2
        refine hN6 _ _ ?_
        refine a_ret (v := v2) (val_var rfl) ?_
        exact hQ _ hW _ _ _ w r4
abbrev s_is_pair : Stmt := topS 18
/-! _law_is_pair -/
def W_is_pair (found1 : An) (R : Bool → Prop) : Prop := jn (fun kk => if ¬ ((isA "tuple" found1) = true) then (kk true) else (∃ ys1 : List An, found1 = An.t ys1 ∧ kk (decide (ys1.length ≠ 2)))) fun b1 => if b1 = true then (R false) else (∃ ys2 : List An, found1 = An.t ys2 ∧ (ys2.length < 1000000) ∧ compW ys2 (fun one1 kk => if (¬ ((isA "int" one1) = true)) ∨ ((isA "bool" one1) = true) then (kk (some one1)) else (kk none)) fun ys3 => (aok (An.l ys3) = true ∧ aok (An.l ([] : List An)) = true) ∧ R (decide (aeq (An.l ys3) (An.l ([] : List An)) = true)))
def sp_is_pair (K : PySem.W.Frag) (cc : Cz) : Sp := fun vs H Q _ => ∃ (F : Hp) (v1 : V) (found1 : An) (R : Bool → Prop), vs = [v1] ∧ Ex F H ∧ pA.r F v1 found1 ∧ W_is_pair found1 R ∧ ∀ z, R z → ∀ F' H', Wf F H F' H' → Q (.bl (z)) H'
abbrev N_is_pair : List Str := ["_law_found", "_law_one"]
theorem sc_is_pair : FnScope N_is_pair ["_law_found"] (defScope s_is_pair) := ⟨rfl, rfl, rfl, by decide +kernel, rfl, by decide +kernel, by decide +kernel⟩
theorem ok_is_pair {P : Program} {w0 : World} {K : PySem.W.Frag} {mg : Str → Option Value} {base : Heap} {f : Addr} {fd : FuncData} {cc : Cz} (T : Tz K mg cc) (FU : Fun K "_law_is_pair" "_law_is_pair" s_is_pair f fd) (hm : mg "_law_is_pair" = some (.ref f)) (hb : Binds K fd ["_law_found"] []) (n_bool : mg "bool" = none) (n_int : mg "int" = none) (n_isinstance : mg "isinstance" = none) (n_len : mg "len" = none) (n_tuple : mg "tuple" = none) : Fn P w0 K mg base CX0 1 "_law_is_pair" ["_law_found"] (sp_is_pair K cc) := by
  refine ⟨f, fd, FU.ok sc_is_pair (fun vs H Q E h => ?_) (fun cdv A outer s H0 vs Q E hr h => ?_), hm, FU.kp, hb⟩
  · obtain ⟨_, _, _, _, rfl, _⟩ := h; rfl
  · obtain ⟨F0, v1, found1, R, rfl, wf, r1, hW, hQ⟩ := h
    have nd := sc_is_pair.nd
    refine ⟨(tSeq (tIfS (tOr (tNot (tB (tCB (rIsi K) (tCons (tVar 0) (tCons (tC (.ty "tuple")) tNil))))) (tTest (tOp L2.rNe (tCB (Wk.rLen K) (tCons (tVar 0) tNil)) (tC (.int 2))))) (tRet (tC (.bl false))) tNext) (tRet (tOp (L2.rEqD K) (tLc (iTup K (tVar 0)) (gName 1) (tOr (tNot (tB (tCB (rIsi K) (tCons (tVar 1) (tCons (tC (.ty "int")) tNil))))) (tB (tCB (rIsi K) (tCons (tVar 1) (tCons (tC (.ty "bool")) tNil))))) (tVar 1) [1]) (tLst tNil)))), (pss_cons (ps_if (PW.pt (pw_or (pt_not (pt_val (pe_callB call_isi (by rfl) n_isinstance PyProof.Rows.boot_isinstance (pa_cons (pv 0) (pa_cons (pe_bltn (v := .ty "tuple") (by rfl) n_tuple PyProof.Rows.boot_tuple rfl) pa_nil))))) (pw_or1 (pt_cmpR op_ne (pe_callB call_len_seq (by rfl) n_len PySem.boot_len (pa_cons (pv 0) pa_nil)) pe_int (nomark _))))) (pss_one (ps_ret pe_bl)) pss_nil) (pss_one (ps_ret (pe_cmpR (op_eqD hr.units) (pe_lc (own := [("_law_one", 1)]) (wi := (iTup K (tVar 0))) (g := (gName 1)) (tt := (tOr (tNot (tB (tCB (rIsi K) (tCons (tVar 1) (tCons (tC (.ty "int")) tNil))))) (tB (tCB (rIsi K) (tCons (tVar 1) (tCons (tC (.ty "bool")) tNil)))))) (te := (tVar 1)) rfl nd (pi_tup (pv 0)) (blkOk_by (N := N_is_pair) (sc := defScope s_is_pair) (by decide +kernel)) (fun _ _ _ _ _ => (pg_name (i := 1) nd rfl (Or.inl rfl))) (fun _ _ _ _ _ => (pts_one (PW.pt (pw_or (pt_not (pt_val (pe_callB call_isi (by rfl) n_isinstance PyProof.Rows.boot_isinstance (pa_cons (pv 1) (pa_cons (pe_bltn (v := .ty "int") (by rfl) n_int PyProof.Rows.boot_int rfl) pa_nil))))) (pw_or1 (pt_val (pe_callB call_isi (by rfl) n_isinstance PyProof.Rows.boot_isinstance (pa_cons (pv 1) (pa_cons (pe_bltn (v := .ty "bool") (by rfl) n_bool PyProof.Rows.boot_bool rfl) pa_nil))))))))) (fun _ _ _ _ _ => (pv 1))) (pe_lst pa_nil) (nomark _))))), ?_⟩
    have w := Wf.id wf
    refine q_sq fun N1 hN1 => ?_
    refine a_ifE ?_
    refine e_jnT hW (fun b F' H' => b = b ∧ Wf F0 H0 F' H' ∧ Ex F0 F') ?_ ?_
    · intro N2 hN2 hW
      have gx1 : Ex F0 F0 := Ex.rfl'
      refine e_tOr ?_
      refine e_ans (b := decide (¬ ((isA "tuple" found1) = true))) (t_not (t_ofB (vb_of (v_isiA "tuple" (val_var rfl) r1 w.f) dec_tt))) ?_
      refine b_if (fun hc1 => ?_) (fun hc1 => ?_)
      · have hW := ifP hW hc1
        exact hN2 true _ _ ⟨rfl, w, gx1⟩ hW
      · have hW := ifN hW hc1
        obtain ⟨ys1, hy1, hW⟩ := hW
        have r2 := an_t.mp (hy1 ▸ r1)
        refine e_ans (b := decide (ys1.length ≠ 2)) (t_of (vb_dec (c_neI (len_TL r2 w.f (val_var rfl)) val_c) n_ne)) ?_
        exact hN2 (decide (ys1.length ≠ 2)) _ _ ⟨rfl, w, gx1⟩ hW
    intro b1 F1 H1 hI1 hW
    obtain ⟨_, w, gx2⟩ := hI1
    have r1 := Rep.mono _ gx2 r1
    refine bb_if (fun hc2 => ?_) (fun hc2 => ?_)
    · have hW := ifP hW hc2
      refine a_ret (v := (.bl (false))) val_c ?_
      exact hQ _ hW _ _ w
    · have hW := ifN hW hc2
      refine hN1 _ _ ?_
      refine a_retE ?_
      refine e_op ?_
      obtain ⟨ys2, hy2, hW⟩ := hW
      have r3 := an_t.mp (hy2 ▸ r1)
      refine c_J ?_
      refine e_val (v := v1) (val_var rfl) ?_
      refine src_tup r3 w.f (fun a1 T1 => ?_)
      obtain ⟨c1, hW⟩ := hW
      refine w_compG (e := pA) T1 w c1 hW ?_ ?_
      · intro Qy Qn one1 u1 F2 H2 R1 q1 hx1 ru1 hW hy3 hn1
        have r3 := Rep.mono _ q1.g r3
        have w := Wf.id q1.f
        refine ⟨rfl, ?_⟩
        refine e_ans (b := decide ((¬ ((isA "int" one1) = true)) ∨ ((isA "bool" one1) = true))) (t_or (t_not (t_ofB (vb_of (v_isiA "int" (val_var rfl) ru1 w.f) dec_tt))) (fun _ => (t_ofB (vb_of (v_isiA "bool" (val_var rfl) ru1 w.f) dec_tt)))) ?_
        refine b_if (fun hc3 => ?_) (fun hc3 => ?_)
        · have hW := ifP hW hc3
          refine e_val (v := u1) (val_var rfl) ?_
          exact hy3 _ _ _ _ w ru1 hW
        · have hW := ifN hW hc3
          exact hn1 _ _ w hW
      intro p1 ys3 F3 H3 hp1 s1 x1 hW
      replace r3 := Rep.mono _ s1.g r3
      replace w := w.tr s1
      refine e_lst ?_
      refine a_nil ?_
      refine n_lstX (e := pA) (xs := []) (vs := []) (show All pA _ [] [] from trivial) (show 0 < 1000000 from by decide) w ?_
      intro p2 H4 hp2 s2 x2
      have ne1 := x1.ne hp2
      replace r3 := Rep.mono _ s2.g r3
      replace x1 := x1.step s2
      replace w := w.tr s2
      obtain ⟨F4, w1, g1, r4, fz1⟩ := x1.frzE w
      replace r3 := Rep.mono _ g1 r3
      replace x2 := x2.frzO fz1 (Ne.symm ne1) g1
      replace w := w1
      obtain ⟨F5, w2, g2, r5, fz2⟩ := x2.frzE w
      replace r3 := Rep.mono _ g2 r3
      replace r4 := Rep.mono _ g2 r4
      replace w := w2
      have r6 : pA.r _ (.ref p1) (An.l ys3) := an_l.mpr r4
      have r7 : pA.r _ (.ref p2) (An.l ([] : List An)) := an_l.mpr r5
      obtain ⟨c2, hW⟩ := hW
      refine rv2 (z := .bl (decide (aeq (An.l ys3) (An.l ([] : List An)) = true))) (c_eqA (K := K) val_c val_c w.f r6 w.f r7 c2) ?_
      exact hQ _ hW _ _ w
abbrev s_words_right : Stmt := topS 19
/-! _law_words_right -/
def W_words_right (script1 : List Int) (R : Bool → Prop) : Prop := forW (cutT script1 none (some 60)) ([] : List Str) (fun cell_here1 words1 nx1 bk1 => (modN cell_here1 6 < 1000000) ∧ compW (List.range (modN cell_here1 6)) (fun k1 kk => W_signs fun z1 => W_mix cell_here1 k1 fun z2 => (z1.length < 1000000) ∧ ∃ c3 : Nat, z1.cps.toList[1 + (z2 % 94)]? = some c3 ∧ kk (some (sg c3))) fun ys1 => ((ys1.map (·.length)).sum + ys1.length * (PySem.Str.ofString "").length ≤ 16777216) ∧ (words1.length < 1000000) ∧ nx1 (words1 ++ [Txt.join (PySem.Str.ofString "") ys1])) fun words1 => jn (fun kk => (okV (pL pS) words1 ∧ okV (pL pS) ([] : List Str)) ∧ if words1 = ([] : List Str) then (kk [(PySem.Str.ofString "")]) else (kk words1)) fun words2 => ((words2.map (·.length)).sum + words2.length * (PySem.Str.ofString " ").length ≤ 16777216) ∧ ∀ row1 : Str, row1 = Txt.join (PySem.Str.ofString " ") words2 → W_words_of row1 fun z3 => jn (fun kk => (okV (pL pS) z3 ∧ okV (pL pS) words2) ∧ kk (decide (z3 ≠ words2))) fun b1 => if b1 = true then (R false) else ((z3.length < 1000000) ∧ W_words_of row1 fun z4 => (okV (pL pS) z4 ∧ okV (pL pS) words2) ∧ R (decide (z4 = words2)))
def sp_words_right (K : PySem.W.Frag) (cc : Cz) : Sp := fun vs H Q _ => ∃ (F : Hp) (v1 : V) (script1 : List Int) (R : Bool → Prop), vs = [v1] ∧ Ex F H ∧ (pScr K).r F v1 script1 ∧ W_words_right script1 R ∧ ∀ z, R z → ∀ F' H', Wf F H F' H' → Q (.bl (z)) H'
abbrev N_words_right : List Str := ["_law_script", "_law_words", "_law_cell_here", "_law_k", "_law_row", "_law_found"]
theorem sc_words_right : FnScope N_words_right ["_law_script"] (defScope s_words_right) := ⟨rfl, rfl, rfl, by decide +kernel, rfl, by decide +kernel, by decide +kernel⟩
theorem ok_words_right {P : Program} {w0 : World} {K : PySem.W.Frag} {mg : Str → Option Value} {base : Heap} {f : Addr} {fd : FuncData} {cc : Cz} (T : Tz K mg cc) (FU : Fun K "_law_words_right" "_law_words_right" s_words_right f fd) (hm : mg "_law_words_right" = some (.ref f)) (hb : Binds K fd ["_law_script"] []) (c_signs : Fn P w0 K mg base CX0 1 "_law_signs" [] (sp_signs K cc)) (c_mix : Fn P w0 K mg base CX0 1 "_law_mix" ["_law_cell_here", "_law_k"] (sp_mix K cc)) (c_words_of : Fn P w0 K mg base CX0 1 "words_of" ["row"] (sp_words_of K cc)) (n_isinstance : mg "isinstance" = none) (n_list : mg "list" = none) (n_range : mg "range" = none) : Fn P w0 K mg base CX0 2 "_law_words_right" ["_law_script"] (sp_words_right K cc) := by
  refine ⟨f, fd, FU.ok sc_words_right (fun vs H Q E h => ?_) (fun cdv A outer s H0 vs Q E hr h => ?_), hm, FU.kp, hb⟩
  · obtain ⟨_, _, _, _, rfl, _⟩ := h; rfl
  · obtain ⟨F0, v1, script1, R, rfl, wf, r1, hW, hQ⟩ := h
    have nd := sc_words_right.nd
    refine ⟨(tSeq (tAsg (tLst tNil) (gName 1)) (tSeq (tFor (iList K (tSl (rSlL K) (tVar 0) tNoPart (tPart (tC (.int 60))))) (gName 2) (tDrop (tBM K "list" rAppend (tVar 1) (tCons (tM1 (rJoin K) (tC (.str (PySem.Str.ofString ""))) (tLc (iRng1 (tCons (tOp kMod (tVar 2) (tC (.int 6))) tNil)) (gName 3) tYes (tOp L2.rIxS (tCall (sp_signs K cc) [] E0 tNil) (tOp kAdd (tC (.int 1)) (tOp kMod (tCall (sp_mix K cc) [] E0 (tCons (tVar 2) (tCons (tVar 3) tNil))) (tC (.int 94))))) [3])) tNil)))) (tSeq (tIfS (tTest (tOp (L2.rEqD K) (tVar 1) (tLst tNil))) (tAsg (tLst (tCons (tC (.str (PySem.Str.ofString ""))) tNil)) (gName 1)) tNext) (tSeq (tAsg (tM1 (rJoin K) (tC (.str (PySem.Str.ofString " "))) (tVar 1)) (gName 4)) (tSeq (tAsg (tCall (sp_words_of K cc) [] E0 (tCons (tVar 4) tNil)) (gName 5)) (tSeq (tIfS (tOr (tNot (tB (tCB (rIsi K) (tCons (tVar 5) (tCons (tC (.ty "list")) tNil))))) (tTest (tOp (L2.rNeD K) (tVar 5) (tVar 1)))) (tRet (tC (.bl false))) tNext) (tSeq (tDrop (tBM K "list" rAppend (tVar 5) (tCons (tC (.str (PySem.Str.ofString "x"))) tNil))) (tRet (tOp (L2.rEqD K) (tCall (sp_words_of K cc) [] E0 (tCons (tVar 4) tNil)) (tVar 1)))))))))), (pss_cons (ps_set (i := 1) nd rfl (Or.inl rfl) (pe_lst pa_nil)) (pss_cons (ps_for PassesOwn.never rfl (pi_list (pe_slice sl_list (pv 0) po_none (po_some pe_int))) (pg_name (i := 2) nd rfl (Or.inr rfl)) (pss_one (ps_expr (pe_bm PySem.F.plainAttrs_list PySem.F.slot_list_append PySem.F.type_list_append mt_append (pv 1) (pa_cons (pe_join pe_str (pe_lc (own := [("_law_k", 3)]) (wi := (iRng1 (tCons (tOp kMod (tVar 2) (tC (.int 6))) tNil))) (g := (gName 3)) (tt := tYes) (te := (tOp L2.rIxS (tCall (sp_signs K cc) [] E0 tNil) (tOp kAdd (tC (.int 1)) (tOp kMod (tCall (sp_mix K cc) [] E0 (tCons (tVar 2) (tCons (tVar 3) tNil))) (tC (.int 94)))))) rfl nd (pi_range1 rfl n_range (pa_cons (pe_op op_mod (pv 2) pe_int) pa_nil)) (blkOk_by (N := N_words_right) (sc := defScope s_words_right) (by decide +kernel)) (fun _ _ _ _ _ => (pg_name (i := 3) nd rfl (Or.inl rfl))) (fun _ _ _ _ _ => pts_nil) (fun _ _ _ _ _ => (pe_ix ix_str (pe_fn0 c_signs (hr.mono (by decide)) rfl) (pe_op op_add pe_int (pe_op op_mod (pe_fn c_mix (hr.mono (by decide)) rfl (pa_cons (pv 2) (pa_cons (pv 3) pa_nil))) pe_int)) (fun _ _ => rfl))))) pa_nil))))) (pss_cons (ps_if (pt_cmpR (op_eqD hr.units) (pv 1) (pe_lst pa_nil) (nomark _)) (pss_one (ps_set (i := 1) nd rfl (Or.inl rfl) (pe_lst (pa_cons pe_str pa_nil)))) pss_nil) (pss_cons (ps_set (i := 4) nd rfl (Or.inl rfl) (pe_join pe_str (pv 1))) (pss_cons (ps_set (i := 5) nd rfl (Or.inl rfl) (pe_fn c_words_of (hr.mono (by decide)) rfl (pa_cons (pv 4) pa_nil))) (pss_cons (ps_if (PW.pt (pw_or (pt_not (pt_val (pe_callB call_isi (by rfl) n_isinstance PyProof.Rows.boot_isinstance (pa_cons (pv 5) (pa_cons (pe_bltn (v := .ty "list") (by rfl) n_list PyProof.Rows.boot_list rfl) pa_nil))))) (pw_or1 (pt_cmpR (op_neD hr.units) (pv 5) (pv 1) (nomark _))))) (pss_one (ps_ret pe_bl)) pss_nil) (pss_cons (ps_expr (pe_bm PySem.F.plainAttrs_list PySem.F.slot_list_append PySem.F.type_list_append mt_append (pv 5) (pa_cons pe_str pa_nil))) (pss_one (ps_ret (pe_cmpR (op_eqD hr.units) (pe_fn c_words_of (hr.mono (by decide)) rfl (pa_cons (pv 4) pa_nil)) (pv 1) (nomark _))))))))))), ?_⟩
    have w := Wf.id wf
    refine q_sq fun N1 hN1 => ?_
    refine a_asgE ?_
    refine e_lst ?_
    refine a_nil ?_
    refine n_lstX (e := pS) (xs := []) (vs := []) (show All pS _ [] [] from trivial) (show 0 < 1000000 from by decide) w ?_
    intro p1 H1 hp1 s1 x1
    replace r1 := Rep.mono _ s1.g r1
    replace w := w.tr s1
    refine hN1 _ _ ?_
    refine q_sq fun N2 hN2 => ?_
    refine f_LE ?_
    refine n_cutS (lo := none) (hi := (some 60)) r1 (val_var rfl) po_n (po_s (n := 60) val_c) w ?_
    intro p2 H2 hp2 s2 x2
    have ne1 := x1.ne hp2
    replace r1 := Rep.mono _ s2.g r1
    replace x1 := x1.step s2
    replace w := w.tr s2
    obtain ⟨F1, w1, g1, r2, fz1⟩ := x2.frzE w
    replace r1 := Rep.mono _ g1 r1
    replace x1 := x1.frzO fz1 ne1 g1
    replace w := w1
    refine w_forL (S := List Str) (fun words1 σ' F' H' => ∃ (p3 : Addr) (o1 : Option V), Wf F0 H0 F' H' ∧ Ex F1 F' ∧ σ' = [some v1, some (.ref p3), o1, none, none, none] ∧ XL pS H0 F' H' p3 words1) r2 hW ⟨_, _, w, Ex.rfl', rfl, x1⟩ (fun s σ' F' H' hI => by obtain ⟨_, _, w', gx', _⟩ := hI; exact ⟨gx', w'.f⟩) w.f ?_ ?_
    · intro N3 Bk1 cell_here1 u1 words1 σ' F2 H3 nx1 bk1 hI1 hx1 ru1 hW hN3 hB1
      obtain ⟨p3, o1, w, gx1, rfl, x3⟩ := hI1
      have r1 := Rep.mono _ gx1 r1
      have r2 := Rep.mono _ gx1 r2
      obtain rfl : u1 = (.int (cell_here1)) := ru1
      refine g_name ?_
      refine a_dropE ?_
      refine m_list x3 (val_var rfl) ?_
      refine a_cons ?_
      refine e_m1 ?_
      refine e_val (v := (.str ((PySem.Str.ofString "")))) val_c ?_
      refine ⟨⟨_, rfl⟩, ?_⟩
      refine c_RE ?_
      refine e_val (v := (.int ((modN cell_here1 6 : Nat) : Int))) (vm_mod (val_var rfl) val_c (by decide)) ?_
      obtain ⟨c1, hW⟩ := hW
      refine w_compR (e := pS) w c1 hW ?_ ?_
      · intro Qy Qn k1 F3 H4 R1 q1 hx2 hW hy1 hn1
        have r1 := Rep.mono _ q1.g r1
        have x3 := x3.step q1
        have w := Wf.id q1.f
        refine ⟨rfl, ?_⟩
        refine c_yes ?_
        refine e_op ?_
        refine e_call ?_
        refine a_nil ?_
        refine ⟨F3, _, rfl, w.f, hW, ?_⟩
        intro z1 hW F4 H5 s4
        replace r1 := Rep.mono _ s4.g r1
        replace x3 := x3.step s4
        replace w := w.tr s4
        refine e_op ?_
        refine e_val (v := (.int ((1 : Nat) : Int))) val_c ?_
        refine e_op ?_
        refine e_call ?_
        refine a_val (v := (.int (cell_here1))) (val_var rfl) ?_
        refine a_val (v := (.int ((k1 : Nat) : Int))) (val_var rfl) ?_
        refine a_nil ?_
        refine ⟨F4, (cell_here1), (k1), _, rfl, w.f, hW, ?_⟩
        intro z2 hW F5 H6 s5
        replace r1 := Rep.mono _ s5.g r1
        replace x3 := x3.step s5
        replace w := w.tr s5
        refine e_val (v := (.int ((94 : Nat) : Int))) val_c ?_
        refine rv2 (z := (.int ((z2 % 94 : Nat) : Int))) (vn_mod val_c val_c (by decide)) ?_
        refine rv2 (z := (.int ((1 + (z2 % 94) : Nat) : Int))) (vn_add val_c val_c) ?_
        obtain ⟨c2, hW⟩ := hW
        obtain ⟨c3, hc1, hW⟩ := hW
        refine rv2 (z := .str (sg c3)) (ix_Str val_c val_c c2 hc1) ?_
        exact hy1 _ _ _ _ w rfl hW
      intro p4 ys1 F6 H7 hp3 s6 x4 hW
      have ne2 := x3.ne hp3
      replace r1 := Rep.mono _ s6.g r1
      replace x3 := x3.step s6
      replace w := w.tr s6
      replace gx1 := Ex.tr gx1 s6.g
      obtain ⟨c4, hW⟩ := hW
      refine n_joinX x4 c4 ?_
      refine a_nil ?_
      obtain ⟨c5, hW⟩ := hW
      refine a_app x3 w c5 rfl (fun H8 w2 x5 kp1 => ?_)
      replace w := w2
      exact hN3 (words1 ++ [Txt.join (PySem.Str.ofString "") ys1]) _ _ _ ⟨_, _, w, gx1, rfl, x5⟩ hW
    · intro words1 σ' F7 H9 hI2 hW
      obtain ⟨p3, o1, w, gx2, rfl, x3⟩ := hI2
      have r1 := Rep.mono _ gx2 r1
      have r2 := Rep.mono _ gx2 r2
      refine hN2 _ _ ?_
      refine q_jn (S := List Str) hW (fun words2 σ' F' H' => ∃ (p5 : Addr), Wf F0 H0 F' H' ∧ Ex F7 F' ∧ σ' = [some v1, some (.ref p5), o1, none, none, none] ∧ XL pS H0 F' H' p5 words2) ?_ ?_
      · intro N4 hN4 hW
        have gx3 : Ex F7 F7 := Ex.rfl'
        refine a_ifE ?_
        refine e_tT ?_
        refine e_op ?_
        refine e_val (v := (.ref p3)) (val_var rfl) ?_
        refine e_lst ?_
        refine a_nil ?_
        refine n_lstX (e := pS) (xs := []) (vs := []) (show All pS _ [] [] from trivial) (show 0 < 1000000 from by decide) w ?_
        intro p6 H10 hp4 s8 x7
        have ne3 := x3.ne hp4
        replace r1 := Rep.mono _ s8.g r1
        replace x3 := x3.step s8
        replace w := w.tr s8
        replace gx3 := Ex.tr gx3 s8.g
        replace gx2 := Ex.tr gx2 s8.g
        obtain ⟨F8, w3, g2, r3, fz2⟩ := x7.frzE w
        replace r1 := Rep.mono _ g2 r1
        replace x3 := x3.frzO fz2 ne3 g2
        replace w := w3
        replace gx3 := Ex.tr gx3 g2
        replace gx2 := Ex.tr gx2 g2
        obtain ⟨Fl1, lf1, _, lr1⟩ := x3.lend w
        obtain ⟨c6, hW⟩ := hW
        refine rv2T (b := decide (words1 = ([] : List Str))) (c_eqO (K := K) (e := (pL pS)) val_c val_c lf1 lr1 w.f r3 c6) ?_
        refine b_if (fun hc2 => ?_) (fun hc2 => ?_)
        · have hW := ifP hW hc2
          refine a_asgE ?_
          refine e_lst ?_
          refine a_val (v := (.str ((PySem.Str.ofString "")))) val_c ?_
          refine a_nil ?_
          refine n_lstX (e := pS) (xs := [(PySem.Str.ofString "")]) (vs := [(.str ((PySem.Str.ofString "")))]) (show All pS _ [(.str ((PySem.Str.ofString "")))] [(PySem.Str.ofString "")] from ⟨rfl, trivial⟩) (show 1 < 1000000 from by decide) w ?_
          intro p7 H11 hp5 s9 x8
          have ne4 := x3.ne hp5
          replace r1 := Rep.mono _ s9.g r1
          replace x3 := x3.step s9
          replace w := w.tr s9
          replace gx3 := Ex.tr gx3 s9.g
          replace gx2 := Ex.tr gx2 s9.g
          exact hN4 [(PySem.Str.ofString "")] _ _ _ ⟨_, w, gx3, rfl, x8⟩ hW
        · have hW := ifN hW hc2
          exact hN4 words1 _ _ _ ⟨_, w, gx3, rfl, x3⟩ hW
      · intro words2 σ' F9 H12 hI3 hW
        obtain ⟨p5, w, gx4, rfl, x6⟩ := hI3
        have r1 := Rep.mono _ gx4 r1
        have gx2 := Ex.tr gx2 gx4
        refine q_sq fun N5 hN5 => ?_
        refine a_asgE ?_
        refine e_m1 ?_
        refine e_val (v := (.str ((PySem.Str.ofString " ")))) val_c ?_
        refine ⟨⟨_, rfl⟩, ?_⟩
        refine e_val (v := (.ref p5)) (val_var rfl) ?_
        obtain ⟨c7, hW⟩ := hW
        refine n_joinX x6 c7 ?_
        obtain ⟨row1, erow1⟩ : ∃ row1 : Str, row1 = Txt.join (PySem.Str.ofString " ") words2 := ⟨_, rfl⟩
        replace hW := hW row1 erow1
        refine nx_set (v := (.str (row1))) (by rw [erow1]) ?_
        refine hN5 _ _ ?_
        refine q_sq fun N6 hN6 => ?_
        refine a_asgE ?_
        refine e_call ?_
        refine a_val (v := (.str (row1))) (val_var rfl) ?_
        refine a_nil ?_
        refine ⟨F9, (row1), _, rfl, w.f, hW, ?_⟩
        intro z3 hW p8 F10 H13 s11 x9
        have ne5 := x6.ne x9.zero
        replace x9 := x9.base w
        replace r1 := Rep.mono _ s11.g r1
        replace x6 := x6.step s11
        replace w := w.tr s11
        replace gx4 := Ex.tr gx4 s11.g
        replace gx2 := Ex.tr gx2 s11.g
        refine hN6 _ _ ?_
        refine q_sq fun N7 hN7 => ?_
        refine a_ifE ?_
        refine e_jnT hW (fun b F' H' => b = b ∧ Wf F0 H0 F' H' ∧ Ex F10 F' ∧ XL pS H0 F' H' p5 words2 ∧ XL pS H0 F' H' p8 z3) ?_ ?_
        · intro N8 hN8 hW
          have gx5 : Ex F10 F10 := Ex.rfl'
          refine e_tOr ?_
          refine e_ans (b := false) (t_dec (t_iff (p := ¬ (True)) (q := False) (t_not (t_ofB (vb_of (v_isi (b := true) (val_var rfl) (ty_X x9) (by decide +kernel)) dec_T))) (by simp)) dec_F.symm) ?_
          refine if_f ?_
          obtain ⟨Fl2, lf2, _, lr2⟩ := x9.lend w
          obtain ⟨Fl3, lf3, _, lr3⟩ := x6.lend w
          obtain ⟨c8, hW⟩ := hW
          refine e_ans (b := decide (z3 ≠ words2)) (t_of (c_neO (K := K) (e := (pL pS)) (val_var rfl) (val_var rfl) lf2 lr2 lf3 lr3 c8)) ?_
          exact hN8 (decide (z3 ≠ words2)) _ _ ⟨rfl, w, gx5, x6, x9⟩ hW
        intro b1 F11 H14 hI4 hW
        obtain ⟨_, w, gx6, x10, x11⟩ := hI4
        have r1 := Rep.mono _ gx6 r1
        have gx4 := Ex.tr gx4 gx6
        have gx2 := Ex.tr gx2 gx6
        refine bb_if (fun hc3 => ?_) (fun hc3 => ?_)
        · have hW := ifP hW hc3
          refine a_ret (v := (.bl (false))) val_c ?_
          exact hQ _ hW _ _ w
        · have hW := ifN hW hc3
          refine hN7 _ _ ?_
          refine q_sq fun N9 hN9 => ?_
          refine a_dropE ?_
          refine m_list x11 (val_var rfl) ?_
          refine a_val (v := (.str ((PySem.Str.ofString "x")))) val_c ?_
          refine a_nil ?_
          obtain ⟨c9, hW⟩ := hW
          refine a_app x11 w c9 rfl (fun H15 w4 x12 kp2 => ?_)
          replace x10 := x10.kept kp2 ne5
          replace w := w4
          refine hN9 _ _ ?_
          refine a_retE ?_
          refine e_op ?_
          refine e_call ?_
          refine a_val (v := (.str (row1))) (val_var rfl) ?_
          refine a_nil ?_
          refine ⟨F11, (row1), _, rfl, w.f, hW, ?_⟩
          intro z4 hW p9 F12 H16 s12 x13
          have ne6 := x10.ne x13.zero
          have ne7 := x12.ne x13.zero
          replace x13 := x13.base w
          replace r1 := Rep.mono _ s12.g r1
          replace x10 := x10.step s12
          replace x12 := x12.step s12
          replace w := w.tr s12
          replace gx4 := Ex.tr gx4 s12.g
          replace gx2 := Ex.tr gx2 s12.g
          refine e_val (v := (.ref p5)) (val_var rfl) ?_
          obtain ⟨F13, w5, g3, r4, fz3⟩ := x13.frzE w
          replace r1 := Rep.mono _ g3 r1
          replace x10 := x10.frzO fz3 ne6 g3
          replace x12 := x12.frzO fz3 ne7 g3
          replace w := w5
          replace gx4 := Ex.tr gx4 g3
          replace gx2 := Ex.tr gx2 g3
          obtain ⟨Fl4, lf4, _, lr4⟩ := x10.lend w
          obtain ⟨c10, hW⟩ := hW
          refine rv2 (z := .bl (decide (z4 = words2))) (c_eqO (K := K) (e := (pL pS)) val_c val_c w.f r4 lf4 lr4 c10) ?_
          exact hQ _ hW _ _ w
abbrev s_law : Stmt := topS 20
/-! law -/
def W_law (script1 : List Int) (R : Bool → Prop) : Prop := W_cell script1 0 fun z1 => ∀ width1 : Nat, width1 = modN z1 65 → W_cell script1 1 fun z2 => (width1 < 100000000) ∧ ∀ mask1 : Nat, mask1 = modN z2 (2 ^ width1) → W_text_of mask1 width1 fun z3 => (width1 < 1000000) ∧ compW (List.range width1) (fun k1 kk => (k1 < 100000000) ∧ (NDiv (2 ^ k1)) ∧ ((PySem.Str.ofString "01").length < 1000000) ∧ ∃ c6 : Nat, (PySem.Str.ofString "01").cps.toList[(mask1 / (2 ^ k1)) % 2]? = some c6 ∧ kk (some (sg c6))) fun ys1 => ((ys1.map (·.length)).sum + ys1.length * (PySem.Str.ofString "").length ≤ 16777216) ∧ ∀ due1 : Str, due1 = Txt.join (PySem.Str.ofString "") ys1 → jn (fun kk => if z3 ≠ due1 then (kk true) else (W_mask_in (An.s z3) False fun z4 => W_is_pair ((fun x => An.t [(fun n : Nat => An.i (n : Int)) x.1, (fun n : Nat => An.i (n : Int)) x.2]) z4) fun z5 => if z5 = true then (W_mask_in (An.s z3) False fun z6 => kk (decide (z6 ≠ (mask1, width1)))) else (kk true))) fun b1 => if b1 = true then (R false) else (W_cell script1 2 fun z7 => W_spoilt z3 z7 fun z8 => (width1 ≤ 65) ∧ ((65 - width1) < 1000000 ∧ (PySem.Str.ofString "0").length * (65 - width1) < 1000000) ∧ (z8.length + (mulS (PySem.Str.ofString "0") (65 - width1)).length < 1000000) ∧ (65 < 1000000 ∧ (PySem.Str.ofString "1").length * 65 < 1000000) ∧ (z3.length + (mulS (PySem.Str.ofString "1") 65).length < 1000000) ∧ (z8.length + (PySem.Str.ofString "0").length < 1000000) ∧ forW [z8, z8 ++ (mulS (PySem.Str.ofString "0") (65 - width1)), z3 ++ (mulS (PySem.Str.ofString "1") 65), z8 ++ (PySem.Str.ofString "0")] () (fun one1 _ nx1 bk1 => W_told (An.s one1) fun z9 => jn (fun kk => W_read one1 fun z10 => (aok z9 = true ∧ aok z10 = true) ∧ if ¬ aeq z9 z10 = true then (kk true) else (if neAS z9 (PySem.Str.ofString "refused") = true then (W_is_pair z9 fun z11 => kk (!z11)) else (kk false))) fun b2 => if b2 = true then (R false) else (nx1 ())) fun _ => forW [An.n, (An.i ((5 : Nat) : Int)), (An.b true), (An.l ([z3].map An.s)), (An.t ([z3].map An.s))] () (fun thing1 _ nx2 bk2 => W_told thing1 fun z12 => (aok z12 = true ∧ aok (An.s (PySem.Str.ofString "refused")) = true) ∧ if ¬ aeq z12 (An.s (PySem.Str.ofString "refused")) = true then (R false) else (nx2 ())) fun _ => W_words_right script1 fun z13 => R z13)
def sp_law (K : PySem.W.Frag) (cc : Cz) : Sp := fun vs H Q _ => ∃ (F : Hp) (v1 : V) (script1 : List Int) (R : Bool → Prop), vs = [v1] ∧ Ex F H ∧ (pScr K).r F v1 script1 ∧ W_law script1 R ∧ ∀ z, R z → ∀ F' H', Wf F H F' H' → Q (.bl (z)) H'
abbrev N_law : List Str := ["_law_script", "_law_width", "_law_mask", "_law_text", "_law_due", "_law_k", "_law_odd", "_law_one", "_law_found", "_law_thing"]
theorem sc_law : FnScope N_law ["_law_script"] (defScope s_law) := ⟨rfl, rfl, rfl, by decide +kernel, rfl, by decide +kernel, by decide +kernel⟩
theorem ok_law {P : Program} {w0 : World} {K : PySem.W.Frag} {mg : Str → Option Value} {base : Heap} {f : Addr} {fd : FuncData} {cc : Cz} (T : Tz K mg cc) (FU : Fun K "law" "law" s_law f fd) (c_cell : Fn P w0 K mg base CX0 1 "_law_cell" ["_law_script", "_law_k"] (sp_cell K cc)) (c_text_of : Fn P w0 K mg base CX0 1 "text_of" ["mask", "width"] (sp_text_of K cc)) (c_mask_in : Fn P w0 K mg base (L2.CX P w0) 1 "mask_in" ["text"] (sp_mask_in K cc)) (c_is_pair : Fn P w0 K mg base CX0 1 "_law_is_pair" ["_law_found"] (sp_is_pair K cc)) (c_spoilt : Fn P w0 K mg base CX0 2 "_law_spoilt" ["_law_text", "_law_cell_here"] (sp_spoilt K cc)) (c_told : Fn P w0 K mg base CX0 2 "_law_told" ["_law_thing"] (sp_told K cc)) (c_read : Fn P w0 K mg base CX0 1 "_law_read" ["_law_text"] (sp_read K cc)) (c_words_right : Fn P w0 K mg base CX0 2 "_law_words_right" ["_law_script"] (sp_words_right K cc)) (n_isinstance : mg "isinstance" = none) (n_range : mg "range" = none) (n_str : mg "str" = none) : FnOk P w0 K mg base CX0 3 f fd ["_law_script"] (sp_law K cc) := by
  refine FU.ok sc_law (fun vs H Q E h => ?_) (fun cdv A outer s H0 vs Q E hr h => ?_)
  · obtain ⟨_, _, _, _, rfl, _⟩ := h; rfl
  · obtain ⟨F0, v1, script1, R, rfl, wf, r1, hW, hQ⟩ := h
    have nd := sc_law.nd
    refine ⟨(tSeq (tAsg (tOp kMod (tCall (sp_cell K cc) [] E0 (tCons (tVar 0) (tCons (tC (.int 0)) tNil))) (tC (.int 65))) (gName 1)) (tSeq (tAsg (tOp kMod (tCall (sp_cell K cc) [] E0 (tCons (tVar 0) (tCons (tC (.int 1)) tNil))) (tOp kShl (tC (.int 1)) (tVar 1))) (gName 2)) (tSeq (tAsg (tCall (sp_text_of K cc) [] E0 (tCons (tVar 2) (tCons (tVar 1) tNil))) (gName 3)) (tSeq (tAsg (tM1 (rJoin K) (tC (.str (PySem.Str.ofString ""))) (tLc (iRng1 (tCons (tVar 1) tNil)) (gName 5) tYes (tOp L2.rIxS (tC (.str (PySem.Str.ofString "01"))) (tOp kMod (tOp kDiv (tVar 2) (tOp kShl (tC (.int 1)) (tVar 5))) (tC (.int 2)))) [5])) (gName 4)) (tSeq (tIfS (tOr (tNot (tB (tCB (rIsi K) (tCons (tVar 3) (tCons (tC (.ty "str")) tNil))))) (tOr (tTest (tOp L2.rNe (tVar 3) (tVar 4))) (tOr (tNot (tB (tCall (sp_is_pair K cc) [] E0 (tCons (tCall (sp_mask_in K cc) [] E0 (tCons (tVar 3) tNil)) tNil)))) (tTest (tOp (L2.rNeD K) (tCall (sp_mask_in K cc) [] E0 (tCons (tVar 3) tNil)) (tTup (tCons (tVar 2) (tCons (tVar 1) tNil)))))))) (tRet (tC (.bl false))) tNext) (tSeq (tAsg (tCall (sp_spoilt K cc) [] E0 (tCons (tVar 3) (tCons (tCall (sp_cell K cc) [] E0 (tCons (tVar 0) (tCons (tC (.int 2)) tNil))) tNil))) (gName 6)) (tSeq (tFor (iList K (tLst (tCons (tVar 6) (tCons (tOp kAddS (tVar 6) (tOp kMulS (tC (.str (PySem.Str.ofString "0"))) (tOp kSub (tC (.int 65)) (tVar 1)))) (tCons (tOp kAddS (tVar 3) (tOp kMulS (tC (.str (PySem.Str.ofString "1"))) (tC (.int 65)))) (tCons (tOp kAddS (tVar 6) (tC (.str (PySem.Str.ofString "0")))) tNil)))))) (gName 7) (tSeq (tAsg (tCall (sp_told K cc) [] E0 (tCons (tVar 7) tNil)) (gName 8)) (tIfS (tOr (tTest (tOp (L2.rNeD K) (tVar 8) (tCall (sp_read K cc) [] E0 (tCons (tVar 7) tNil)))) (tAnd (tTest (tOp (rNeAS K) (tVar 8) (tC (.str (PySem.Str.ofString "refused"))))) (tNot (tB (tCall (sp_is_pair K cc) [] E0 (tCons (tVar 8) tNil)))))) (tRet (tC (.bl false))) tNext))) (tSeq (tFor (iList K (tLst (tCons (tC .non) (tCons (tC (.int 5)) (tCons (tC (.bl true)) (tCons (tLst (tCons (tVar 3) tNil)) (tCons (tTup (tCons (tVar 3) tNil)) tNil))))))) (gName 9) (tIfS (tTest (tOp (L2.rNeD K) (tCall (sp_told K cc) [] E0 (tCons (tVar 9) tNil)) (tC (.str (PySem.Str.ofString "refused"))))) (tRet (tC (.bl false))) tNext)) (tRet (tCall (sp_words_right K cc) [] E0 (tCons (tVar 0) tNil))))))))))), (pss_cons (ps_set (i := 1) nd rfl (Or.inl rfl) (pe_op op_mod (pe_fn c_cell (hr.mono (by decide)) rfl (pa_cons (pv 0) (pa_cons pe_int pa_nil))) pe_int)) (pss_cons (ps_set (i := 2) nd rfl (Or.inr rfl) (pe_op op_mod (pe_fn c_cell (hr.mono (by decide)) rfl (pa_cons (pv 0) (pa_cons pe_int pa_nil))) (pe_op op_shlW pe_int (pv 1)))) (pss_cons (ps_set (i := 3) nd rfl (Or.inl rfl) (pe_fn c_text_of (hr.mono (by decide)) rfl (pa_cons (pv 2) (pa_cons (pv 1) pa_nil)))) (pss_cons (ps_set (i := 4) nd rfl (Or.inl rfl) (pe_join pe_str (pe_lc (own := [("_law_k", 5)]) (wi := (iRng1 (tCons (tVar 1) tNil))) (g := (gName 5)) (tt := tYes) (te := (tOp L2.rIxS (tC (.str (PySem.Str.ofString "01"))) (tOp kMod (tOp kDiv (tVar 2) (tOp kShl (tC (.int 1)) (tVar 5))) (tC (.int 2))))) rfl nd (pi_range1 rfl n_range (pa_cons (pv 1) pa_nil)) (blkOk_by (N := N_law) (sc := defScope s_law) (by decide +kernel)) (fun _ _ _ _ _ => (pg_name (i := 5) nd rfl (Or.inl rfl))) (fun _ _ _ _ _ => pts_nil) (fun _ _ _ _ _ => (pe_ix ix_str pe_str (pe_op op_mod (pe_op op_fdivW (pv 2) (pe_op op_shlW pe_int (pv 5))) pe_int) (fun _ _ => rfl)))))) (pss_cons (ps_if (PW.pt (pw_or (pt_not (pt_val (pe_callB call_isi (by rfl) n_isinstance PyProof.Rows.boot_isinstance (pa_cons (pv 3) (pa_cons (pe_bltn (v := .ty "str") (by rfl) n_str PyProof.Rows.boot_str rfl) pa_nil))))) (pw_or (pt_cmpR op_ne (pv 3) (pv 4) (nomark _)) (pw_or (pt_not (pt_val (pe_fn c_is_pair (hr.mono (by decide)) rfl (pa_cons (pe_fnL c_mask_in (hr.mono (by decide)) rfl (pa_cons (pv 3) pa_nil)) pa_nil)))) (pw_or1 (pt_cmpR (op_neD hr.units) (pe_fnL c_mask_in (hr.mono (by decide)) rfl (pa_cons (pv 3) pa_nil)) (pe_tup (pa_cons (pv 2) (pa_cons (pv 1) pa_nil))) (nomark _))))))) (pss_one (ps_ret pe_bl)) pss_nil) (pss_cons (ps_set (i := 6) nd rfl (Or.inl rfl) (pe_fn c_spoilt (hr.mono (by decide)) rfl (pa_cons (pv 3) (pa_cons (pe_fn c_cell (hr.mono (by decide)) rfl (pa_cons (pv 0) (pa_cons pe_int pa_nil))) pa_nil)))) (pss_cons (ps_for PassesOwn.never rfl (pi_list (pe_lst (pa_cons (pv 6) (pa_cons (pe_op op_addS (pv 6) (pe_op op_mulSn pe_str (pe_op op_sub pe_int (pv 1)))) (pa_cons (pe_op op_addS (pv 3) (pe_op op_mulSn pe_str pe_int)) (pa_cons (pe_op op_addS (pv 6) pe_str) pa_nil)))))) (pg_name (i := 7) nd rfl (Or.inl rfl)) (pss_cons (ps_set (i := 8) nd rfl (Or.inl rfl) (pe_fn c_told (hr.mono (by decide)) rfl (pa_cons (pv 7) pa_nil))) (pss_one (ps_if (PW.pt (pw_or (pt_cmpR (op_neD hr.units) (pv 8) (pe_fn c_read (hr.mono (by decide)) rfl (pa_cons (pv 7) pa_nil)) (nomark _)) (pw_or1 (PW.pt (pw_and (pt_cmpR (op_neAS hr.units) (pv 8) pe_str (nomark _)) (pw_and1 (pt_not (pt_val (pe_fn c_is_pair (hr.mono (by decide)) rfl (pa_cons (pv 8) pa_nil)))))))))) (pss_one (ps_ret pe_bl)) pss_nil)))) (pss_cons (ps_for PassesOwn.never rfl (pi_list (pe_lst (pa_cons pe_non (pa_cons pe_int (pa_cons pe_bl (pa_cons (pe_lst (pa_cons (pv 3) pa_nil)) (pa_cons (pe_tup (pa_cons (pv 3) pa_nil)) pa_nil))))))) (pg_name (i := 9) nd rfl (Or.inl rfl)) (pss_one (ps_if (pt_cmpR (op_neD hr.units) (pe_fn c_told (hr.mono (by decide)) rfl (pa_cons (pv 9) pa_nil)) pe_str (nomark _)) (pss_one (ps_ret pe_bl)) pss_nil))) (pss_one (ps_ret (pe_fn c_words_right (hr.mono (by decide)) rfl (pa_cons (pv 0) pa_nil)))))))))))), ?_⟩
    have w := Wf.id wf
    refine q_sq fun N1 hN1 => ?_
    refine a_asgE ?_
    refine e_op ?_
    refine e_call ?_
    refine a_val (v := v1) (val_var rfl) ?_
    refine a_val (v := (.int ((0 : Nat) : Int))) val_c ?_
    refine a_nil ?_
    refine ⟨F0, (v1), (script1), (0), _, rfl, w.f, r1, hW, ?_⟩
    intro z1 hW F1 H1 s1
    replace r1 := Rep.mono _ s1.g r1
    replace w := w.tr s1
    refine e_val (v := (.int ((65 : Nat) : Int))) val_c ?_
    refine rv2 (z := (.int ((modN z1 65 : Nat) : Int))) (vm_mod val_c val_c (by decide)) ?_
    obtain ⟨width1, ewidth1⟩ : ∃ width1 : Nat, width1 = modN z1 65 := ⟨_, rfl⟩
    replace hW := hW width1 ewidth1
    refine nx_set (v := (.int ((width1 : Nat) : Int))) (by rw [ewidth1]) ?_
    refine hN1 _ _ ?_
    refine q_sq fun N2 hN2 => ?_
    refine a_asgE ?_
    refine e_op ?_
    refine e_call ?_
    refine a_val (v := v1) (val_var rfl) ?_
    refine a_val (v := (.int ((1 : Nat) : Int))) val_c ?_
    refine a_nil ?_
    refine ⟨F1, (v1), (script1), (1), _, rfl, w.f, r1, hW, ?_⟩
    intro z2 hW F2 H2 s2
    replace r1 := Rep.mono _ s2.g r1
    replace w := w.tr s2
    obtain ⟨c1, hW⟩ := hW
    refine e_val (v := (.int ((2 ^ width1 : Nat) : Int))) (vn_one val_c (val_var rfl) c1) ?_
    refine rv2 (z := (.int ((modN z2 (2 ^ width1) : Nat) : Int))) (vm_mod val_c val_c (Nat.two_pow_pos _)) ?_
    obtain ⟨mask1, emask1⟩ : ∃ mask1 : Nat, mask1 = modN z2 (2 ^ width1) := ⟨_, rfl⟩
    replace hW := hW mask1 emask1
    refine nx_set (v := (.int ((mask1 : Nat) : Int))) (by rw [emask1]) ?_
    refine hN2 _ _ ?_
    refine q_sq fun N3 hN3 => ?_
    refine a_asgE ?_
    refine e_call ?_
    refine a_val (v := (.int ((mask1 : Nat) : Int))) (val_var rfl) ?_
    refine a_val (v := (.int ((width1 : Nat) : Int))) (val_var rfl) ?_
    refine a_nil ?_
    refine ⟨F2, (mask1), (width1), _, rfl, w.f, hW, ?_⟩
    intro z3 hW F3 H3 s3
    replace r1 := Rep.mono _ s3.g r1
    replace w := w.tr s3
    refine hN3 _ _ ?_
    refine q_sq fun N4 hN4 => ?_
    refine a_asgE ?_
    refine e_m1 ?_
    refine e_val (v := (.str ((PySem.Str.ofString "")))) val_c ?_
    refine ⟨⟨_, rfl⟩, ?_⟩
    refine c_RE ?_
    refine e_val (v := (.int ((width1 : Nat) : Int))) (val_var rfl) ?_
    obtain ⟨c2, hW⟩ := hW
    refine w_compR (e := pS) w c2 hW ?_ ?_
    · intro Qy Qn k1 F4 H4 R1 q1 hx1 hW hy1 hn1
      have r1 := Rep.mono _ q1.g r1
      have w := Wf.id q1.f
      refine ⟨rfl, ?_⟩
      refine c_yes ?_
      obtain ⟨c3, hW⟩ := hW
      obtain ⟨c4, hW⟩ := hW
      obtain ⟨c5, hW⟩ := hW
      obtain ⟨c6, hc1, hW⟩ := hW
      refine e_val (v := (.str (sg c6))) (ix_Str val_c (vn_mod (vn_div (val_var rfl) (vn_one val_c (val_var rfl) c3) c4) val_c (by decide)) c5 hc1) ?_
      exact hy1 _ _ _ _ w rfl hW
    intro p1 ys1 F5 H5 hp1 s4 x1 hW
    replace r1 := Rep.mono _ s4.g r1
    replace w := w.tr s4
    obtain ⟨c7, hW⟩ := hW
    refine n_joinX x1 c7 ?_
    obtain ⟨due1, edue1⟩ : ∃ due1 : Str, due1 = Txt.join (PySem.Str.ofString "") ys1 := ⟨_, rfl⟩
    replace hW := hW due1 edue1
    refine nx_set (v := (.str (due1))) (by rw [edue1]) ?_
    refine hN4 _ _ ?_
    refine q_sq fun N5 hN5 => ?_
    refine a_ifE ?_
    refine e_jnT hW (fun b F' H' => b = b ∧ Wf F0 H0 F' H' ∧ Ex F5 F') ?_ ?_
    · intro N6 hN6 hW
      have gx1 : Ex F5 F5 := Ex.rfl'
      refine e_tOr ?_
      refine e_ans (b := false) (t_dec (t_iff (p := ¬ (True)) (q := False) (t_not (t_ofB (vb_of (v_isi (b := true) (val_var rfl) (.base (.str _)) (by decide +kernel)) dec_T))) (by simp)) dec_F.symm) ?_
      refine if_f ?_
      refine e_tOr ?_
      refine e_ans (b := decide (z3 ≠ due1)) (t_of (c_neS (val_var rfl) (val_var rfl))) ?_
      refine b_if (fun hc2 => ?_) (fun hc2 => ?_)
      · have hW := ifP hW hc2
        exact hN6 true _ _ ⟨rfl, w, gx1⟩ hW
      · have hW := ifN hW hc2
        refine e_tOr ?_
        refine e_tNot ?_
        refine e_tB ?_
        refine e_call ?_
        refine a_cons ?_
        refine e_call ?_
        refine a_val (v := (.str (z3))) (val_var rfl) ?_
        refine a_nil ?_
        refine ⟨F5, ((.str (z3))), ((An.s z3)), _, _, rfl, w.f, (show pA.r _ (.str (z3)) (An.s z3) from rfl), hW, ?_, ?_⟩
        · intro hW; exact hW.elim
        intro z4 hW v2 F6 H6 s5 r2
        replace r1 := Rep.mono _ s5.g r1
        replace w := w.tr s5
        replace gx1 := Ex.tr gx1 s5.g
        refine a_nil ?_
        have r3 : pA.r _ v2 ((fun x => An.t [(fun n : Nat => An.i (n : Int)) x.1, (fun n : Nat => An.i (n : Int)) x.2]) z4) := (cv_T2 cv_nat cv_nat) r2
        refine ⟨F6, (v2), (((fun x => An.t [(fun n : Nat => An.i (n : Int)) x.1, (fun n : Nat => An.i (n : Int)) x.2]) z4)), _, rfl, w.f, r3, hW, ?_⟩
        intro z5 hW F7 H7 s6
        replace r1 := Rep.mono _ s6.g r1
        replace r2 := Rep.mono _ s6.g r2
        replace w := w.tr s6
        replace gx1 := Ex.tr gx1 s6.g
        refine bl_v ?_
        refine bb_ifn (fun hc3 => ?_) (fun hc3 => ?_)
        · have hW := ifP hW hc3
          refine e_tT ?_
          refine e_op ?_
          refine e_call ?_
          refine a_val (v := (.str (z3))) (val_var rfl) ?_
          refine a_nil ?_
          refine ⟨F7, ((.str (z3))), ((An.s z3)), _, _, rfl, w.f, (show pA.r _ (.str (z3)) (An.s z3) from rfl), hW, ?_, ?_⟩
          · intro hW; exact hW.elim
          intro z6 hW v3 F8 H8 s7 r4
          replace r1 := Rep.mono _ s7.g r1
          replace r2 := Rep.mono _ s7.g r2
          replace w := w.tr s7
          replace gx1 := Ex.tr gx1 s7.g
          refine e_tup ?_
          refine a_val (v := (.int ((mask1 : Nat) : Int))) (val_var rfl) ?_
          refine a_val (v := (.int ((width1 : Nat) : Int))) (val_var rfl) ?_
          refine a_nil ?_
          refine n_tup2 (e := pN) (f := pN) (x := mask1) (y := width1) rfl rfl w ?_
          intro p2 F9 H9 s8 r5
          replace r1 := Rep.mono _ s8.g r1
          replace r2 := Rep.mono _ s8.g r2
          replace r4 := Rep.mono _ s8.g r4
          replace w := w.tr s8
          replace gx1 := Ex.tr gx1 s8.g
          refine rv2T (b := decide (z6 ≠ (mask1, width1))) (c_neD (K := K) (e := (pT2 pN pN)) val_c val_c w.f r4 w.f r5) ?_
          exact hN6 (decide (z6 ≠ (mask1, width1))) _ _ ⟨rfl, w, gx1⟩ hW
        · have hW := ifN hW hc3
          exact hN6 true _ _ ⟨rfl, w, gx1⟩ hW
    intro b1 F10 H10 hI1 hW
    obtain ⟨_, w, gx2⟩ := hI1
    have r1 := Rep.mono _ gx2 r1
    refine bb_if (fun hc4 => ?_) (fun hc4 => ?_)
    · have hW := ifP hW hc4
      refine a_ret (v := (.bl (false))) val_c ?_
      exact hQ _ hW _ _ w
    · have hW := ifN hW hc4
      refine hN5 _ _ ?_
      refine q_sq fun N7 hN7 => ?_
      refine a_asgE ?_
      refine e_call ?_
      refine a_val (v := (.str (z3))) (val_var rfl) ?_
      refine a_cons ?_
      refine e_call ?_
      refine a_val (v := v1) (val_var rfl) ?_
      refine a_val (v := (.int ((2 : Nat) : Int))) val_c ?_
      refine a_nil ?_
      refine ⟨F10, (v1), (script1), (2), _, rfl, w.f, r1, hW, ?_⟩
      intro z7 hW F11 H11 s9
      replace r1 := Rep.mono _ s9.g r1
      replace w := w.tr s9
      refine a_nil ?_
      refine ⟨F11, (z3), (z7), _, rfl, w.f, hW, ?_⟩
      intro z8 hW F12 H12 s10
      replace r1 := Rep.mono _ s10.g r1
      replace w := w.tr s10
      refine hN7 _ _ ?_
      refine q_sq fun N8 hN8 => ?_
      refine f_LE ?_
      refine e_lst ?_
      refine a_val (v := (.str (z8))) (val_var rfl) ?_
      obtain ⟨c8, hW⟩ := hW
      obtain ⟨c9, hW⟩ := hW
      obtain ⟨c10, hW⟩ := hW
      refine a_val (v := (.str (z8 ++ (mulS (PySem.Str.ofString "0") (65 - width1))))) (v_addS (val_var rfl) (v_mulS val_c (vn_sub val_c (val_var rfl) c8) c9) c10) ?_
      obtain ⟨c11, hW⟩ := hW
      obtain ⟨c12, hW⟩ := hW
      refine a_val (v := (.str (z3 ++ (mulS (PySem.Str.ofString "1") 65)))) (v_addS (val_var rfl) (v_mulS val_c val_c c11) c12) ?_
      obtain ⟨c13, hW⟩ := hW
      refine a_val (v := (.str (z8 ++ (PySem.Str.ofString "0")))) (v_addS (val_var rfl) val_c c13) ?_
      refine a_nil ?_
      refine n_lstX (e := pS) (xs := [z8, z8 ++ (mulS (PySem.Str.ofString "0") (65 - width1)), z3 ++ (mulS (PySem.Str.ofString "1") 65), z8 ++ (PySem.Str.ofString "0")]) (vs := [(.str (z8)), (.str (z8 ++ (mulS (PySem.Str.ofString "0") (65 - width1)))), (.str (z3 ++ (mulS (PySem.Str.ofString "1") 65))), (.str (z8 ++ (PySem.Str.ofString "0")))]) (show All pS _ [(.str (z8)), (.str (z8 ++ (mulS (PySem.Str.ofString "0") (65 - width1)))), (.str (z3 ++ (mulS (PySem.Str.ofString "1") 65))), (.str (z8 ++ (PySem.Str.ofString "0")))] [z8, z8 ++ (mulS (PySem.Str.ofString "0") (65 - width1)), z3 ++ (mulS (PySem.Str.ofString "1") 65), z8 ++ (PySem.Str.ofString "0")] from ⟨rfl, ⟨rfl, ⟨rfl, ⟨rfl, trivial⟩⟩⟩⟩) (show 4 < 1000000 from by decide) w ?_
      intro p3 H13 hp2 s11 x2
      replace r1 := Rep.mono _ s11.g r1
      replace w := w.tr s11
      obtain ⟨F13, w1, g1, r6, fz1⟩ := x2.frzE w
      replace r1 := Rep.mono _ g1 r1
      replace w := w1
      refine w_forL (S := Unit) (fun _ σ' F' H' => ∃ (o1 : Option V) (o2 : Option V), Wf F0 H0 F' H' ∧ Ex F13 F' ∧ σ' = [some v1, some (.int ((width1 : Nat) : Int)), some (.int ((mask1 : Nat) : Int)), some (.str (z3)), some (.str (due1)), none, some (.str (z8)), o1, o2, none]) r6 hW ⟨_, _, w, Ex.rfl', rfl⟩ (fun s σ' F' H' hI => by obtain ⟨_, _, w', gx', _⟩ := hI; exact ⟨gx', w'.f⟩) w.f ?_ ?_
      · intro N9 Bk1 one1 u2 s12 σ' F14 H14 nx1 bk1 hI2 hx2 ru2 hW hN9 hB1
        obtain ⟨o1, o2, w, gx3, rfl⟩ := hI2
        have r1 := Rep.mono _ gx3 r1
        have r6 := Rep.mono _ gx3 r6
        obtain rfl : u2 = (.str (one1)) := ru2
        refine g_name ?_
        refine q_sq fun N10 hN10 => ?_
        refine a_asgE ?_
        refine e_call ?_
        refine a_val (v := (.str (one1))) (val_var rfl) ?_
        refine a_nil ?_
        refine ⟨F14, ((.str (one1))), ((An.s one1)), _, rfl, w.f, (show pA.r _ (.str (one1)) (An.s one1) from rfl), hW, ?_⟩
        intro z9 hW v4 F15 H15 s13 r7
        replace r1 := Rep.mono _ s13.g r1
        replace w := w.tr s13
        replace gx3 := Ex.tr gx3 s13.g
        refine hN10 _ _ ?_
        refine a_ifE ?_
        refine e_jnT hW (fun b F' H' => b = b ∧ Wf F0 H0 F' H' ∧ Ex F15 F') ?_ ?_
        · intro N11 hN11 hW
          have gx4 : Ex F15 F15 := Ex.rfl'
          refine e_tOr ?_
          refine e_tT ?_
          refine e_op ?_
          refine e_val (v := v4) (val_var rfl) ?_
          refine e_call ?_
          refine a_val (v := (.str (one1))) (val_var rfl) ?_
          refine a_nil ?_
          refine ⟨F15, (one1), _, rfl, w.f, hW, ?_⟩
          intro z10 hW v5 F16 H16 s14 r8
          replace r1 := Rep.mono _ s14.g r1
          replace r7 := Rep.mono _ s14.g r7
          replace w := w.tr s14
          replace gx4 := Ex.tr gx4 s14.g
          replace gx3 := Ex.tr gx3 s14.g
          obtain ⟨c14, hW⟩ := hW
          refine rv2T (b := decide (¬ aeq z9 z10 = true)) (c_neA (K := K) val_c val_c w.f r7 w.f r8 c14) ?_
          refine b_if (fun hc5 => ?_) (fun hc5 => ?_)
          · have hW := ifP hW hc5
            exact hN11 true _ _ ⟨rfl, w, gx4⟩ hW
          · have hW := ifN hW hc5
            refine e_tAnd ?_
            refine e_ans (b := decide (neAS z9 (PySem.Str.ofString "refused") = true)) (t_of (vb_of (v_neAS (K := K) (val_var rfl) val_c r7 w.f) dec_tt)) ?_
            refine b_if (fun hc6 => ?_) (fun hc6 => ?_)
            · have hW := ifP hW hc6
              refine e_tNot ?_
              refine e_tB ?_
              refine e_call ?_
              refine a_val (v := v4) (val_var rfl) ?_
              refine a_nil ?_
              refine ⟨F16, (v4), (z9), _, rfl, w.f, r7, hW, ?_⟩
              intro z11 hW F17 H17 s15
              replace r1 := Rep.mono _ s15.g r1
              replace r7 := Rep.mono _ s15.g r7
              replace r8 := Rep.mono _ s15.g r8
              replace w := w.tr s15
              replace gx4 := Ex.tr gx4 s15.g
              replace gx3 := Ex.tr gx3 s15.g
              refine bl_v ?_
              exact hN11 (!z11) _ _ ⟨rfl, w, gx4⟩ hW
            · have hW := ifN hW hc6
              exact hN11 false _ _ ⟨rfl, w, gx4⟩ hW
        intro b2 F18 H18 hI3 hW
        obtain ⟨_, w, gx5⟩ := hI3
        have r1 := Rep.mono _ gx5 r1
        have r7 := Rep.mono _ gx5 r7
        have gx3 := Ex.tr gx3 gx5
        refine bb_if (fun hc7 => ?_) (fun hc7 => ?_)
        · have hW := ifP hW hc7
          refine a_ret (v := (.bl (false))) val_c ?_
          exact hQ _ hW _ _ w
        · have hW := ifN hW hc7
          exact hN9 () _ _ _ ⟨_, _, w, gx3, rfl⟩ hW
      · intro s16 σ' F19 H19 hI4 hW
        obtain ⟨o1, o2, w, gx6, rfl⟩ := hI4
        have r1 := Rep.mono _ gx6 r1
        have r6 := Rep.mono _ gx6 r6
        refine hN8 _ _ ?_
        refine q_sq fun N12 hN12 => ?_
        refine f_LE ?_
        refine e_lst ?_
        refine a_val (v := .non) val_c ?_
        refine a_val (v := (.int ((5 : Nat) : Int))) val_c ?_
        refine a_val (v := (.bl (true))) val_c ?_
        refine a_cons ?_
        refine e_lst ?_
        refine a_val (v := (.str (z3))) (val_var rfl) ?_
        refine a_nil ?_
        refine n_lstX (e := pS) (xs := [z3]) (vs := [(.str (z3))]) (show All pS _ [(.str (z3))] [z3] from ⟨rfl, trivial⟩) (show 1 < 1000000 from by decide) w ?_
        intro p4 H20 hp3 s17 x3
        replace r1 := Rep.mono _ s17.g r1
        replace w := w.tr s17
        replace gx6 := Ex.tr gx6 s17.g
        refine a_cons ?_
        refine e_tup ?_
        refine a_val (v := (.str (z3))) (val_var rfl) ?_
        refine a_nil ?_
        refine n_tupL (e := pS) (xs := [z3]) (show All pS _ _ _ from ⟨rfl, trivial⟩) (show 1 < 1000000 from by decide) w ?_
        intro p5 F20 H21 s18 r9
        replace r1 := Rep.mono _ s18.g r1
        replace x3 := x3.step s18
        replace w := w.tr s18
        replace gx6 := Ex.tr gx6 s18.g
        refine a_nil ?_
        obtain ⟨F21, w2, g2, r10, fz2⟩ := x3.frzE w
        replace r1 := Rep.mono _ g2 r1
        replace r9 := Rep.mono _ g2 r9
        replace w := w2
        replace gx6 := Ex.tr gx6 g2
        have r11 : pA.r _ (.ref p4) (An.l ([z3].map An.s)) := (cv_L cv_str) r10
        have r12 : pA.r _ (.ref p5) (An.t ([z3].map An.s)) := (cv_TL cv_str) r9
        refine n_lstX (e := pA) (xs := [An.n, (An.i ((5 : Nat) : Int)), (An.b true), (An.l ([z3].map An.s)), (An.t ([z3].map An.s))]) (vs := [.non, (.int ((5 : Nat) : Int)), (.bl (true)), (.ref p4), (.ref p5)]) (show All pA _ [.non, (.int ((5 : Nat) : Int)), (.bl (true)), (.ref p4), (.ref p5)] [An.n, (An.i ((5 : Nat) : Int)), (An.b true), (An.l ([z3].map An.s)), (An.t ([z3].map An.s))] from ⟨(show pA.r _ V.non An.n from rfl), ⟨(show pA.r _ (.int ((5 : Nat) : Int)) (An.i ((5 : Nat) : Int)) from rfl), ⟨(show pA.r _ (.bl (true)) (An.b true) from rfl), ⟨r11, ⟨r12, trivial⟩⟩⟩⟩⟩) (show 5 < 1000000 from by decide) w ?_
        intro p6 H22 hp4 s19 x4
        replace r1 := Rep.mono _ s19.g r1
        replace r10 := Rep.mono _ s19.g r10
        replace r9 := Rep.mono _ s19.g r9
        replace w := w.tr s19
        replace gx6 := Ex.tr gx6 s19.g
        obtain ⟨F22, w3, g3, r13, fz3⟩ := x4.frzE w
        replace r1 := Rep.mono _ g3 r1
        replace r10 := Rep.mono _ g3 r10
        replace r9 := Rep.mono _ g3 r9
        replace w := w3
        replace gx6 := Ex.tr gx6 g3
        refine w_forL (S := Unit) (fun _ σ' F' H' => ∃ (o3 : Option V), Wf F0 H0 F' H' ∧ Ex F22 F' ∧ σ' = [some v1, some (.int ((width1 : Nat) : Int)), some (.int ((mask1 : Nat) : Int)), some (.str (z3)), some (.str (due1)), none, some (.str (z8)), o1, o2, o3]) r13 hW ⟨_, w, Ex.rfl', rfl⟩ (fun s σ' F' H' hI => by obtain ⟨_, w', gx', _⟩ := hI; exact ⟨gx', w'.f⟩) w.f ?_ ?_
        · intro N13 Bk2 thing1 u3 s20 σ' F23 H23 nx2 bk2 hI5 hx3 ru3 hW hN13 hB2
          obtain ⟨o3, w, gx7, rfl⟩ := hI5
          have r1 := Rep.mono _ gx7 r1
          have r10 := Rep.mono _ gx7 r10
          have r9 := Rep.mono _ gx7 r9
          have r13 := Rep.mono _ gx7 r13
          have gx6 := Ex.tr gx6 gx7
          refine g_name ?_
          refine a_ifE ?_
          refine e_tT ?_
          refine e_op ?_
          refine e_call ?_
          refine a_val (v := u3) (val_var rfl) ?_
          refine a_nil ?_
          refine ⟨F23, (u3), (thing1), _, rfl, w.f, ru3, hW, ?_⟩
          intro z12 hW v6 F24 H24 s21 r14
          replace r1 := Rep.mono _ s21.g r1
          replace ru3 := Rep.mono _ s21.g ru3
          replace w := w.tr s21
          replace gx7 := Ex.tr gx7 s21.g
          replace gx6 := Ex.tr gx6 s21.g
          refine e_val (v := (.str ((PySem.Str.ofString "refused")))) val_c ?_
          have r15 : pA.r F24 (.str ((PySem.Str.ofString "refused"))) (An.s (PySem.Str.ofString "refused")) := rfl
          obtain ⟨c15, hW⟩ := hW
          refine rv2T (b := decide (¬ aeq z12 (An.s (PySem.Str.ofString "refused")) = true)) (c_neA (K := K) val_c val_c w.f r14 w.f r15 c15) ?_
          refine b_if (fun hc8 => ?_) (fun hc8 => ?_)
          · have hW := ifP hW hc8
            refine a_ret (v := (.bl (false))) val_c ?_
            exact hQ _ hW _ _ w
          · have hW := ifN hW hc8
            exact hN13 () _ _ _ ⟨_, w, gx7, rfl⟩ hW
        · intro s22 σ' F25 H25 hI6 hW
          obtain ⟨o3, w, gx8, rfl⟩ := hI6
          have r1 := Rep.mono _ gx8 r1
          have r10 := Rep.mono _ gx8 r10
          have r9 := Rep.mono _ gx8 r9
          have r13 := Rep.mono _ gx8 r13
          have gx6 := Ex.tr gx6 gx8
          refine hN12 _ _ ?_
          refine a_retE ?_
          refine e_call ?_
          refine a_val (v := v1) (val_var rfl) ?_
          refine a_nil ?_
          refine ⟨F25, (v1), (script1), _, rfl, w.f, r1, hW, ?_⟩
          intro z13 hW F26 H26 s23
          replace r1 := Rep.mono _ s23.g r1
          replace w := w.tr s23
          replace gx8 := Ex.tr gx8 s23.g
          replace gx6 := Ex.tr gx6 s23.g
          exact hQ _ hW _ _ w
end My
namespace My
open Wk
def cellV (s : List Int) (k : Nat) : Int := if h : k < s.length then s[k] else ((41 * k + 3 : Nat) : Int)
theorem w_cell {s : List Int} {k : Nat} {R : Int → Prop} (h : R (cellV s k)) : W_cell s k R := by
  unfold W_cell
  unfold cellV at h
  by_cases e : k < s.length
  · rw [dif_pos e] at h; rw [if_pos e]; exact ⟨_, List.getElem?_eq_getElem e, h⟩
  · rw [dif_neg e] at h; rw [if_neg e]; exact h
def mixN (c : Int) (k : Nat) : Nat := (((modN c 2147483647) * 48271) + (7919 * k) + 11) % 2147483647
def mixV (c : Int) (k : Nat) : Nat := ((mixN c k * mixN c k % 2147483629) * ((mixN c k * mixN c k % 2147483629 + 48271 * k) + 7)) % 2147483587
theorem w_mix {c : Int} {k : Nat} {R : Nat → Prop} (h : R (mixV c k)) : W_mix c k R := by
  rintro _ rfl
  have b : mixN c k < 2 ^ 64 := Nat.lt_trans (Nat.mod_lt _ (by decide)) (by decide)
  refine ⟨.inl b, ?_⟩
  rintro _ rfl
  exact ⟨.inl (Nat.lt_trans (Nat.mod_lt _ (by decide)) (by decide)), h⟩
end My

namespace My
open Wk PySem
theorem bT {A B : Prop} (h : A) : (if (true = true) then A else B) := by rw [if_pos rfl]; exact h
theorem bF {A B : Prop} (h : B) : (if (false = true) then A else B) := by rw [if_neg (by decide)]; exact h
theorem cps_lit (s : String) : (Str.ofString s).cps.toList = s.toList.map Char.toNat := PyProof.Rows.signs_ofString s
theorem str_ext {x y : Str} (h : x.cps.toList = y.cps.toList) : x = y := by
  obtain ⟨⟨a⟩⟩ := x; obtain ⟨⟨b⟩⟩ := y
  have : a = b := h
  rw [this]
theorem okS_all {x : Str} : okS x ↔ ∀ c ∈ x.cps.toList, c < 0x110000 := by
  show (x.cps.all (· < 0x110000)) = true ↔ _
  rw [← Array.all_toList, List.all_eq_true]
  exact ⟨fun h c hc => of_decide_eq_true (h c hc), fun h c hc => decide_eq_true (h c hc)⟩
theorem aok_s {x : Str} (h : okS x) : aok (An.s x) = true := by
  unfold aok SeqAt.shaped
  show (true && (PyData.canLay0 (.str x) && decide (PyData.depth (.str x) ≤ 64))) = true
  rw [show PyData.canLay0 (.str x) = true from h]; rfl
def refd : Str := Str.ofString "refused"
theorem refd_ok : aok (An.s refd) = true := aok_s (by
  rw [okS_all]; unfold refd; rw [cps_lit]; decide +kernel)
theorem l0 : Str.ofString "0" = sg 48 := by decide +kernel
theorem l1 : Str.ofString "1" = sg 49 := by decide +kernel
theorem s0 : strN 0 = sg 48 := by decide +kernel
theorem s1 : strN 1 = sg 49 := by decide +kernel
theorem sg_inj {a b : Nat} : sg a = sg b ↔ a = b := ⟨fun h => by
  have := congrArg (fun x : Str => x.cps.toList) h
  exact (List.cons.inj (show [a] = [b] from this)).1, fun h => by rw [h]⟩
theorem l01 : (Str.ofString "01").cps.toList = [48, 49] := by rw [cps_lit]; decide +kernel
theorem lE : (Str.ofString "").cps.toList = [] := by rw [cps_lit]; decide +kernel
theorem lenE : (Str.ofString "").length = 0 := by rw [← Str_len, lE]; rfl
theorem len_app (x y : Str) : (x ++ y).length = x.length + y.length := Str.length_append x y
def mk (cs : List Nat) : Nat := maskB (cs.map fun c => decide (c = 49))
def good (cs : List Nat) : Prop := ∀ c ∈ cs, c = 48 ∨ c = 49
def anP2 (m n : Nat) : An := An.t [An.i (m : Int), An.i (n : Int)]
theorem pair_ok (m n : Nat) : aok (anP2 m n) = true := rfl
theorem pair_eq (m n : Nat) : aeq (anP2 m n) (anP2 m n) = true := (Dat.inj (e := pT2 pN pN) (m, n) (m, n)).mpr rfl
theorem w_mask_in {x : Str} (hl : x.length < 1000000) {E : Prop} {R : Nat × Nat → Prop} (h1 : x.length ≤ 64 → good x.cps.toList → R (mk x.cps.toList, x.length)) (h0 : ¬ (x.length ≤ 64 ∧ good x.cps.toList) → E) : W_mask_in (An.s x) E R := by
  refine jnI ?_
  rw [if_neg (fun z => z (by rfl))]
  refine ⟨x, rfl, hl, ?_⟩
  by_cases q : 64 < x.length
  · rw [decide_eq_true q]; exact bT (h0 fun z => by omega)
  · rw [decide_eq_false q]
    refine bF ⟨x, rfl, ?_⟩
    refine forW_enum (fun pre m => good pre ∧ m = mk pre) ⟨fun c hc => (by cases hc), rfl⟩ (fun pre c post m nx bk e P hn => ?_) fun m P => ⟨hl, ?_⟩
    · obtain ⟨p1, rfl⟩ := P
      have pl : pre.length < x.length := by
        have := congrArg List.length e
        rw [Str_len, List.length_append, List.length_cons] at this; omega
      rw [l01]
      show if ¬ (c ∈ [48, 49]) then _ else _
      by_cases g : c = 48 ∨ c = 49
      · rw [if_neg (fun z => z (by simpa using g))]
        have gs : good (pre ++ [c]) := fun d hd => by
          rcases List.mem_append.mp hd with z | z
          · exact p1 d z
          · rw [List.mem_singleton.mp z]; exact g
        have or2 := maskB_or (pre.map fun c => decide (c = 49)) (decide (c = 49))
        rw [List.length_map] at or2
        have ek : mk (pre ++ [c]) = mk pre ||| (decide (c = 49)).toNat <<< pre.length := by unfold mk; rw [List.map_append, or2]; rfl
        rw [l1]
        show if sg c = sg 49 then _ else _
        by_cases c1 : c = 49
        · rw [if_pos (sg_inj.mpr c1)]
          refine ⟨by show pre.length < 100000000; omega, ?_⟩
          rintro _ rfl
          refine hn _ ⟨gs, ?_⟩
          rw [ek, decide_eq_true c1, Nat.shiftLeft_eq]
          show mk pre ||| 2 ^ pre.length = _
          rw [show true.toNat = 1 from rfl, Nat.one_mul]
        · rw [if_neg (fun z => c1 (sg_inj.mp z))]
          refine hn _ ⟨gs, ?_⟩
          rw [ek, decide_eq_false c1, show false.toNat = 0 from rfl, Nat.zero_shiftLeft, Nat.or_zero]
      · rw [if_pos (fun z => g (by simpa using z))]
        exact h0 fun z => g (z.2 c (by rw [e]; simp))
    · obtain ⟨p1, rfl⟩ := P
      exact h1 (by omega) p1
theorem w_read {x : Str} (hl : x.length < 1000000) {R : An → Prop} (h1 : x.length ≤ 64 → good x.cps.toList → R (anP2 (mk x.cps.toList) x.length)) (h0 : ¬ (x.length ≤ 64 ∧ good x.cps.toList) → R (An.s refd)) : W_read x R := by
  refine ⟨hl, ?_⟩
  by_cases q : 64 < x.length
  · rw [if_pos q]; exact h0 fun z => by omega
  · rw [if_neg q]
    refine ⟨hl, forW_ind (fun pre m => good pre ∧ m = mk pre.reverse) ⟨fun c hc => (by cases hc), rfl⟩ (fun pre c post m nx bk e P hn _ => ?_) fun m P => ⟨hl, ?_⟩⟩
    · obtain ⟨p1, rfl⟩ := P
      rw [l0, l1]
      show if (sg c ≠ sg 48) ∧ (sg c ≠ sg 49) then _ else _
      by_cases g : c = 48 ∨ c = 49
      · rw [if_neg (fun z => g.elim (fun y => z.1 (sg_inj.mpr y)) fun y => z.2 (sg_inj.mpr y))]
        rintro _ rfl
        refine hn _ ⟨fun d hd => ?_, ?_⟩
        · rcases List.mem_append.mp hd with z | z
          · exact p1 d z
          · rw [List.mem_singleton.mp z]; exact g
        · rw [List.reverse_append]
          have e2 : decide (sg c = sg 49) = decide (c = 49) := by
            by_cases c1 : c = 49
            · rw [decide_eq_true c1, decide_eq_true (sg_inj.mpr c1)]
            · rw [decide_eq_false c1, decide_eq_false (fun z => c1 (sg_inj.mp z))]
          rw [e2]
          show 2 * mk pre.reverse + _ = (decide (c = 49)).toNat + 2 * mk pre.reverse
          rw [Nat.add_comm]
      · rw [if_pos ⟨fun z => g (.inl (sg_inj.mp z)), fun z => g (.inr (sg_inj.mp z))⟩]
        exact h0 fun z => g (z.2 c (List.mem_reverse.mp (by rw [e]; simp)))
    · obtain ⟨p1, rfl⟩ := P
      rw [List.reverse_reverse]
      exact h1 (by omega) fun c hc => p1 c (List.mem_reverse.mpr hc)
theorem told_no {R : An → Prop} (h : R (An.s refd)) : jn (fun kk => if ([true, true, false] ++ [false, false]) ≠ ([] : List Bool) then (kk (decide (([true, true, false] ++ [false, false]) ≠ [true, true, false, false, false]))) else (kk false)) fun b1 => if b1 = true then (R (An.s (PySem.Str.ofString "odd"))) else (R (An.s refd)) := by
  refine jnI ?_
  rw [if_pos (by decide), decide_eq_false (by decide)]
  exact bF h
theorem w_told {x : Str} (hl : x.length < 1000000) {R : An → Prop} (h1 : x.length ≤ 64 → good x.cps.toList → R (anP2 (mk x.cps.toList) x.length)) (h0 : ¬ (x.length ≤ 64 ∧ good x.cps.toList) → R (An.s refd)) : W_told (An.s x) R := by
  refine jnI (w_mask_in hl (fun a b => ?_) fun z => ⟨by decide, told_no (h0 z)⟩)
  refine jnI ?_
  rw [if_neg (fun z => z rfl)]
  exact bF (h1 a b)
theorem w_told_no {x : An} (hx : isA "str" x = false) {R : An → Prop} (h : R (An.s refd)) : W_told x R := by
  refine jnI (jnI ?_)
  rw [if_pos (by rw [hx]; decide)]
  exact bT ⟨by decide, told_no h⟩
theorem w_is_pair {m n : Nat} {R : Bool → Prop} (h : R true) : W_is_pair (anP2 m n) R := by
  refine jnI ?_
  rw [if_neg (fun z => z (by rfl))]
  refine ⟨_, rfl, ?_⟩
  rw [decide_eq_false (fun z => z rfl)]
  refine bF ⟨_, rfl, by show 2 < 1000000; decide, compW_filter (fun _ => false) (fun y hy kk _ hf => ?_) ?_⟩
  · have : ∃ k : Int, y = An.i k := by
      rcases List.mem_cons.mp hy with z | z
      · exact ⟨_, z⟩
      · rw [List.mem_singleton.mp z]; exact ⟨_, rfl⟩
    obtain ⟨k, rfl⟩ := this
    rw [if_neg (by rintro (z | z); exact z (by rfl); exact absurd z (by show ¬ ((("int" : String) == "bool" || (("bool" : String) == "int" && ("int" : String) == "bool")) = true); decide))]
    exact hf rfl
  · rw [show List.filter (fun _ : An => false) [An.i (m : Int), An.i (n : Int)] = [] from rfl]
    refine ⟨⟨by decide +kernel, by decide +kernel⟩, ?_⟩
    rw [decide_eq_true (by decide +kernel)]; exact h
/-! joined signs -/
theorem joinL_nil : ∀ ps : List (List Nat), TL.joinL [] ps = ps.flatten
  | [] => rfl
  | [p] => by show p = _; simp
  | p :: q :: r => by
    show p ++ ([] ++ TL.joinL [] (q :: r)) = _
    rw [joinL_nil (q :: r)]; rfl
theorem join_sg (cs : List Nat) : (Txt.join (Str.ofString "") (cs.map sg)).cps.toList = cs := by
  rw [show (Txt.join (Str.ofString "") (cs.map sg)).cps.toList = TL.joinL (Str.ofString "").cps.toList ((cs.map sg).map fun x => x.cps.toList) by rw [TL.join_eq]; exact TL.tl_join _ _, lE, joinL_nil, List.map_map]
  induction cs with
  | nil => rfl
  | cons c cs ih =>
    show c :: ([] ++ (List.map ((fun x => x.cps.toList) ∘ sg) cs).flatten) = _
    rw [ih]; rfl
theorem sum_le {m : Nat} : ∀ {ws : List Str}, (∀ w ∈ ws, w.length ≤ m) → (ws.map (·.length)).sum ≤ ws.length * m
  | [], _ => Nat.zero_le _
  | w :: ws, h => by
    have := sum_le fun x hx => h x (List.mem_cons_of_mem _ hx)
    have := h w (List.mem_cons_self ..)
    show w.length + (ws.map (·.length)).sum ≤ (ws.length + 1) * m
    rw [Nat.succ_mul]; omega
def bitC (m k : Nat) : Nat := 48 + (m.testBit k).toNat
def txt (m w : Nat) : Str := Txt.join (Str.ofString "") (((List.range w).map (bitC m)).map sg)
theorem txt_list (m w : Nat) : (txt m w).cps.toList = (List.range w).map (bitC m) := join_sg _
theorem txt_len (m w : Nat) : (txt m w).length = w := by rw [← Str_len, txt_list, List.length_map, List.length_range]
theorem txt_good (m w : Nat) : good (txt m w).cps.toList := fun c hc => by
  rw [txt_list] at hc
  obtain ⟨k, _, e⟩ := List.mem_map.mp hc
  rw [← e]; unfold bitC
  cases m.testBit k
  · exact .inl rfl
  · exact .inr rfl
theorem txt_mk {m w : Nat} (h : m < 2 ^ w) : mk (txt m w).cps.toList = m := by
  rw [txt_list]; unfold mk
  rw [List.map_map]
  refine Nat.eq_of_testBit_eq fun j => ?_
  rw [maskB_bit, List.getD_eq_getElem?_getD, List.getElem?_map]
  by_cases q : j < w
  · rw [List.getElem?_range q]
    show decide (bitC m j = 49) = _
    unfold bitC
    cases m.testBit j <;> rfl
  · rw [List.getElem?_eq_none (by rw [List.length_range]; omega)]
    exact (Nat.testBit_lt_two_pow (Nat.lt_of_lt_of_le h (Nat.pow_le_pow_right (by decide) (by omega)))).symm
theorem join_ok {cs : List Nat} (hl : cs.length ≤ 1000) : ((cs.map sg).map (·.length)).sum + (cs.map sg).length * (Str.ofString "").length ≤ 16777216 := by
  have := sum_le (m := 1) (ws := cs.map sg) fun w hw => by
    obtain ⟨c, _, e⟩ := List.mem_map.mp hw
    rw [← e]; exact Nat.le_refl 1
  rw [lenE]
  rw [List.length_map] at this ⊢
  omega
theorem w_text_of {m w : Nat} (hw : w ≤ 64) {R : Str → Prop} (h : R (txt m w)) : W_text_of m w R := by
  refine ⟨by omega, compW_map (fun k => sg (bitC m k)) (fun k _ kk hk => ?_) ?_⟩
  · have e : (m >>> k) &&& 1 = (m.testBit k).toNat := by
      rw [Nat.and_one_is_mod, Nat.testBit_eq_decide_div_mod_eq, Nat.shiftRight_eq_div_pow]
      rcases Nat.mod_two_eq_zero_or_one (m / 2 ^ k) with q | q <;> rw [q] <;> rfl
    rw [e]
    unfold bitC at hk
    revert hk
    cases m.testBit k
    · intro hk; exact ⟨by decide, by rw [show false.toNat = 0 from rfl, s0]; exact hk⟩
    · intro hk; exact ⟨by decide, by rw [show true.toNat = 1 from rfl, s1]; exact hk⟩
  · have e : (List.range w).map (fun k => sg (bitC m k)) = ((List.range w).map (bitC m)).map sg := by rw [List.map_map]; rfl
    rw [e]
    exact ⟨join_ok (by rw [List.length_map, List.length_range]; omega), h⟩
def signsV : Str := Str.ofString " !\"#$&'()*+,-./0123456789:;<=>?@ABCDEFGHIJKLMNOPQRSTUVWXYZ[\\]^_`" ++ Str.ofString "abcdefghijklmnopqrstuvwxyz{|}~\n"
theorem signs_list : signsV.cps.toList = (Str.ofString " !\"#$&'()*+,-./0123456789:;<=>?@ABCDEFGHIJKLMNOPQRSTUVWXYZ[\\]^_`").cps.toList ++ (Str.ofString "abcdefghijklmnopqrstuvwxyz{|}~\n").cps.toList := Array.toList_append
theorem signs_len : signsV.cps.toList.length = 95 := by rw [signs_list, cps_lit, cps_lit]; decide +kernel
theorem signs_no : ∀ c ∈ signsV.cps.toList.drop 1, c ≠ 32 ∧ c < 0x110000 := by rw [signs_list, cps_lit, cps_lit]; decide +kernel
theorem w_signs {R : Str → Prop} (h : R signsV) : W_signs R := by
  rintro _ rfl
  refine ⟨?_, h⟩
  have := signs_len
  rw [Str_len] at this
  have e := len_app (Str.ofString " !\"#$&'()*+,-./0123456789:;<=>?@ABCDEFGHIJKLMNOPQRSTUVWXYZ[\\]^_`") (Str.ofString "abcdefghijklmnopqrstuvwxyz{|}~\n")
  have e2 : signsV.length = _ := e
  omega
theorem cut_len (x : Str) (lo hi : Option Nat) : (cutTS x lo hi).length ≤ x.length := by
  rw [← Str_len x]
  show (cutT x.cps.toList lo hi).length ≤ _
  cases lo <;> cases hi
  · exact Nat.le_refl _
  · show (List.take _ _).length ≤ _; rw [List.length_take]; omega
  · show (List.drop _ _).length ≤ _; rw [List.length_drop]; omega
  · show (List.take _ (List.drop _ _)).length ≤ _; rw [List.length_take, List.length_drop]; omega
theorem w_spoilt {x : Str} {c : Int} (hl : x.length ≤ 64) {R : Str → Prop} (h : ∀ y : Str, y.length ≤ 200 → R y) : W_spoilt x c R := by
  rintro way _
  refine ⟨by omega, by omega, ?_⟩
  rintro at1 _
  refine w_signs (w_mix ?_)
  have sl := signs_len
  refine ⟨by rw [← Str_len]; omega, signsV.cps.toList[mixV c 1 % 95]'(by rw [sl]; exact Nat.mod_lt _ (by decide)), List.getElem?_eq_getElem _, ?_⟩
  generalize signsV.cps.toList[mixV c 1 % 95]'_ = d
  have c1 := cut_len x none (some at1); have c2 := cut_len x (some (at1 + 1)) none; have c3 := cut_len x (some at1) none
  have g1 : (sg d).length = 1 := rfl
  by_cases q0 : way = 0
  · rw [if_pos q0]
    exact ⟨by omega, by omega, by omega, by rw [len_app]; omega, h _ (by rw [len_app, len_app]; omega)⟩
  · rw [if_neg q0]
    by_cases q1 : way = 1
    · rw [if_pos q1]
      exact ⟨by omega, by omega, by omega, by rw [len_app]; omega, h _ (by rw [len_app, len_app]; omega)⟩
    · rw [if_neg q1]
      by_cases q2 : way = 2
      · rw [if_pos q2]
        exact ⟨by omega, by omega, by omega, h _ (by rw [len_app]; omega)⟩
      · rw [if_neg q2]; exact h _ (by omega)
theorem tl_sp : TL.tl (Str.ofString " ") = [32] := by rw [show TL.tl (Str.ofString " ") = (Str.ofString " ").cps.toList from rfl, cps_lit]; decide +kernel
theorem lsp : (Str.ofString " ").length = 1 := by rw [← Str_len, cps_lit]; decide +kernel
theorem join_len {y : Str} {m : Nat} {ws : List Str} (h : ∀ w ∈ ws, w.length ≤ m) : (Txt.join y ws).length ≤ ws.length * (m + y.length) := by
  rw [← Str_len, ← Str_len y, show (Txt.join y ws).cps.toList = TL.joinL y.cps.toList (ws.map fun x => x.cps.toList) by rw [TL.join_eq]; exact TL.tl_join _ _]
  have key : ∀ ps : List (List Nat), (∀ p ∈ ps, p.length ≤ m) → (TL.joinL y.cps.toList ps).length ≤ ps.length * (m + y.cps.toList.length) := by
    intro ps
    induction ps with
    | nil => intro _; exact Nat.zero_le _
    | cons p ps ih =>
      intro h
      have h1 := h p (List.mem_cons_self ..)
      cases ps with
      | nil => show p.length ≤ 1 * (m + y.cps.toList.length); omega
      | cons q r =>
        have h2 := ih fun x hx => h x (List.mem_cons_of_mem _ hx)
        show (p ++ (y.cps.toList ++ TL.joinL y.cps.toList (q :: r))).length ≤ _
        rw [List.length_append, List.length_append, List.length_cons, Nat.succ_mul]; omega
  have := key (ws.map fun x => x.cps.toList) fun p hp => by
    obtain ⟨w, hw, e⟩ := List.mem_map.mp hp
    rw [← e]; exact h w hw
  rwa [List.length_map] at this
structure Word (w : Str) : Prop where
  l : w.length ≤ 5
  n : ∀ c ∈ w.cps.toList, c ≠ 32 ∧ c < 0x110000
theorem w_words_right {s : List Int} {R : Bool → Prop} (h : R true) : W_words_right s R := by
  have cl : (cutT s none (some 60)).length ≤ 60 := by show (s.take 60).length ≤ 60; rw [List.length_take]; omega
  refine forW_ind (fun pre (ws : List Str) => ws.length = pre.length ∧ ∀ w ∈ ws, Word w) ⟨rfl, fun w hw => by cases hw⟩ (fun pre c post ws nx bk e P hn _ => ?_) fun ws P => ?_
  · obtain ⟨p1, p2⟩ := P
    have pl : pre.length < 60 := by
      have := congrArg List.length e
      rw [List.length_append, List.length_cons] at this; omega
    have m6 : modN c 6 < 6 := modN_lt (by decide)
    have sl := signs_len
    have lt : ∀ k, 1 + mixV c k % 94 < signsV.cps.toList.length := fun k => by
      have := Nat.mod_lt (mixV c k) (show 0 < 94 by decide); omega
    refine ⟨by omega, compW_map (fun k => sg (signsV.cps.toList[1 + mixV c k % 94]'(lt k))) (fun k _ kk hk => w_signs (w_mix ⟨by rw [← Str_len]; omega, _, List.getElem?_eq_getElem (lt k), hk⟩)) ?_⟩
    have e2 : (List.range (modN c 6)).map (fun k => sg (signsV.cps.toList[1 + mixV c k % 94]'(lt k))) = ((List.range (modN c 6)).map fun k => signsV.cps.toList[1 + mixV c k % 94]'(lt k)).map sg := by rw [List.map_map]; rfl
    rw [e2]
    have wl : ((List.range (modN c 6)).map fun k => signsV.cps.toList[1 + mixV c k % 94]'(lt k)).length ≤ 5 := by rw [List.length_map, List.length_range]; omega
    refine ⟨join_ok (by omega), by omega, hn _ ⟨by rw [List.length_append, List.length_append, p1]; rfl, fun w hw => ?_⟩⟩
    rcases List.mem_append.mp hw with z | z
    · exact p2 w z
    · rw [List.mem_singleton.mp z]
      refine ⟨by rw [← Str_len, join_sg]; exact wl, fun d hd => ?_⟩
      rw [join_sg] at hd
      obtain ⟨k, _, ek⟩ := List.mem_map.mp hd
      rw [← ek]
      refine signs_no _ ?_
      refine List.mem_of_getElem? (i := mixV c k % 94) ?_
      rw [List.getElem?_drop, List.getElem?_eq_getElem (lt k)]
  · obtain ⟨p1, p2⟩ := P
    have okw : ∀ ws : List Str, (∀ w ∈ ws, Word w) → okV (pL pS) ws := fun ws h x hx => okS_all.mpr fun c hc => ((h x hx).n c hc).2
    have fin : ∀ ws : List Str, ws ≠ [] → ws.length ≤ 60 → (∀ w ∈ ws, Word w) → ((ws.map (·.length)).sum + ws.length * (PySem.Str.ofString " ").length ≤ 16777216) ∧ ∀ row1 : Str, row1 = Txt.join (PySem.Str.ofString " ") ws → W_words_of row1 fun z3 => jn (fun kk => (okV (pL pS) z3 ∧ okV (pL pS) ws) ∧ kk (decide (z3 ≠ ws))) fun b1 => if b1 = true then (R false) else ((z3.length < 1000000) ∧ W_words_of row1 fun z4 => (okV (pL pS) z4 ∧ okV (pL pS) ws) ∧ R (decide (z4 = ws))) := by
      intro ws h0 hl hw
      have sp : Txt.split (Txt.join (Str.ofString " ") ws) (Str.ofString " ") = ws := TL.split_join tl_sp (by decide +kernel) h0 fun w hw2 z => ((hw w hw2).n 32 z).1 rfl
      have jl := join_len (y := Str.ofString " ") fun w hw2 => (hw w hw2).l
      have sl := sum_le fun w hw2 => (hw w hw2).l
      rw [lsp] at jl
      refine ⟨by rw [lsp]; omega, ?_⟩
      rintro _ rfl
      refine ⟨by omega, ?_⟩
      rw [sp]
      refine jnI ⟨⟨okw ws hw, okw ws hw⟩, ?_⟩
      rw [decide_eq_false (fun z => z rfl)]
      refine bF ⟨by omega, by omega, ?_⟩
      rw [sp]
      refine ⟨⟨okw ws hw, okw ws hw⟩, ?_⟩
      rw [decide_eq_true rfl]; exact h
    refine jnI ⟨⟨okw ws p2, fun x hx => by cases hx⟩, ?_⟩
    by_cases q : ws = []
    · rw [if_pos q]
      refine fin [Str.ofString ""] (by simp) (by show 1 ≤ 60; decide) fun w hw => ?_
      rw [List.mem_singleton.mp hw]
      exact ⟨by rw [lenE]; decide, fun c hc => by rw [lE] at hc; cases hc⟩
    · rw [if_neg q]
      exact fin ws q (by omega) p2
theorem mul_len (x : Str) (n : Nat) : (mulS x n).length = n * x.length := by
  rw [← Str_len, mulS_list, List.length_flatten, List.map_replicate, List.sum_replicate_nat, Str_len]
theorem w_law {s : List Int} (hs : s.length ≤ 63) {R : Bool → Prop} (h : R true) : W_law s R := by
  refine w_cell ?_
  rintro w hw
  have hw : w ≤ 64 := by have : w < 65 := by rw [hw]; exact modN_lt (by decide)
                         omega
  refine w_cell ⟨by omega, ?_⟩
  rintro m hm
  have hm : m < 2 ^ w := by rw [hm]; exact modN_lt (Nat.two_pow_pos _)
  refine w_text_of hw ⟨by omega, compW_map (fun k => sg (bitC m k)) (fun k hk kk hkk => ?_) ?_⟩
  · have hk := List.mem_range.mp hk
    refine ⟨by omega, ?_, by rw [← Str_len, l01]; decide, bitC m k, ?_, hkk⟩
    · exact NDiv_pow (by omega)
    · rw [l01]
      unfold bitC
      rw [Nat.testBit_eq_decide_div_mod_eq]
      rcases Nat.mod_two_eq_zero_or_one (m / 2 ^ k) with c | c <;> rw [c] <;> rfl
  have e : (List.range w).map (fun k => sg (bitC m k)) = ((List.range w).map (bitC m)).map sg := by rw [List.map_map]; rfl
  rw [e]
  refine ⟨join_ok (by rw [List.length_map, List.length_range]; omega), ?_⟩
  rintro _ rfl
  have tl := txt_len m w
  have mi : ∀ {K : Nat × Nat → Prop}, K (m, w) → W_mask_in (An.s (txt m w)) False K := fun {K} hK => by
    refine w_mask_in (by omega) (fun _ _ => ?_) fun z => z ⟨by omega, txt_good m w⟩
    rw [txt_mk hm, tl]; exact hK
  refine jnI ?_
  show if txt m w ≠ txt m w then _ else _
  rw [if_neg (fun z => z rfl)]
  refine mi ?_
  show W_is_pair (anP2 m w) _
  refine w_is_pair (bT (mi ?_))
  rw [decide_eq_false (fun z => z rfl)]
  refine bF (w_cell (w_spoilt (by omega) fun y yl => ?_))
  have z0 : (Str.ofString "0").length = 1 := by rw [l0]; rfl
  have z1 : (Str.ofString "1").length = 1 := by rw [l1]; rfl
  have ml0 := mul_len (Str.ofString "0") (65 - w)
  have ml1 := mul_len (Str.ofString "1") 65
  rw [z0] at ml0; rw [z1] at ml1
  refine ⟨by omega, ⟨by omega, by rw [z0]; omega⟩, by rw [ml0]; omega, ⟨by decide, by rw [z1]; decide⟩, by rw [ml1]; omega, by rw [z0]; omega, ?_⟩
  refine forW_unit (fun one ho nx bk hn => ?_) ?_
  · have ol : one.length ≤ 1000 := by
      simp only [List.mem_cons, List.not_mem_nil, or_false] at ho
      rcases ho with q | q | q | q <;> rw [q]
      · omega
      · rw [len_app, ml0]; omega
      · rw [len_app, ml1]; omega
      · rw [len_app, z0]; omega
    refine w_told (by omega) (fun a b => jnI (w_read (by omega) (fun _ _ => ⟨⟨pair_ok _ _, pair_ok _ _⟩, ?_⟩) fun z => absurd ⟨a, b⟩ z)) fun z => jnI (w_read (by omega) (fun a b => absurd ⟨a, b⟩ z) fun _ => ⟨⟨refd_ok, refd_ok⟩, ?_⟩)
    · rw [if_neg (fun z => z (pair_eq _ _)), if_pos (by rfl)]
      exact w_is_pair (bF hn)
    · rw [if_neg (fun z => z (aeq_s.mpr rfl)), if_neg (by show ¬ (decide (refd ≠ refd) = true); rw [decide_eq_false (fun z => z rfl)]; decide)]
      exact bF hn
  · refine forW_unit (fun x hx nx bk hn => ?_) (w_words_right h)
    refine w_told_no ?_ ⟨⟨refd_ok, refd_ok⟩, ?_⟩
    · simp only [List.mem_cons, List.not_mem_nil, or_false] at hx
      rcases hx with q | q | q | q | q <;> rw [q] <;> rfl
    · rw [if_neg (fun z => z (aeq_s.mpr rfl))]; exact hn
end My
namespace My
open PySem L2 Wk
theorem all_mk {l : PySem.W.OpenLaw} {w : World} {K : PySem.W.Frag} {h : Heap} {mg : Str → Option Value} {fa f_BadName___init__ f_text_of f_mask_in f_words_of f_cell f_mix f_signs f_spoilt f_read f_told f_is_pair f_words_right f_law C_BadMask C_BadRow C_BadTable C_WireError C_BadName : Addr} (X : K.In h) (G : h.Ns mainGlobals mg) (hfa : mg "law" = some (.ref fa))
    {oc_BadName___init__ kV_BadName___init__ dc_BadName___init__ pm_BadName___init__ cd_BadName___init__ ct_BadName___init__ : Value} {od_BadName___init__ an_BadName___init__ : Option Addr} {sl_BadName___init__ : Array (Option Value)} {oc_text_of kV_text_of dc_text_of pm_text_of cd_text_of ct_text_of : Value} {od_text_of an_text_of : Option Addr} {sl_text_of : Array (Option Value)} {oc_mask_in kV_mask_in dc_mask_in pm_mask_in cd_mask_in ct_mask_in : Value} {od_mask_in an_mask_in : Option Addr} {sl_mask_in : Array (Option Value)} {oc_words_of kV_words_of dc_words_of pm_words_of cd_words_of ct_words_of : Value} {od_words_of an_words_of : Option Addr} {sl_words_of : Array (Option Value)} {oc_cell kV_cell dc_cell pm_cell cd_cell ct_cell : Value} {od_cell an_cell : Option Addr} {sl_cell : Array (Option Value)} {oc_mix kV_mix dc_mix pm_mix cd_mix ct_mix : Value} {od_mix an_mix : Option Addr} {sl_mix : Array (Option Value)} {oc_signs kV_signs dc_signs pm_signs cd_signs ct_signs : Value} {od_signs an_signs : Option Addr} {sl_signs : Array (Option Value)} {oc_spoilt kV_spoilt dc_spoilt pm_spoilt cd_spoilt ct_spoilt : Value} {od_spoilt an_spoilt : Option Addr} {sl_spoilt : Array (Option Value)} {oc_read kV_read dc_read pm_read cd_read ct_read : Value} {od_read an_read : Option Addr} {sl_read : Array (Option Value)} {oc_told kV_told dc_told pm_told cd_told ct_told : Value} {od_told an_told : Option Addr} {sl_told : Array (Option Value)} {oc_is_pair kV_is_pair dc_is_pair pm_is_pair cd_is_pair ct_is_pair : Value} {od_is_pair an_is_pair : Option Addr} {sl_is_pair : Array (Option Value)} {oc_words_right kV_words_right dc_words_right pm_words_right cd_words_right ct_words_right : Value} {od_words_right an_words_right : Option Addr} {sl_words_right : Array (Option Value)} {oc_law kV_law dc_law pm_law cd_law ct_law : Value} {od_law an_law : Option Addr} {sl_law : Array (Option Value)}
    (aC_BadMask : PySem.W.nsIn K mainGlobals "BadMask" = some (some (.ref C_BadMask))) (xX_BadMask : PySem.W.excIn K C_BadMask [.type "ValueError", .type "Exception", .type "BaseException", .type "object"] "ValueError.__new__" = true) (kX_BadMask : PySem.W.keepIn K (.ref C_BadMask) = true) (bX_BadMask : PySem.W.subIn K (.ref C_BadMask) (.type "BaseException") = some true) (tX_BadMask : PySem.W.typeIn K (.ref C_BadMask) = some (.type "type")) (iX_BadMask : PySem.W.isClsIn K C_BadMask = true)
    (aC_BadRow : PySem.W.nsIn K mainGlobals "BadRow" = some (some (.ref C_BadRow))) (xX_BadRow : PySem.W.excIn K C_BadRow [.type "ValueError", .type "Exception", .type "BaseException", .type "object"] "ValueError.__new__" = true) (kX_BadRow : PySem.W.keepIn K (.ref C_BadRow) = true) (bX_BadRow : PySem.W.subIn K (.ref C_BadRow) (.type "BaseException") = some true) (tX_BadRow : PySem.W.typeIn K (.ref C_BadRow) = some (.type "type")) (iX_BadRow : PySem.W.isClsIn K C_BadRow = true)
    (aC_BadTable : PySem.W.nsIn K mainGlobals "BadTable" = some (some (.ref C_BadTable))) (xX_BadTable : PySem.W.excIn K C_BadTable [.type "ValueError", .type "Exception", .type "BaseException", .type "object"] "ValueError.__new__" = true) (kX_BadTable : PySem.W.keepIn K (.ref C_BadTable) = true) (bX_BadTable : PySem.W.subIn K (.ref C_BadTable) (.type "BaseException") = some true) (tX_BadTable : PySem.W.typeIn K (.ref C_BadTable) = some (.type "type")) (iX_BadTable : PySem.W.isClsIn K C_BadTable = true)
    (aC_WireError : PySem.W.nsIn K mainGlobals "WireError" = some (some (.ref C_WireError))) (xX_WireError : PySem.W.excIn K C_WireError [.type "ValueError", .type "Exception", .type "BaseException", .type "object"] "ValueError.__new__" = true) (kX_WireError : PySem.W.keepIn K (.ref C_WireError) = true) (bX_WireError : PySem.W.subIn K (.ref C_WireError) (.type "BaseException") = some true) (tX_WireError : PySem.W.typeIn K (.ref C_WireError) = some (.type "type")) (iX_WireError : PySem.W.isClsIn K C_WireError = true)
    {nm_BadName q_BadName : Str} {N_BadName : Addr} {bs_BadName bm_BadName : List Value} {sn_BadName : List Str} {sub_BadName : List Value} {ab_BadName : Bool} {col_BadName : Option Bool} {dd_BadName : Option Addr} {k0_BadName k1_BadName k2_BadName k3_BadName k5_BadName : Option Value}
    (aC_BadName : PySem.W.nsIn K mainGlobals "BadName" = some (some (.ref C_BadName))) (lx_BadName : K.lookup C_BadName = some (excClassObj nm_BadName q_BadName C_BadName N_BadName bs_BadName bm_BadName true sn_BadName sub_BadName ab_BadName col_BadName dd_BadName k0_BadName k1_BadName k2_BadName k3_BadName k5_BadName "ValueError.__new__")) (rv_BadName : PySem.HandSPX.refsVE bm_BadName = true)
    (kX_BadName : PySem.W.keepIn K (.ref C_BadName) = true) (bX_BadName : PySem.W.subIn K (.ref C_BadName) (.type "BaseException") = some true) (tX_BadName : PySem.W.typeIn K (.ref C_BadName) = some (.type "type")) (iX_BadName : PySem.W.isClsIn K C_BadName = true)
    (sa_BadName : PySem.W.findIn K (.ref C_BadName) "__setattr__" = some (some (.builtin "object.__setattr__"))) (xga_BadName : PySem.W.findIn K (.ref C_BadName) "__getattribute__" = some (some (.builtin "BaseException.__getattribute__"))) (xgg_BadName : PySem.W.findIn K (.ref C_BadName) "__getattr__" = some none) (xhd_BadName : PySem.W.hasDictIn K C_BadName = true) (xno_BadName : PySem.W.findIn K (.ref C_BadName) "name" = some none)
    (xrd : PySem.W.readsIn K C_WireError (.type "type") = true) (xrga : PySem.W.specialIn K (.ref C_WireError) "__getattribute__" = some (some (.builtin "type.__getattribute__"))) (xrv : PySem.W.findCls K (.ref C_WireError) (.type "type") "__init__" = some (.val (.builtin "ValueError.__init__")))
    {t_MOST_SIGNS : Tok} (u_MOST_SIGNS : PySem.W.nsIn K mainGlobals "MOST_SIGNS" = some (some (.int 64 t_MOST_SIGNS)))
    (eg_BadRow : PySem.W.findIn K (.ref C_BadRow) "__getattribute__" = some (some (.builtin "BaseException.__getattribute__"))) (ek_BadRow : PySem.W.findIn K (.ref C_BadRow) "__getattr__" = some none) (ed_BadRow : PySem.W.hasDictIn K C_BadRow = true) (ea_BadRow : PySem.W.findIn K (.ref C_BadRow) "__class__" = some (some (.builtin "object.__class__"))) (em_BadRow : PySem.W.mroIn K C_BadRow (.type "object") = some true)
    (eN : PySem.W.specialIn K (.builtin "object.__class__") "__get__" = some (some (.builtin "getset_descriptor.__get__"))) (eT : PySem.W.takesIn K (.builtin "object.__class__") = some true)
    (sT_BadRow_ValueError : PySem.W.subIn K (.ref C_BadRow) (.type "ValueError") = some true)
    (sX_BadRow_BadMask : PySem.W.subIn K (.ref C_BadRow) (.ref C_BadMask) = some false)
    (sX_BadRow_BadName : PySem.W.subIn K (.ref C_BadRow) (.ref C_BadName) = some false)
    (sX_BadRow_BadRow : PySem.W.subIn K (.ref C_BadRow) (.ref C_BadRow) = some true)
    (sX_BadRow_BadTable : PySem.W.subIn K (.ref C_BadRow) (.ref C_BadTable) = some false)
    (sX_BadRow_WireError : PySem.W.subIn K (.ref C_BadRow) (.ref C_WireError) = some true)
    (a_BadName___init__ : PySem.W.findIn K (.ref C_BadName) "__init__" = some (some (.ref f_BadName___init__))) (i_BadName___init__ : PySem.W.typeIn K (.ref f_BadName___init__) = some (.type "function"))
    (l_BadName___init__ : K.lookup f_BadName___init__ = some ⟨oc_BadName___init__, od_BadName___init__, .func (PySem.W.fnOf "__init__" "BadName.__init__" (defArgs s_BadName___init__) (defBody s_BadName___init__) (defScope s_BadName___init__) .none kV_BadName___init__ dc_BadName___init__ pm_BadName___init__ an_BadName___init__ cd_BadName___init__ ct_BadName___init__), sl_BadName___init__⟩) (c_BadName___init__ : PySem.W.codeIn K cd_BadName___init__ "BadName.__init__" = true) (k_BadName___init__ : PySem.W.keepIn K (.ref f_BadName___init__) = true)
    (a_text_of : PySem.W.nsIn K mainGlobals "text_of" = some (some (.ref f_text_of)))
    (l_text_of : K.lookup f_text_of = some ⟨oc_text_of, od_text_of, .func (PySem.W.fnOf "text_of" "text_of" (defArgs s_text_of) (defBody s_text_of) (defScope s_text_of) .none kV_text_of dc_text_of pm_text_of an_text_of cd_text_of ct_text_of), sl_text_of⟩) (c_text_of : PySem.W.codeIn K cd_text_of "text_of" = true) (k_text_of : PySem.W.keepIn K (.ref f_text_of) = true)
    (a_mask_in : PySem.W.nsIn K mainGlobals "mask_in" = some (some (.ref f_mask_in)))
    (l_mask_in : K.lookup f_mask_in = some ⟨oc_mask_in, od_mask_in, .func (PySem.W.fnOf "mask_in" "mask_in" (defArgs s_mask_in) (defBody s_mask_in) (defScope s_mask_in) .none kV_mask_in dc_mask_in pm_mask_in an_mask_in cd_mask_in ct_mask_in), sl_mask_in⟩) (c_mask_in : PySem.W.codeIn K cd_mask_in "mask_in" = true) (k_mask_in : PySem.W.keepIn K (.ref f_mask_in) = true)
    (a_words_of : PySem.W.nsIn K mainGlobals "words_of" = some (some (.ref f_words_of)))
    (l_words_of : K.lookup f_words_of = some ⟨oc_words_of, od_words_of, .func (PySem.W.fnOf "words_of" "words_of" (defArgs s_words_of) (defBody s_words_of) (defScope s_words_of) .none kV_words_of dc_words_of pm_words_of an_words_of cd_words_of ct_words_of), sl_words_of⟩) (c_words_of : PySem.W.codeIn K cd_words_of "words_of" = true) (k_words_of : PySem.W.keepIn K (.ref f_words_of) = true)
    (a_cell : PySem.W.nsIn K mainGlobals "_law_cell" = some (some (.ref f_cell)))
    (l_cell : K.lookup f_cell = some ⟨oc_cell, od_cell, .func (PySem.W.fnOf "_law_cell" "_law_cell" (defArgs s_cell) (defBody s_cell) (defScope s_cell) .none kV_cell dc_cell pm_cell an_cell cd_cell ct_cell), sl_cell⟩) (c_cell : PySem.W.codeIn K cd_cell "_law_cell" = true) (k_cell : PySem.W.keepIn K (.ref f_cell) = true)
    (a_mix : PySem.W.nsIn K mainGlobals "_law_mix" = some (some (.ref f_mix)))
    (l_mix : K.lookup f_mix = some ⟨oc_mix, od_mix, .func (PySem.W.fnOf "_law_mix" "_law_mix" (defArgs s_mix) (defBody s_mix) (defScope s_mix) .none kV_mix dc_mix pm_mix an_mix cd_mix ct_mix), sl_mix⟩) (c_mix : PySem.W.codeIn K cd_mix "_law_mix" = true) (k_mix : PySem.W.keepIn K (.ref f_mix) = true)
    (a_signs : PySem.W.nsIn K mainGlobals "_law_signs" = some (some (.ref f_signs)))
    (l_signs : K.lookup f_signs = some ⟨oc_signs, od_signs, .func (PySem.W.fnOf "_law_signs" "_law_signs" (defArgs s_signs) (defBody s_signs) (defScope s_signs) .none kV_signs dc_signs pm_signs an_signs cd_signs ct_signs), sl_signs⟩) (c_signs : PySem.W.codeIn K cd_signs "_law_signs" = true) (k_signs : PySem.W.keepIn K (.ref f_signs) = true)
    (a_spoilt : PySem.W.nsIn K mainGlobals "_law_spoilt" = some (some (.ref f_spoilt)))
    (l_spoilt : K.lookup f_spoilt = some ⟨oc_spoilt, od_spoilt, .func (PySem.W.fnOf "_law_spoilt" "_law_spoilt" (defArgs s_spoilt) (defBody s_spoilt) (defScope s_spoilt) .none kV_spoilt dc_spoilt pm_spoilt an_spoilt cd_spoilt ct_spoilt), sl_spoilt⟩) (c_spoilt : PySem.W.codeIn K cd_spoilt "_law_spoilt" = true) (k_spoilt : PySem.W.keepIn K (.ref f_spoilt) = true)
    (a_read : PySem.W.nsIn K mainGlobals "_law_read" = some (some (.ref f_read)))
    (l_read : K.lookup f_read = some ⟨oc_read, od_read, .func (PySem.W.fnOf "_law_read" "_law_read" (defArgs s_read) (defBody s_read) (defScope s_read) .none kV_read dc_read pm_read an_read cd_read ct_read), sl_read⟩) (c_read : PySem.W.codeIn K cd_read "_law_read" = true) (k_read : PySem.W.keepIn K (.ref f_read) = true)
    (a_told : PySem.W.nsIn K mainGlobals "_law_told" = some (some (.ref f_told)))
    (l_told : K.lookup f_told = some ⟨oc_told, od_told, .func (PySem.W.fnOf "_law_told" "_law_told" (defArgs s_told) (defBody s_told) (defScope s_told) .none kV_told dc_told pm_told an_told cd_told ct_told), sl_told⟩) (c_told : PySem.W.codeIn K cd_told "_law_told" = true) (k_told : PySem.W.keepIn K (.ref f_told) = true)
    (a_is_pair : PySem.W.nsIn K mainGlobals "_law_is_pair" = some (some (.ref f_is_pair)))
    (l_is_pair : K.lookup f_is_pair = some ⟨oc_is_pair, od_is_pair, .func (PySem.W.fnOf "_law_is_pair" "_law_is_pair" (defArgs s_is_pair) (defBody s_is_pair) (defScope s_is_pair) .none kV_is_pair dc_is_pair pm_is_pair an_is_pair cd_is_pair ct_is_pair), sl_is_pair⟩) (c_is_pair : PySem.W.codeIn K cd_is_pair "_law_is_pair" = true) (k_is_pair : PySem.W.keepIn K (.ref f_is_pair) = true)
    (a_words_right : PySem.W.nsIn K mainGlobals "_law_words_right" = some (some (.ref f_words_right)))
    (l_words_right : K.lookup f_words_right = some ⟨oc_words_right, od_words_right, .func (PySem.W.fnOf "_law_words_right" "_law_words_right" (defArgs s_words_right) (defBody s_words_right) (defScope s_words_right) .none kV_words_right dc_words_right pm_words_right an_words_right cd_words_right ct_words_right), sl_words_right⟩) (c_words_right : PySem.W.codeIn K cd_words_right "_law_words_right" = true) (k_words_right : PySem.W.keepIn K (.ref f_words_right) = true)
    (a_law : PySem.W.nsIn K mainGlobals "law" = some (some (.ref f_law)))
    (l_law : K.lookup f_law = some ⟨oc_law, od_law, .func (PySem.W.fnOf "law" "law" (defArgs s_law) (defBody s_law) (defScope s_law) .none kV_law dc_law pm_law an_law cd_law ct_law), sl_law⟩) (c_law : PySem.W.codeIn K cd_law "law" = true) (k_law : PySem.W.keepIn K (.ref f_law) = true)
    (z_ValueError : PySem.W.nsIn K mainGlobals "ValueError" = some none)
    (z_bool : PySem.W.nsIn K mainGlobals "bool" = some none)
    (z_enumerate : PySem.W.nsIn K mainGlobals "enumerate" = some none)
    (z_int : PySem.W.nsIn K mainGlobals "int" = some none)
    (z_isinstance : PySem.W.nsIn K mainGlobals "isinstance" = some none)
    (z_len : PySem.W.nsIn K mainGlobals "len" = some none)
    (z_list : PySem.W.nsIn K mainGlobals "list" = some none)
    (z_range : PySem.W.nsIn K mainGlobals "range" = some none)
    (z_reversed : PySem.W.nsIn K mainGlobals "reversed" = some none)
    (z_str : PySem.W.nsIn K mainGlobals "str" = some none)
    (z_tuple : PySem.W.nsIn K mainGlobals "tuple" = some none)
    : ∃ (fd : FuncData) (sp : Sp), (∀ (s : Shared) (v : Value), BindsTo s fd ⟨[v], []⟩ [("_law_script", v)]) ∧ (∀ (H : Hp) (a : Addr) (ns : List Int), ns.length ≤ 63 → SqL K H a (ns.map V.int) → sp [.ref a] H (fun v _ => v = .bl true) fun _ _ _ => False) ∧ ∀ base : Heap, K.In base → base.Ns mainGlobals mg → FnOk l.prog w K mg base CX0 3 fa fd ["_law_script"] sp := by
  have e := hfa.symm.trans (PySem.W.mg_of X G a_law)
  cases e
  have F_BadName___init__ := fun_mk (st := s_BadName___init__) l_BadName___init__ c_BadName___init__ k_BadName___init__
  have b_BadName___init__ := F_BadName___init__.binds (ps := ["self", "name"]) fun _ _ _ _ _ _ us hl => match us, hl with | [_, _], _ => rfl
  have F_text_of := fun_mk (st := s_text_of) l_text_of c_text_of k_text_of
  have b_text_of := F_text_of.binds (ps := ["mask", "width"]) fun _ _ _ _ _ _ us hl => match us, hl with | [_, _], _ => rfl
  have F_mask_in := fun_mk (st := s_mask_in) l_mask_in c_mask_in k_mask_in
  have b_mask_in := F_mask_in.binds (ps := ["text"]) fun _ _ _ _ _ _ us hl => match us, hl with | [_], _ => rfl
  have F_words_of := fun_mk (st := s_words_of) l_words_of c_words_of k_words_of
  have b_words_of := F_words_of.binds (ps := ["row"]) fun _ _ _ _ _ _ us hl => match us, hl with | [_], _ => rfl
  have F_cell := fun_mk (st := s_cell) l_cell c_cell k_cell
  have b_cell := F_cell.binds (ps := ["_law_script", "_law_k"]) fun _ _ _ _ _ _ us hl => match us, hl with | [_, _], _ => rfl
  have F_mix := fun_mk (st := s_mix) l_mix c_mix k_mix
  have b_mix := F_mix.binds (ps := ["_law_cell_here", "_law_k"]) fun _ _ _ _ _ _ us hl => match us, hl with | [_, _], _ => rfl
  have F_signs := fun_mk (st := s_signs) l_signs c_signs k_signs
  have b_signs := F_signs.binds (ps := []) fun _ _ _ _ _ _ us hl => match us, hl with | [], _ => rfl
  have F_spoilt := fun_mk (st := s_spoilt) l_spoilt c_spoilt k_spoilt
  have b_spoilt := F_spoilt.binds (ps := ["_law_text", "_law_cell_here"]) fun _ _ _ _ _ _ us hl => match us, hl with | [_, _], _ => rfl
  have F_read := fun_mk (st := s_read) l_read c_read k_read
  have b_read := F_read.binds (ps := ["_law_text"]) fun _ _ _ _ _ _ us hl => match us, hl with | [_], _ => rfl
  have F_told := fun_mk (st := s_told) l_told c_told k_told
  have b_told := F_told.binds (ps := ["_law_thing"]) fun _ _ _ _ _ _ us hl => match us, hl with | [_], _ => rfl
  have F_is_pair := fun_mk (st := s_is_pair) l_is_pair c_is_pair k_is_pair
  have b_is_pair := F_is_pair.binds (ps := ["_law_found"]) fun _ _ _ _ _ _ us hl => match us, hl with | [_], _ => rfl
  have F_words_right := fun_mk (st := s_words_right) l_words_right c_words_right k_words_right
  have b_words_right := F_words_right.binds (ps := ["_law_script"]) fun _ _ _ _ _ _ us hl => match us, hl with | [_], _ => rfl
  have F_law := fun_mk (st := s_law) l_law c_law k_law
  refine ⟨PySem.W.fnOf "law" "law" (defArgs s_law) (defBody s_law) (defScope s_law) .none kV_law dc_law pm_law an_law cd_law ct_law, sp_law K ⟨C_BadMask, C_BadRow, C_BadTable, C_WireError, C_BadName⟩, fun s v => .of_eq rfl, fun H a ns hl  hS => ⟨H, .ref a, ns, fun b => b = true, rfl, Ex.rfl', ⟨a, rfl, hS⟩, w_law hl  rfl, fun z hz _ _ _ => by subst hz; rfl⟩, fun base _ _ => ?_⟩
  have T : Tz K mg ⟨C_BadMask, C_BadRow, C_BadTable, C_WireError, C_BadName⟩ := ⟨⟨xX_BadMask, PySem.W.mg_of X G aC_BadMask, kX_BadMask, bX_BadMask, tX_BadMask⟩, ⟨xX_BadRow, PySem.W.mg_of X G aC_BadRow, kX_BadRow, bX_BadRow, tX_BadRow⟩, ⟨xX_BadTable, PySem.W.mg_of X G aC_BadTable, kX_BadTable, bX_BadTable, tX_BadTable⟩, ⟨xX_WireError, PySem.W.mg_of X G aC_WireError, kX_WireError, bX_WireError, tX_WireError⟩, ⟨PySem.W.mg_of X G aC_BadName, ⟨⟨_, _, _, _, _, _, _, _, _, _, _, _, _, _, _, lx_BadName, rv_BadName⟩, sa_BadName, bX_BadName, tX_BadName, kX_BadName⟩, ⟨xga_BadName, xgg_BadName, bX_BadName, xhd_BadName⟩, xno_BadName⟩, ⟨xrd, xrga⟩, xrv, ⟨_, PySem.W.mg_of X G u_MOST_SIGNS, _, rfl⟩, ⟨eg_BadRow, ek_BadRow, bX_BadRow, ed_BadRow, ea_BadRow, eN, eT, em_BadRow⟩, kit_ty (by kernel_rfl) sT_BadRow_ValueError, kit_own iX_BadMask tX_BadMask sX_BadRow_BadRow sX_BadRow_BadMask, kit_own iX_BadName tX_BadName sX_BadRow_BadRow sX_BadRow_BadName, kit_own iX_BadTable tX_BadTable sX_BadRow_BadRow sX_BadRow_BadTable, kit_own iX_WireError tX_WireError sX_BadRow_BadRow sX_BadRow_WireError, exm_of bX_BadRow iX_BadRow tX_BadRow sX_BadRow_BadRow⟩
  have C_BadName___init__ := ok_BadName___init__ (P := l.prog) (w0 := w) (base := base) T F_BadName___init__ ⟨a_BadName___init__, i_BadName___init__⟩ b_BadName___init__
  have C_text_of := ok_text_of (P := l.prog) (w0 := w) (base := base) T F_text_of (PySem.W.mg_of X G a_text_of) b_text_of (PySem.W.mg_none_of X G z_range) (PySem.W.mg_none_of X G z_str)
  have C_mask_in := ok_mask_in (P := l.prog) (w0 := w) (base := base) T F_mask_in (PySem.W.mg_of X G a_mask_in) b_mask_in (PySem.W.mg_none_of X G z_enumerate) (PySem.W.mg_none_of X G z_isinstance) (PySem.W.mg_none_of X G z_len) (PySem.W.mg_none_of X G z_str)
  have C_words_of := ok_words_of (P := l.prog) (w0 := w) (base := base) T F_words_of (PySem.W.mg_of X G a_words_of) b_words_of
  have C_cell := ok_cell (P := l.prog) (w0 := w) (base := base) T F_cell (PySem.W.mg_of X G a_cell) b_cell (PySem.W.mg_none_of X G z_len)
  have C_mix := ok_mix (P := l.prog) (w0 := w) (base := base) T F_mix (PySem.W.mg_of X G a_mix) b_mix
  have C_signs := ok_signs (P := l.prog) (w0 := w) (base := base) T F_signs (PySem.W.mg_of X G a_signs) b_signs
  have C_spoilt := ok_spoilt (P := l.prog) (w0 := w) (base := base) T F_spoilt (PySem.W.mg_of X G a_spoilt) b_spoilt C_signs C_mix (PySem.W.mg_none_of X G z_len)
  have C_read := ok_read (P := l.prog) (w0 := w) (base := base) T F_read (PySem.W.mg_of X G a_read) b_read (PySem.W.mg_none_of X G z_int) (PySem.W.mg_none_of X G z_len) (PySem.W.mg_none_of X G z_reversed)
  have C_told := ok_told (P := l.prog) (w0 := w) (base := base) T F_told (PySem.W.mg_of X G a_told) b_told C_mask_in (PySem.W.mg_none_of X G z_ValueError) (PySem.W.mg_none_of X G z_isinstance)
  have C_is_pair := ok_is_pair (P := l.prog) (w0 := w) (base := base) T F_is_pair (PySem.W.mg_of X G a_is_pair) b_is_pair (PySem.W.mg_none_of X G z_bool) (PySem.W.mg_none_of X G z_int) (PySem.W.mg_none_of X G z_isinstance) (PySem.W.mg_none_of X G z_len) (PySem.W.mg_none_of X G z_tuple)
  have C_words_right := ok_words_right (P := l.prog) (w0 := w) (base := base) T F_words_right (PySem.W.mg_of X G a_words_right) b_words_right C_signs C_mix C_words_of (PySem.W.mg_none_of X G z_isinstance) (PySem.W.mg_none_of X G z_list) (PySem.W.mg_none_of X G z_range)
  exact ok_law T F_law C_cell C_text_of C_mask_in C_is_pair C_spoilt C_told C_read C_words_right (PySem.W.mg_none_of X G z_isinstance) (PySem.W.mg_none_of X G z_range) (PySem.W.mg_none_of X G z_str)
theorem walk {l : PySem.W.OpenLaw} {q : Program} {loose : List Str} {XP : (Str → Option Value) → Heap → Prop} {YP : World → Heap → Prop} {d : DefRec} {K : Params → PySem.W.Frag} (hn : l.most = some 63) (hdf : d.params.defaults = [])
    (hY : ∀ (w : World) (h : Heap), YP w h → (K w.params).In h)
    (F : ∀ (w : World) (mg : Str → Option Value) (fa : Addr) (h : Heap), (K w.params).In h → h.Ns mainGlobals mg → mg d.name = some (.ref fa) → ∃ (fd : FuncData) (sp : Sp), (∀ (s : Shared) (u : Value), BindsTo s fd ⟨[u], []⟩ [("_law_script", u)]) ∧ (∀ (H : Hp) (a : Addr) (ns : List Int), ns.length ≤ 63 → SqL (K w.params) H a (ns.map V.int) → sp [.ref a] H (fun v _ => v = .bl true) fun _ _ _ => False) ∧ ∀ base : Heap, (K w.params).In base → base.Ns mainGlobals mg → FnOk l.prog w (K w.params) mg base CX0 3 fa fd ["_law_script"] sp) :
    PySem.W.WalkO q loose XP YP l.row.toRowW d [] (fun f vs => PySem.call f vs) := by
  refine Att.attach_call hn hdf fun w s₀ s₁ mg mb fa o pm cd doc a vs ns G Y ho hd hcd hmg hobj hints hlen hg => ?_
  have KX := hY w _ Y
  obtain ⟨fd, sp, hb, hsp, hF⟩ := F w mg fa _ KX G.T.g hmg
  exact law_call (k := 3) (x := "_law_script") (CX := CX0) KX G.T.g G.T.b G.T.builtins G.T.nolimit hg hobj hints (Nat.le_trans hlen (by decide)) ⟨rfl, by decide, by decide⟩ hF hb (fun H hO hS => hsp H a ns hlen hS) fun H e s' z => z
end My
open PySem PySem.W PyProof.Rows
set_option maxRecDepth 100000 in
set_option maxHeartbeats 0 in
theorem PySem.Challenge.cw_sumwires_k03_rows_of_signs_holds : PySem.Challenge.rw_sumwires_k03_rows_of_signs.Holds := by
  w_on; o_law; k_head; (case hw => w_witness2)
  k_fill
  refine My.walk (l := PySem.Challenge.rw_sumwires_k03_rows_of_signs) rfl rfl (fun w h Y => PySem.W.kIn_of Y) ?F
  case F =>
    intro w mg fa h KX G hmg
    refine' My.all_mk KX G hmg ?aC_BadMask ?xX_BadMask ?kX_BadMask ?bX_BadMask ?tX_BadMask ?iX_BadMask ?aC_BadRow ?xX_BadRow ?kX_BadRow ?bX_BadRow ?tX_BadRow ?iX_BadRow ?aC_BadTable ?xX_BadTable ?kX_BadTable ?bX_BadTable ?tX_BadTable ?iX_BadTable ?aC_WireError ?xX_WireError ?kX_WireError ?bX_WireError ?tX_WireError ?iX_WireError ?aC_BadName ?lx_BadName ?rv_BadName ?kX_BadName ?bX_BadName ?tX_BadName ?iX_BadName ?sa_BadName ?xga_BadName ?xgg_BadName ?xhd_BadName ?xno_BadName ?xrd ?xrga ?xrv ?u_MOST_SIGNS ?eg_BadRow ?ek_BadRow ?ed_BadRow ?ea_BadRow ?em_BadRow ?eN ?eT ?sT_BadRow_ValueError ?sX_BadRow_BadMask ?sX_BadRow_BadName ?sX_BadRow_BadRow ?sX_BadRow_BadTable ?sX_BadRow_WireError ?a_BadName___init__ ?i_BadName___init__ ?l_BadName___init__ ?c_BadName___init__ ?k_BadName___init__ ?a_text_of ?l_text_of ?c_text_of ?k_text_of ?a_mask_in ?l_mask_in ?c_mask_in ?k_mask_in ?a_words_of ?l_words_of ?c_words_of ?k_words_of ?a_cell ?l_cell ?c_cell ?k_cell ?a_mix ?l_mix ?c_mix ?k_mix ?a_signs ?l_signs ?c_signs ?k_signs ?a_spoilt ?l_spoilt ?c_spoilt ?k_spoilt ?a_read ?l_read ?c_read ?k_read ?a_told ?l_told ?c_told ?k_told ?a_is_pair ?l_is_pair ?c_is_pair ?k_is_pair ?a_words_right ?l_words_right ?c_words_right ?k_words_right ?a_law ?l_law ?c_law ?k_law ?z_ValueError ?z_bool ?z_enumerate ?z_int ?z_isinstance ?z_len ?z_list ?z_range ?z_reversed ?z_str ?z_tuple
    (case aC_BadMask => k_is); (case xX_BadMask => k_exc); (case kX_BadMask => k_is); (case bX_BadMask => k_is)
    (case tX_BadMask => k_is); (case iX_BadMask => k_is); (case aC_BadRow => k_is); (case xX_BadRow => k_exc)
    (case kX_BadRow => k_is); (case bX_BadRow => k_is); (case tX_BadRow => k_is); (case iX_BadRow => k_is)
    (case aC_BadTable => k_is); (case xX_BadTable => k_exc); (case kX_BadTable => k_is); (case bX_BadTable => k_is)
    (case tX_BadTable => k_is); (case iX_BadTable => k_is); (case aC_WireError => k_is); (case xX_WireError => k_exc)
    (case kX_WireError => k_is); (case bX_WireError => k_is); (case tX_WireError => k_is); (case iX_WireError => k_is)
    (case aC_BadName => k_is); (case lx_BadName => k_is); (case rv_BadName => rfl); (case kX_BadName => k_is)
    (case bX_BadName => k_is); (case tX_BadName => k_is); (case iX_BadName => k_is); (case sa_BadName => k_is)
    (case xga_BadName => k_is); (case xgg_BadName => k_is); (case xhd_BadName => k_is); (case xno_BadName => k_is)
    (case xrd => k_is); (case xrga => k_is); (case xrv => k_is); (case u_MOST_SIGNS => k_is)
    (case eg_BadRow => k_is); (case ek_BadRow => k_is); (case ed_BadRow => k_is); (case ea_BadRow => k_is)
    (case em_BadRow => k_is); (case eN => k_is); (case eT => k_is); (case sT_BadRow_ValueError => k_is)
    (case sX_BadRow_BadMask => first | rfl | k_is); (case sX_BadRow_BadName => first | rfl | k_is); (case sX_BadRow_BadRow => first | rfl | k_is); (case sX_BadRow_BadTable => first | rfl | k_is)
    (case sX_BadRow_WireError => first | rfl | k_is); (case a_BadName___init__ => k_is); (case i_BadName___init__ => k_is); (case l_BadName___init__ => k_is)
    (case c_BadName___init__ => k_is); (case k_BadName___init__ => k_is); (case a_text_of => k_is); (case l_text_of => k_is)
    (case c_text_of => k_is); (case k_text_of => k_is); (case a_mask_in => k_is); (case l_mask_in => k_is)
    (case c_mask_in => k_is); (case k_mask_in => k_is); (case a_words_of => k_is); (case l_words_of => k_is)
    (case c_words_of => k_is); (case k_words_of => k_is); (case a_cell => k_is); (case l_cell => k_is)
    (case c_cell => k_is); (case k_cell => k_is); (case a_mix => k_is); (case l_mix => k_is)
    (case c_mix => k_is); (case k_mix => k_is); (case a_signs => k_is); (case l_signs => k_is)
    (case c_signs => k_is); (case k_signs => k_is); (case a_spoilt => k_is); (case l_spoilt => k_is)
    (case c_spoilt => k_is); (case k_spoilt => k_is); (case a_read => k_is); (case l_read => k_is)
    (case c_read => k_is); (case k_read => k_is); (case a_told => k_is); (case l_told => k_is)
    (case c_told => k_is); (case k_told => k_is); (case a_is_pair => k_is); (case l_is_pair => k_is)
    (case c_is_pair => k_is); (case k_is_pair => k_is); (case a_words_right => k_is); (case l_words_right => k_is)
    (case c_words_right => k_is); (case k_words_right => k_is); (case a_law => k_is); (case l_law => k_is)
    (case c_law => k_is); (case k_law => k_is); (case z_ValueError => k_is); (case z_bool => k_is)
    (case z_enumerate => k_is); (case z_int => k_is); (case z_isinstance => k_is); (case z_len => k_is)
    (case z_list => k_is); (case z_range => k_is); (case z_reversed => k_is); (case z_str => k_is)
    (case z_tuple => k_is)
