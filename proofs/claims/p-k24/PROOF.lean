import PyProof.Rows.All
import Wide.All
import OpenK.AllK
import Wide.FinOn
import HandS.ForMost
import HandS.Wide
import HandS.WideBits
import HandS.IsInst
import HandS.Steps
import HandS.Exc
import HandS.ExcOwn
import HandS.TryOnly
import HandS.WordsExc
import HandS.EndBits
import HandS.Rev
import HandS.RevTup
import HandS.Walk
import HandS.Zip
import HandS.SortInts
import HandS.More
import HandS.SetFor
import KE.GoesMore
import KE.KDictZip
import HandS.Iter
import HandS.Keys
import HandS.Defaults
import HandS.ExcIs
import HandS.Text
import PyProof.EqKinds
import PyProof.NeKinds
import KE.KEqDict
import HandS.Style
import HandS.ClsMeth
import PySem.Challenge.RW_sumwires_k24_whole_answers_add_up
set_option Elab.async false
set_option linter.all false
set_option maxRecDepth 100000
set_option maxHeartbeats 4000000
set_option exponentiation.threshold 4000
/-! Wk: a typed layer over the hand layer. A state is a pair (F, H): H the tracked heap, F that part of it which nobody changes any more. -/
namespace Wk
open PySem L2

abbrev Ex (H H' : Hp) : Prop := ∀ a o, H a = some o → H' a = some o
theorem Ex.rfl' {H : Hp} : Ex H H := fun _ _ h => h
theorem Ex.tr {H H1 H2 : Hp} (a : Ex H H1) (b : Ex H1 H2) : Ex H H2 := fun x o h => b x o (a x o h)
theorem Ex.new {H : Hp} {p : Addr} {o : HO} (h : H p = none) : Ex H (upd H p o) := fun a u e => by
  rw [upd_ne (ne_of_none e h)]; exact e
theorem Ex.non {H H' : Hp} (e : Ex H H') {p : Addr} (h : H' p = none) : H p = none := by
  cases q : H p with
  | none => rfl
  | some o => rw [e p o q] at h; cases h

/-- from (F0, H0) to (F, H): all is kept, and F has grown by nothing but what is new to H0 -/
structure Wf (F0 H0 F H : Hp) : Prop where
  h : Ex H0 H
  f : Ex F H
  g : Ex F0 F
  n : ∀ a o, F a = some o → F0 a = none → H0 a = none
theorem Wf.id {F H : Hp} (e : Ex F H) : Wf F H F H := ⟨Ex.rfl', e, Ex.rfl', fun a o h h' => by rw [h] at h'; cases h'⟩
theorem Wf.tr {F0 H0 F H F' H' : Hp} (a : Wf F0 H0 F H) (b : Wf F H F' H') : Wf F0 H0 F' H' := ⟨a.h.tr b.h, b.f, a.g.tr b.g, fun x o h h0 => by
  cases q : F x with
  | none => exact a.h.non (b.n x o h q)
  | some u => exact a.n x u q h0⟩
/-- a new object that stays as it is -/
theorem Wf.new {F H : Hp} {p : Addr} {o : HO} (e : Ex F H) (hp : H p = none) : Wf F H (upd F p o) (upd H p o) := ⟨Ex.new hp, fun a u h => by
    by_cases q : a = p
    · subst q; rw [upd_same] at h ⊢; exact h
    · rw [upd_ne q] at h ⊢; exact e a u h, Ex.new (e.non hp), fun a u h h0 => by
    by_cases q : a = p
    · subst q; exact hp
    · rw [upd_ne q, h0] at h; cases h⟩
/-- a new object that is still changed -/
theorem Wf.newX {F H : Hp} {p : Addr} {o : HO} (e : Ex F H) (hp : H p = none) : Wf F H F (upd H p o) := ⟨Ex.new hp, e.tr (Ex.new hp), Ex.rfl', fun a u h h0 => by rw [h] at h0; cases h0⟩
/-- the heap alone has grown -/
theorem Wf.grow {F H H' : Hp} (e : Ex F H) (h : Ex H H') : Wf F H F H' := ⟨h, e.tr h, Ex.rfl', fun a u h h0 => by rw [h] at h0; cases h0⟩

/-- F' has grown by nothing but p -/
abbrev Fz (F F' : Hp) (p : Addr) : Prop := ∀ q, q ≠ p → F q = none → F' q = none
/-- one's own object, not yet in F -/
structure Xc (H0 F H : Hp) (p : Addr) (o : HO) : Prop where
  z : H0 p = none
  n : F p = none
  h : H p = some o
section
variable {F0 H0 F H F' H' : Hp} {p q : Addr} {o u : HO}
theorem Xc.mk' (w : Wf F0 H0 F H) (hp : H p = none) : Xc H0 F (upd H p o) p o := ⟨w.h.non hp, w.f.non hp, upd_same⟩
theorem Xc.step (x : Xc H0 F H p o) (w : Wf F H F' H') : Xc H0 F' H' p o := ⟨x.z, (by
  cases q : F' p with
  | none => rfl
  | some u => have := w.n p u q x.n; rw [x.h] at this; cases this), w.h _ _ x.h⟩
theorem Xc.other (x : Xc H0 F H p o) (h : p ≠ q) : Xc H0 F (upd H q u) p o := ⟨x.z, x.n, by rw [upd_ne h]; exact x.h⟩
theorem Xc.set (x : Xc H0 F H p o) : Xc H0 F (upd H p u) p u := ⟨x.z, x.n, upd_same⟩
theorem Wf.set (w : Wf F0 H0 F H) (x : Xc H0 F H p o) : Wf F0 H0 F (upd H p u) := ⟨fun a v e => by
    rw [upd_ne (ne_of_none e x.z)]; exact w.h a v e, fun a v e => by rw [upd_ne (ne_of_none e x.n)]; exact w.f a v e, w.g, w.n⟩
/-- it is changed no more -/
theorem Wf.freeze (w : Wf F0 H0 F H) (x : Xc H0 F H p o) : Wf F0 H0 (upd F p o) H := ⟨w.h, fun a v e => by
    by_cases q : a = p
    · subst q; rw [upd_same] at e; rw [← e]; exact x.h
    · rw [upd_ne q] at e; exact w.f a v e, w.g.tr (Ex.new x.n), fun a v e e0 => by
    by_cases q : a = p
    · subst q; exact x.z
    · rw [upd_ne q] at e; exact w.n a v e e0⟩
theorem Xc.frz (x : Xc H0 F H p o) (y : Xc H0 F H q u) (h : p ≠ q) : Xc H0 (upd F q u) H p o := ⟨x.z, by rw [upd_ne h]; exact x.n, x.h⟩
theorem Xc.ne (x : Xc H0 F H p o) (h : H q = none) : p ≠ q := ne_of_none x.h h
end

/-! ### what represents what -/
structure Rep (α : Type) where
  r : Hp → V → α → Prop
  mono : ∀ {F F' : Hp} {v : V} {x : α}, Ex F F' → r F v x → r F' v x
def pI : Rep Int := ⟨fun _ v x => v = .int x, fun _ h => h⟩
def pN : Rep Nat := ⟨fun _ v x => v = .int (x : Int), fun _ h => h⟩
def pB : Rep Bool := ⟨fun _ v x => v = .bl x, fun _ h => h⟩
def pS : Rep Str := ⟨fun _ v x => v = .str x, fun _ h => h⟩
def pU : Rep Unit := ⟨fun _ v _ => v = .non, fun _ h => h⟩
def All {α : Type} (e : Rep α) (F : Hp) : List V → List α → Prop
  | [], [] => True
  | v :: vs, x :: xs => e.r F v x ∧ All e F vs xs
  | _, _ => False
section
variable {α β γ : Type} {e : Rep α} {F F' : Hp} {vs ws : List V} {xs ys : List α} {v : V} {x : α}
theorem All.mono (h : Ex F F') : ∀ {vs : List V} {xs : List α}, All e F vs xs → All e F' vs xs
  | [], [], _ => trivial
  | _ :: _, _ :: _, ⟨a, b⟩ => ⟨e.mono h a, All.mono h b⟩
  | [], _ :: _, q => q.elim
  | _ :: _, [], q => q.elim
theorem All.len : ∀ {vs : List V} {xs : List α}, All e F vs xs → vs.length = xs.length
  | [], [], _ => rfl
  | _ :: _, _ :: _, ⟨_, b⟩ => by rw [List.length_cons, List.length_cons, All.len b]
  | [], _ :: _, q => q.elim
  | _ :: _, [], q => q.elim
theorem All.get : ∀ {vs : List V} {xs : List α} {i : Nat} {x : α}, All e F vs xs → xs[i]? = some x → ∃ v, vs[i]? = some v ∧ e.r F v x
  | _ :: _, _ :: _, 0, _, ⟨a, _⟩, h => by simp at h; subst h; exact ⟨_, rfl, a⟩
  | _ :: _, _ :: _, i + 1, _, ⟨_, b⟩, h => by
    obtain ⟨v, h1, h2⟩ := All.get (i := i) b (by simpa using h)
    exact ⟨v, by simpa using h1, h2⟩
  | [], [], _, _, _, h => by simp at h
  | [], _ :: _, _, _, q, _ => q.elim
  | _ :: _, [], _, _, q, _ => q.elim
theorem All.got : ∀ {vs : List V} {xs : List α} {i : Nat} {v : V}, All e F vs xs → vs[i]? = some v → ∃ x, xs[i]? = some x ∧ e.r F v x
  | _ :: _, _ :: _, 0, _, ⟨a, _⟩, h => by simp at h; subst h; exact ⟨_, rfl, a⟩
  | _ :: _, _ :: _, i + 1, _, ⟨_, b⟩, h => by
    obtain ⟨v, h1, h2⟩ := All.got (i := i) b (by simpa using h)
    exact ⟨v, by simpa using h1, h2⟩
  | [], [], _, _, _, h => by simp at h
  | [], _ :: _, _, _, q, _ => q.elim
  | _ :: _, [], _, _, q, _ => q.elim
theorem All.app : ∀ {vs : List V} {xs : List α}, All e F vs xs → All e F ws ys → All e F (vs ++ ws) (xs ++ ys)
  | [], [], _, b => b
  | _ :: _, _ :: _, ⟨a, a'⟩, b => ⟨a, All.app a' b⟩
  | [], _ :: _, q, _ => q.elim
  | _ :: _, [], q, _ => q.elim
theorem All.snoc (a : All e F vs xs) (b : e.r F v x) : All e F (vs ++ [v]) (xs ++ [x]) := a.app ⟨b, trivial⟩
theorem All.set : ∀ {vs : List V} {xs : List α} (i : Nat), All e F vs xs → e.r F v x → All e F (vs.set i v) (xs.set i x)
  | [], [], _, _, _ => trivial
  | _ :: _, _ :: _, 0, ⟨_, b⟩, r => ⟨r, b⟩
  | _ :: _, _ :: _, i + 1, ⟨a, b⟩, r => ⟨a, All.set i b r⟩
  | [], _ :: _, _, q, _ => q.elim
  | _ :: _, [], _, q, _ => q.elim
theorem All.take : ∀ {vs : List V} {xs : List α} (i : Nat), All e F vs xs → All e F (vs.take i) (xs.take i)
  | [], [], i, _ => by simp [All]
  | _ :: _, _ :: _, 0, _ => trivial
  | _ :: _, _ :: _, i + 1, ⟨a, b⟩ => ⟨a, All.take i b⟩
  | [], _ :: _, _, q => q.elim
  | _ :: _, [], _, q => q.elim
theorem All.drop : ∀ {vs : List V} {xs : List α} (i : Nat), All e F vs xs → All e F (vs.drop i) (xs.drop i)
  | [], [], i, _ => by simp [All]
  | _ :: _, _ :: _, 0, h => h
  | _ :: _, _ :: _, i + 1, ⟨_, b⟩ => All.drop i b
  | [], _ :: _, _, q => q.elim
  | _ :: _, [], _, q => q.elim
theorem All.ints {vs : List V} : ∀ {xs : List Int}, All pI F vs xs → vs = xs.map V.int := by
  induction vs with
  | nil => intro xs h; cases xs with
    | nil => rfl
    | cons _ _ => exact h.elim
  | cons v vs ih => intro xs h; cases xs with
    | nil => exact h.elim
    | cons y ys => obtain ⟨a, b⟩ := h; rw [ih b, List.map_cons]; rw [show v = .int y from a]
theorem All.ofInts : ∀ {xs : List Int}, All pI F (xs.map V.int) xs
  | [] => trivial
  | _ :: _ => ⟨rfl, All.ofInts⟩
theorem All.nats {vs : List V} : ∀ {xs : List Nat}, All pN F vs xs → vs = (xs.map Int.ofNat).map V.int := by
  induction vs with
  | nil => intro xs h; cases xs with
    | nil => rfl
    | cons _ _ => exact h.elim
  | cons v vs ih => intro xs h; cases xs with
    | nil => exact h.elim
    | cons y ys => obtain ⟨a, b⟩ := h; rw [ih b, List.map_cons, List.map_cons]; rw [show v = .int (y : Int) from a]; rfl
end
/-- a list, a tuple of things of one kind, pairs, triples -/
def pL {α : Type} (e : Rep α) : Rep (List α) := ⟨fun F v xs => ∃ p vs, v = .ref p ∧ F p = some (.lst vs) ∧ All e F vs xs, fun h ⟨p, vs, a, b, c⟩ => ⟨p, vs, a, h _ _ b, c.mono h⟩⟩
def pTL {α : Type} (e : Rep α) : Rep (List α) := ⟨fun F v xs => ∃ p vs, v = .ref p ∧ F p = some (.tup vs) ∧ All e F vs xs, fun h ⟨p, vs, a, b, c⟩ => ⟨p, vs, a, h _ _ b, c.mono h⟩⟩
def pT2 {α β : Type} (e : Rep α) (f : Rep β) : Rep (α × β) := ⟨fun F v x => ∃ p u w, v = .ref p ∧ F p = some (.tup [u, w]) ∧ e.r F u x.1 ∧ f.r F w x.2, fun h ⟨p, u, w, a, b, c, d⟩ => ⟨p, u, w, a, h _ _ b, e.mono h c, f.mono h d⟩⟩
def pT3 {α β γ : Type} (e : Rep α) (f : Rep β) (g : Rep γ) : Rep (α × β × γ) := ⟨fun F v x => ∃ p u w y, v = .ref p ∧ F p = some (.tup [u, w, y]) ∧ e.r F u x.1 ∧ f.r F w x.2.1 ∧ g.r F y x.2.2, fun h ⟨p, u, w, y, a, b, c, d, k⟩ => ⟨p, u, w, y, a, h _ _ b, e.mono h c, f.mono h d, g.mono h k⟩⟩
def pO {α : Type} (e : Rep α) : Rep (Option α) := ⟨fun F v x => match x with | none => v = .non | some y => e.r F v y, fun {_ _ _ x} h q => by cases x with | none => exact q | some y => exact e.mono h q⟩
/-- the script: read only -/
def pScr (K : PySem.W.Frag) : Rep (List Int) := ⟨fun F v xs => ∃ a, v = .ref a ∧ SqL K F a (xs.map V.int), fun h ⟨a, e, q⟩ => ⟨a, e, by
  rcases q with (q | ⟨o, q⟩) | q
  · exact .inl (.inl (h _ _ q))
  · exact .inl (.inr ⟨o, h _ _ q⟩)
  · exact .inr q⟩⟩
/-- one's own list -/
structure XL {α : Type} (e : Rep α) (H0 F H : Hp) (p : Addr) (xs : List α) : Prop where
  x : ∃ vs, Xc H0 F H p (.lst vs) ∧ All e F vs xs
section
variable {α : Type} {e : Rep α} {F0 H0 F H F' H' : Hp} {p q : Addr} {o : HO} {xs : List α} {y : α} {v : V}
theorem XL.step (x : XL e H0 F H p xs) (w : Wf F H F' H') : XL e H0 F' H' p xs := let ⟨vs, a, b⟩ := x.x; ⟨vs, a.step w, b.mono w.g⟩
theorem XL.other {u : HO} (x : XL e H0 F H p xs) (h : p ≠ q) : XL e H0 F (upd H q u) p xs := let ⟨vs, a, b⟩ := x.x; ⟨vs, a.other h, b⟩
theorem XL.ne (x : XL e H0 F H p xs) (h : H q = none) : p ≠ q := let ⟨_, a, _⟩ := x.x; a.ne h
theorem XL.nil (w : Wf F0 H0 F H) (hp : H p = none) : XL e H0 F (upd H p (.lst [])) p [] := ⟨[], Xc.mk' w hp, trivial⟩
theorem XL.frz {u : HO} {β : Type} {e' : Rep β} {ys : List β} (x : XL e H0 F H p xs) (z : Xc H0 F H q u) (h : p ≠ q) : XL e H0 (upd F q u) H p xs := let ⟨vs, a, b⟩ := x.x; ⟨vs, a.frz z h, b.mono (Ex.new z.n)⟩
theorem XL.zero (x : XL e H0 F H p xs) : H0 p = none := let ⟨_, a, _⟩ := x.x; a.z
end
/-! ### typed loops -/
def forW {α S : Type} : List α → S → (α → S → (S → Prop) → (S → Prop) → Prop) → (S → Prop) → Prop
  | [], s, _, k => k s
  | x :: xs, s, b, k => b x s (fun s' => forW xs s' b k) k
def compG {α β : Type} : List α → List β → (α → (Option β → Prop) → Prop) → (List β → Prop) → Prop
  | [], acc, _, k => k acc
  | x :: xs, acc, b, k => b x fun o => compG xs (acc ++ o.toList) b k
def compW {α β : Type} (xs : List α) (b : α → (Option β → Prop) → Prop) (k : List β → Prop) : Prop := compG xs [] b k
def whileW {S : Type} (test : S → (Bool → Prop) → Prop) (body : S → (S → Prop) → (S → Prop) → Prop) (s : S) (k : S → Prop) : Prop :=
  ∃ I : Nat → S → Prop, (∃ m, I m s) ∧ ∀ m s, I m s → test s fun b => if b = true then body s (fun s' => ∃ m', m' < m ∧ I m' s') k else k s

/-! ### steps of readings -/
section
variable {K : PySem.W.Frag} {σ σ1 : L2.St} {H H1 : Hp} {te ta tb tc : TE} {tt tu : TT} {tA tR : TA} {Q : VK} {v w x y z : V} {D : Ends} {t u : TS} {i j : Int} {a b m n : Nat} {p q : Prop}
theorem e_val (h : Val te σ H v) (q : Q v H) : te σ H Q := h Q q
theorem v_eq (h : Val te σ H v) (e : v = w) : Val te σ H w := e ▸ h
theorem vi_of (h : Val te σ H (.int i)) (e : i = j) : Val te σ H (.int j) := e ▸ h
theorem vb_of {b c : Bool} (h : Val te σ H (.bl b)) (e : b = c) : Val te σ H (.bl c) := e ▸ h
theorem v2 {r : R2} (ha : Val ta σ H x) (hb : Val tb σ H y) (hr : ∀ Q : VK, Q z H → r x y H Q) : Val (tOp r ta tb) σ H z := fun Q k => ha _ (hb _ (hr Q k))
theorem v1 {r : V → Hp → VK → Prop} (ha : Val ta σ H x) (hr : ∀ Q : VK, Q z H → r x H Q) : Val (tUn r ta) σ H z := fun Q k => ha _ (hr Q k)
theorem vi0 {g : Int → Int → V} (ha : Val ta σ H (.int i)) (hb : Val tb σ H (.int j)) : Val (tOp (rI0 g) ta tb) σ H (g i j) := fun _ k => ha _ (hb _ ⟨i, j, rfl, rfl, k⟩)
theorem viC {C : Int → Int → Prop} {g : Int → Int → V} (ha : Val ta σ H (.int i)) (hb : Val tb σ H (.int j)) (hc : C i j) : Val (tOp (rI C g) ta tb) σ H (g i j) := fun _ k => ha _ (hb _ ⟨i, j, rfl, rfl, hc, k⟩)
/-! whole numbers from 0 on -/
theorem vn_add (ha : Val ta σ H (.int (a : Int))) (hb : Val tb σ H (.int (b : Int))) : Val (tOp (rI0 fun i j => .int (i + j)) ta tb) σ H (.int ((a + b : Nat) : Int)) := vi_of (vi0 ha hb) (by omega)
theorem vn_sub (ha : Val ta σ H (.int (a : Int))) (hb : Val tb σ H (.int (b : Int))) (h : b ≤ a) : Val (tOp (rI0 fun i j => .int (i - j)) ta tb) σ H (.int ((a - b : Nat) : Int)) := vi_of (vi0 ha hb) (by omega)
def NMul (a b : Nat) : Prop := a < 2 ^ 64 ∨ b < 2 ^ 64
theorem vn_mul (ha : Val ta σ H (.int (a : Int))) (hb : Val tb σ H (.int (b : Int))) (h : NMul a b) : Val (tOp (rI CMul fun i j => .int (i * j)) ta tb) σ H (.int ((a * b : Nat) : Int)) := vi_of (viC ha hb (by
  rcases h with h | h
  · exact .inl ⟨by omega, by omega⟩
  · exact .inr ⟨by omega, by omega⟩)) (by rw [Int.natCast_mul])
theorem vn_mulW (ha : Val ta σ H (.int (a : Int))) (hb : Val tb σ H (.int (b : Int))) (h : CMulX a b) : Val (tOp (rI CMulX fun i j => .int (i * j)) ta tb) σ H (.int ((a * b : Nat) : Int)) := vi_of (viC ha hb h) (by rw [Int.natCast_mul])
def NDiv (b : Nat) : Prop := 0 < b ∧ b.log2 < 9000
theorem vn_div (ha : Val ta σ H (.int (a : Int))) (hb : Val tb σ H (.int (b : Int))) (h : NDiv b) : Val (tOp (rI CDivW fun i j => .int (i / j)) ta tb) σ H (.int ((a / b : Nat) : Int)) := vi_of (viC ha hb ⟨by have := h.1; omega, h.2⟩) (by rw [Int.natCast_ediv])
theorem vi_div (ha : Val ta σ H (.int i)) (hb : Val tb σ H (.int (b : Int))) (h : NDiv b) : Val (tOp (rI CDivW fun i j => .int (i / j)) ta tb) σ H (.int (i / (b : Int))) := viC ha hb ⟨by have := h.1; omega, h.2⟩
theorem vn_mod (ha : Val ta σ H (.int (a : Int))) (hb : Val tb σ H (.int (b : Int))) (h : 0 < b) : Val (tOp (rI (fun _ j => 0 < j) fun i j => .int (i % j)) ta tb) σ H (.int ((a % b : Nat) : Int)) := vi_of (viC (C := fun _ j => 0 < j) ha hb (by omega)) (by rw [Int.natCast_emod])
/-- i % m, as a whole number from 0 on -/
def modN (i : Int) (m : Nat) : Nat := (i % (m : Int)).toNat
theorem modN_cast {i : Int} {m : Nat} (h : 0 < m) : ((modN i m : Nat) : Int) = i % (m : Int) := Int.toNat_of_nonneg (Int.emod_nonneg _ (by omega))
theorem modN_lt {i : Int} {m : Nat} (h : 0 < m) : modN i m < m := by
  have := modN_cast (i := i) h
  have := Int.emod_lt_of_pos i (show (0 : Int) < m by omega)
  omega
theorem vm_mod (ha : Val ta σ H (.int i)) (hb : Val tb σ H (.int (b : Int))) (h : 0 < b) : Val (tOp (rI (fun _ j => 0 < j) fun i j => .int (i % j)) ta tb) σ H (.int ((modN i b : Nat) : Int)) := vi_of (viC (C := fun _ j => 0 < j) ha hb (by omega)) (modN_cast h).symm
theorem bitAnd_N (a b : Nat) : Builtin.bitAnd (a : Int) (b : Int) = ((a &&& b : Nat) : Int) := by
  unfold Builtin.bitAnd
  rw [decide_eq_true (Int.natCast_nonneg a), decide_eq_true (Int.natCast_nonneg b)]
  rfl
theorem bitXor_N (a b : Nat) : Builtin.bitXor (a : Int) (b : Int) = ((a ^^^ b : Nat) : Int) := by rw [Bits.bitXor_pp (Int.natCast_nonneg a) (Int.natCast_nonneg b)]; rfl
theorem bitOr_N (a b : Nat) : Builtin.bitOr (a : Int) (b : Int) = ((a ||| b : Nat) : Int) := by rw [Bits.bitOr_pp (Int.natCast_nonneg a) (Int.natCast_nonneg b)]; rfl
theorem vn_and (ha : Val ta σ H (.int (a : Int))) (hb : Val tb σ H (.int (b : Int))) : Val (tOp (rI0 fun i j => .int (Builtin.bitAnd i j)) ta tb) σ H (.int ((a &&& b : Nat) : Int)) := vi_of (vi0 ha hb) (bitAnd_N a b)
theorem vn_or (ha : Val ta σ H (.int (a : Int))) (hb : Val tb σ H (.int (b : Int))) : Val (tOp (rI0 fun i j => .int (Builtin.bitOr i j)) ta tb) σ H (.int ((a ||| b : Nat) : Int)) := vi_of (vi0 ha hb) (bitOr_N a b)
theorem vn_xor (ha : Val ta σ H (.int (a : Int))) (hb : Val tb σ H (.int (b : Int))) : Val (tOp (rI0 fun i j => .int (Builtin.bitXor i j)) ta tb) σ H (.int ((a ^^^ b : Nat) : Int)) := vi_of (vi0 ha hb) (bitXor_N a b)
/-- i & 1 -/
theorem vm_odd (ha : Val ta σ H (.int i)) (hb : Val tb σ H (.int 1)) : Val (tOp (rI0 fun i j => .int (Builtin.bitAnd i j)) ta tb) σ H (.int ((modN i 2 : Nat) : Int)) := vi_of (vi0 ha hb) (by rw [PyProof.Rows.bitAnd_m1, modN_cast (by decide)]; rfl)
def NShl (a k : Nat) : Prop := a.log2 + k < 100000000
theorem NShl.ok {a k : Nat} (h : NShl a k) : CShl (a : Int) (k : Int) := by
  have e : (2 : Int) ^ 27 = 134217728 := by decide
  refine ⟨Int.natCast_nonneg _, ?_⟩
  rw [e]
  have b : Builtin.Int.intBits (a : Int) ≤ a.log2 + 1 := by
    unfold Builtin.Int.intBits
    split
    · omega
    · exact Nat.le_refl _
  unfold NShl at h
  omega
theorem vn_shl (ha : Val ta σ H (.int (a : Int))) (hb : Val tb σ H (.int (b : Int))) (h : NShl a b) : Val (tOp (rI CShl fun i j => .int (i * 2 ^ j.toNat)) ta tb) σ H (.int ((a <<< b : Nat) : Int)) := vi_of (viC ha hb h.ok) (by
  rw [Int.toNat_natCast, Nat.shiftLeft_eq, Int.natCast_mul, Int.natCast_pow]; rfl)
theorem vn_one (ha : Val ta σ H (.int 1)) (hb : Val tb σ H (.int (b : Int))) (h : b < 100000000) : Val (tOp (rI CShl fun i j => .int (i * 2 ^ j.toNat)) ta tb) σ H (.int ((2 ^ b : Nat) : Int)) := vi_of (vn_shl (a := 1) ha hb (by
  unfold NShl
  have : Nat.log2 1 = 0 := by decide
  omega)) (by rw [Nat.shiftLeft_eq, Nat.one_mul])
theorem vi_shl (ha : Val ta σ H (.int i)) (hb : Val tb σ H (.int (b : Int))) (h : CShl i (b : Int)) : Val (tOp (rI CShl fun i j => .int (i * 2 ^ j.toNat)) ta tb) σ H (.int (i * 2 ^ b)) := vi_of (viC ha hb h) (by rw [Int.toNat_natCast])
theorem vi_shr (ha : Val ta σ H (.int i)) (hb : Val tb σ H (.int (b : Int))) : Val (tOp (rI (fun _ j => 0 ≤ j) fun i j => .int (i / 2 ^ j.toNat)) ta tb) σ H (.int (i / 2 ^ b)) := vi_of (viC (C := fun _ j => 0 ≤ j) ha hb (Int.natCast_nonneg _)) (by rw [Int.toNat_natCast])
theorem vn_shr (ha : Val ta σ H (.int (a : Int))) (hb : Val tb σ H (.int (b : Int))) : Val (tOp (rI (fun _ j => 0 ≤ j) fun i j => .int (i / 2 ^ j.toNat)) ta tb) σ H (.int ((a >>> b : Nat) : Int)) := vi_of (vi_shr ha hb) (by
  rw [Nat.shiftRight_eq_div_pow, Int.natCast_ediv, Int.natCast_pow]; rfl)
theorem v_neg (ha : Val ta σ H (.int i)) : Val (tUn (rU fun i => .int (-i)) ta) σ H (.int (-i)) := v1 ha fun _ k => ⟨i, rfl, k⟩
theorem vn_pow {c : Nat} (ha : Val ta σ H (.int (a : Int))) (hb : Val tb σ H (.int (b : Int))) (h : b ≤ 1000000 ∧ a < 2 ^ 64) (e : a ^ b = c) : Val (tOp (rI CPow fun i j => .int (i ^ j.toNat)) ta tb) σ H (.int (c : Int)) := vi_of (viC ha hb ⟨Int.natCast_nonneg _, by omega, by omega⟩) (by
  rw [Int.toNat_natCast, ← e, Int.natCast_pow])
theorem vn_bits (ha : Val ta σ H (.int (a : Int))) : Val (tBits ta) σ H (.int ((Builtin.Int.intBits (a : Int) : Nat) : Int)) := fun _ k => ha _ ⟨_, rfl, k⟩
/-! comparisons, as truths -/
theorem c_lt (ha : Val ta σ H (.int i)) (hb : Val tb σ H (.int j)) : Val (tOp (rI0 fun i j => .bl (decide (i < j))) ta tb) σ H (.bl (decide (i < j))) := vi0 ha hb
theorem c_le (ha : Val ta σ H (.int i)) (hb : Val tb σ H (.int j)) : Val (tOp (rI0 fun i j => .bl (decide (i ≤ j))) ta tb) σ H (.bl (decide (i ≤ j))) := vi0 ha hb
theorem c_gt (ha : Val ta σ H (.int i)) (hb : Val tb σ H (.int j)) : Val (tOp (rI0 fun i j => .bl (decide (j < i))) ta tb) σ H (.bl (decide (j < i))) := vi0 ha hb
theorem c_ge (ha : Val ta σ H (.int i)) (hb : Val tb σ H (.int j)) : Val (tOp (rI0 fun i j => .bl (decide (j ≤ i))) ta tb) σ H (.bl (decide (j ≤ i))) := vi0 ha hb
theorem dec_iff {p q : Prop} [Decidable p] [Decidable q] (h : p ↔ q) : decide p = decide q := by
  by_cases k : p
  · rw [decide_eq_true k, decide_eq_true (h.mp k)]
  · rw [decide_eq_false k, decide_eq_false (fun z => k (h.mpr z))]
theorem vb_dec [Decidable p] [Decidable q] (h : Val te σ H (.bl (decide p))) (e : p ↔ q) : Val te σ H (.bl (decide q)) := vb_of h (dec_iff e)
theorem c_eqI (ha : Val ta σ H (.int i)) (hb : Val tb σ H (.int j)) : Val (tOp rEq ta tb) σ H (.bl (decide (i = j))) := v2 ha hb fun Q k => ⟨rfl, by
  rw [dec_iff (show V.int i = V.int j ↔ i = j from ⟨fun h => V.int.inj h, fun h => by rw [h]⟩)]; exact k⟩
theorem c_neI (ha : Val ta σ H (.int i)) (hb : Val tb σ H (.int j)) : Val (tOp rNe ta tb) σ H (.bl (decide (i ≠ j))) := v2 ha hb fun Q k => ⟨rfl, by
  rw [← decide_not, dec_iff (show ¬ V.int i = V.int j ↔ i ≠ j from ⟨fun h e => h (by rw [e]), fun h e => h (V.int.inj e)⟩)]; exact k⟩
theorem c_eqS {s r : Str} (ha : Val ta σ H (.str s)) (hb : Val tb σ H (.str r)) : Val (tOp rEq ta tb) σ H (.bl (decide (s = r))) := v2 ha hb fun Q k => ⟨rfl, by
  rw [dec_iff (show V.str s = V.str r ↔ s = r from ⟨fun h => V.str.inj h, fun h => by rw [h]⟩)]; exact k⟩
theorem c_neS {s r : Str} (ha : Val ta σ H (.str s)) (hb : Val tb σ H (.str r)) : Val (tOp rNe ta tb) σ H (.bl (decide (s ≠ r))) := v2 ha hb fun Q k => ⟨rfl, by
  rw [← decide_not, dec_iff (show ¬ V.str s = V.str r ↔ s ≠ r from ⟨fun h e => h (by rw [e]), fun h e => h (V.str.inj e)⟩)]; exact k⟩
theorem c_eqB {s r : Bool} (ha : Val ta σ H (.bl s)) (hb : Val tb σ H (.bl r)) : Val (tOp rEq ta tb) σ H (.bl (decide (s = r))) := v2 ha hb fun Q k => ⟨rfl, by
  rw [dec_iff (show V.bl s = V.bl r ↔ s = r from ⟨fun h => V.bl.inj h, fun h => by rw [h]⟩)]; exact k⟩
theorem c_neB {s r : Bool} (ha : Val ta σ H (.bl s)) (hb : Val tb σ H (.bl r)) : Val (tOp rNe ta tb) σ H (.bl (decide (s ≠ r))) := v2 ha hb fun Q k => ⟨rfl, by
  rw [← decide_not, dec_iff (show ¬ V.bl s = V.bl r ↔ s ≠ r from ⟨fun h e => h (by rw [e]), fun h e => h (V.bl.inj e)⟩)]; exact k⟩
/-- numbers from 0 on: the comparison without casts -/
theorem n_lt : ((a : Int) < (b : Int)) ↔ a < b := by omega
theorem n_le : ((a : Int) ≤ (b : Int)) ↔ a ≤ b := by omega
theorem n_eq : ((a : Int) = (b : Int)) ↔ a = b := by omega
theorem n_ne : ((a : Int) ≠ (b : Int)) ↔ a ≠ b := by omega
/-- a < b < c -/
theorem v_chain {r r' : R2} {b1 b2 : Bool} (ha : Val ta σ H x) (hb : Val tb σ H y) (hc : Val tc σ H z) (h1 : ∀ Q : VK, Q (.bl b1) H → r x y H Q) (h2 : ∀ Q : VK, Q (.bl b2) H → r' y z H Q) : Val (tChain r r' ta tb tc) σ H (.bl (b1 && b2)) := fun Q k => ha _ (hb _ (h1 _ ⟨b1, rfl, by
  cases b1 with
  | true => rw [if_pos rfl]; exact hc _ (h2 _ (by simpa using k))
  | false => rw [if_neg (by simp)]; simpa using k⟩))
/-! truths as tests -/
theorem t_of (h : Val te σ H (.bl b')) : Ans (tTest te) σ H b' := fun _ k => h _ ⟨_, rfl, k⟩
theorem t_ofB (h : Val te σ H (.bl b')) : Ans (tB te) σ H b' := fun _ k => h _ ⟨_, rfl, k⟩
theorem t_dec {b c : Bool} (h : Ans tt σ H b) (e : b = c) : Ans tt σ H c := e ▸ h
theorem t_iff [Decidable p] [Decidable q] (h : Ans tt σ H (decide p)) (e : p ↔ q) : Ans tt σ H (decide q) := t_dec h (dec_iff e)
theorem t_not [Decidable p] (h : Ans tt σ H (decide p)) : Ans (tNot tt) σ H (decide (¬ p)) := fun Q k => h _ (by rw [← decide_not]; exact k)
theorem t_and [Decidable p] [Decidable q] (h : Ans tt σ H (decide p)) (h2 : p → Ans tu σ H (decide q)) : Ans (tAnd tt tu) σ H (decide (p ∧ q)) := fun Q k => h _ (by
  by_cases hp : p
  · rw [decide_eq_true hp, if_pos rfl]
    exact h2 hp Q (by rw [dec_iff (show q ↔ p ∧ q from ⟨fun z => ⟨hp, z⟩, fun z => z.2⟩)]; exact k)
  · rw [decide_eq_false hp, if_neg (by simp)]
    rw [decide_eq_false (fun z => hp z.1)] at k
    exact k)
theorem t_or [Decidable p] [Decidable q] (h : Ans tt σ H (decide p)) (h2 : ¬ p → Ans tu σ H (decide q)) : Ans (tOr tt tu) σ H (decide (p ∨ q)) := fun Q k => h _ (by
  by_cases hp : p
  · rw [decide_eq_true hp, if_pos rfl]
    rw [decide_eq_true (Or.inl hp)] at k
    exact k
  · rw [decide_eq_false hp, if_neg (by simp)]
    exact h2 hp Q (by rw [dec_iff (show q ↔ p ∨ q from ⟨fun z => .inr z, fun z => z.resolve_left hp⟩)]; exact k))
/-! the same as values -/
theorem vt_not [Decidable p] (h : Val te σ H (.bl (decide p))) : Val (tNotV te) σ H (.bl (decide (¬ p))) := fun Q k => h _ ⟨_, rfl, by rw [← decide_not]; exact k⟩
theorem vt_and [Decidable p] [Decidable q] (h : Val ta σ H (.bl (decide p))) (h2 : p → Val tb σ H (.bl (decide q))) : Val (tAndV ta tb) σ H (.bl (decide (p ∧ q))) := fun Q k => h _ ⟨_, rfl, by
  by_cases hp : p
  · rw [decide_eq_true hp, if_pos rfl]
    exact h2 hp Q (by rw [dec_iff (show q ↔ p ∧ q from ⟨fun z => ⟨hp, z⟩, fun z => z.2⟩)]; exact k)
  · rw [decide_eq_false hp, if_neg (by simp)]
    rw [decide_eq_false (fun z => hp z.1)] at k
    exact k⟩
theorem vt_or [Decidable p] [Decidable q] (h : Val ta σ H (.bl (decide p))) (h2 : ¬ p → Val tb σ H (.bl (decide q))) : Val (tOrV ta tb) σ H (.bl (decide (p ∨ q))) := fun Q k => h _ ⟨_, rfl, by
  by_cases hp : p
  · rw [decide_eq_true hp, if_pos rfl]
    rw [decide_eq_true (Or.inl hp)] at k
    exact k
  · rw [decide_eq_false hp, if_neg (by simp)]
    exact h2 hp Q (by rw [dec_iff (show q ↔ p ∨ q from ⟨fun z => .inr z, fun z => z.resolve_left hp⟩)]; exact k)⟩
theorem v_if [Decidable p] (h : Ans tt σ H (decide p)) (h1 : p → Val ta σ H x) (h2 : ¬ p → Val tb σ H x) : Val (tIf tt ta tb) σ H x := fun Q k => h _ (by
  by_cases hp : p
  · rw [decide_eq_true hp, if_pos rfl]; exact h1 hp Q k
  · rw [decide_eq_false hp, if_neg (by simp)]; exact h2 hp Q k)
/-! calls -/
theorem e_call {sp : Sp} {E : XK} (h : tA σ H fun vs H1 => sp vs H1 Q E) : tCall sp [] E tA σ H Q := by
  show tA σ H fun vs H1 => sp (vs ++ []) H1 Q E
  simpa only [List.append_nil] using h
theorem a_nil {R : List V → Hp → Prop} (h : R [] H) : tNil σ H R := h
theorem a_cons {R : List V → Hp → Prop} (h : te σ H fun x H1 => tR σ H1 fun xs H2 => R (x :: xs) H2) : tCons te tR σ H R := h
theorem a_val {R : List V → Hp → Prop} (h : Val te σ H v) (k : tR σ H fun xs H2 => R (v :: xs) H2) : tCons te tR σ H R := h _ k
theorem v_cb1 {r : List V → Hp → VK → Prop} (ha : Val ta σ H x) (hr : ∀ Q : VK, Q z H → r [x] H Q) : Val (tCB r (tCons ta tNil)) σ H z := fun Q k => ha _ (hr Q k)
theorem v_cb2 {r : List V → Hp → VK → Prop} (ha : Val ta σ H x) (hb : Val tb σ H y) (hr : ∀ Q : VK, Q z H → r [x, y] H Q) : Val (tCB r (tCons ta (tCons tb tNil))) σ H z := fun Q k => ha _ (hb _ (hr Q k))
/-! statements -/
theorem q_seq (h : t { D with nx := u D } σ H) : tSeq t u D σ H := h
theorem q_sq (h : ∀ N : L2.St → Hp → Prop, (∀ σ' H', u D σ' H' → N σ' H') → t { D with nx := N } σ H) : tSeq t u D σ H := h _ fun _ _ z => z
theorem a_asg {i : Nat} (h : Val te σ H v) (q : D.nx (σ.set i (some v)) H) : tAsg te (gName i) D σ H := h _ q
theorem a_asgE {i : Nat} (h : te σ H fun v H1 => D.nx (σ.set i (some v)) H1) : tAsg te (gName i) D σ H := h
theorem a_ret (h : Val te σ H v) (q : D.rt v H) : tRet te D σ H := h _ q
theorem a_retE (h : te σ H D.rt) : tRet te D σ H := h
theorem a_dropE (h : te σ H fun _ H1 => D.nx σ H1) : tDrop te D σ H := h
theorem a_aug {i : Nat} {ti : TIp} (hx : σ[i]? = some (some x)) (h : Val te σ H y) (hr : ∀ Q : VK, Q z H → ti x y H Q) (q : D.nx (σ.set i (some z)) H) : tAug i te ti D σ H := ⟨x, hx, h _ (hr _ q)⟩
theorem a_if [Decidable p] (h : Ans tt σ H (decide p)) (h1 : p → t D σ H) (h2 : ¬ p → u D σ H) : tIfS tt t u D σ H := h _ (by
  by_cases hp : p
  · rw [decide_eq_true hp, if_pos rfl]; exact h1 hp
  · rw [decide_eq_false hp, if_neg (by simp)]; exact h2 hp)
theorem a_ifE (h : tt σ H fun b H1 => if b = true then t D σ H1 else u D σ H1) : tIfS tt t u D σ H := h
theorem ifP [Decidable p] {A B : Prop} (h : if p then A else B) (hp : p) : A := by rw [if_pos hp] at h; exact h
theorem ifN [Decidable p] {A B : Prop} (h : if p then A else B) (hp : ¬ p) : B := by rw [if_neg hp] at h; exact h
end
end Wk

namespace Wk
open PySem L2
/-! ### data that is compared -/
class Dat {α : Type} (e : Rep α) (lv : outParam Nat) where
  d : α → PyData
  dp : ∀ {K : PySem.W.Frag} {F : Hp} {v : V} {x : α}, e.r F v x → Dp K F v (d x)
  lay : ∀ x, (d x).canLay0 = true
  dep : ∀ x, (d x).depth ≤ lv
  inj : ∀ x y, PyData.eqv (d x) (d y) = true ↔ x = y
instance : Dat pI 0 := ⟨.int, fun h => by cases (show _ = V.int _ from h); exact .int _, fun _ => rfl, fun _ => Nat.le_refl _, fun x y => by
  show ((x == y) = true) ↔ _
  exact beq_iff_eq⟩
instance : Dat pN 0 := ⟨fun n => .int (n : Int), fun h => by cases (show _ = V.int _ from h); exact .int _, fun _ => rfl, fun _ => Nat.le_refl _, fun x y => by
  show (((x : Int) == (y : Int)) = true) ↔ _
  rw [beq_iff_eq]; omega⟩
instance : Dat pB 0 := ⟨.bool, fun h => by cases (show _ = V.bl _ from h); exact .bl _, fun _ => rfl, fun _ => Nat.le_refl _, fun x y => by
  show ((x == y) = true) ↔ _
  exact beq_iff_eq⟩
theorem lay_all {α : Type} {d : α → PyData} (h : ∀ x, (d x).canLay0 = true) : ∀ xs : List α, PyData.canLayAll0 (xs.map d) = true
  | [] => rfl
  | x :: xs => by show (PyData.canLay0 (d x) && PyData.canLayAll0 (xs.map d)) = true; rw [h x, lay_all h xs]; rfl
theorem dep_all {α : Type} {d : α → PyData} {n : Nat} (h : ∀ x, (d x).depth ≤ n) : ∀ xs : List α, PyData.depthAll (xs.map d) ≤ n
  | [] => Nat.zero_le _
  | x :: xs => by
    show PyData.depthAll (d x :: xs.map d) ≤ n
    have a := h x
    have b := dep_all h xs
    simp only [PyData.depthAll]
    omega
theorem eqv_all {α : Type} {d : α → PyData} (h : ∀ x y, PyData.eqv (d x) (d y) = true ↔ x = y) : ∀ xs ys : List α, PyData.eqvAll (xs.map d) (ys.map d) = true ↔ xs = ys
  | [], [] => ⟨fun _ => rfl, fun _ => rfl⟩
  | x :: xs, [] => ⟨fun q => (by cases q), fun q => (by cases q)⟩
  | [], y :: ys => ⟨fun q => (by cases q), fun q => (by cases q)⟩
  | x :: xs, y :: ys => by
    show (PyData.eqv (d x) (d y) && PyData.eqvAll (xs.map d) (ys.map d)) = true ↔ _
    rw [Bool.and_eq_true, h x y, eqv_all h xs ys, List.cons.injEq]
theorem dp_all {α : Type} {e : Rep α} {lv : Nat} [Dat e lv] {K : PySem.W.Frag} {F : Hp} : ∀ {vs : List V} {xs : List α}, All e F vs xs → DpAll K F vs (xs.map (Dat.d e))
  | [], [], _ => .nil
  | _ :: _, _ :: _, ⟨a, b⟩ => .cons (Dat.dp a) (dp_all b)
  | [], _ :: _, q => q.elim
  | _ :: _, [], q => q.elim
instance {α : Type} {e : Rep α} {n : Nat} [Dat e n] : Dat (pL e) (n + 1) := ⟨fun xs => .list (xs.map (Dat.d e)), fun {K F v xs} h => by
    obtain ⟨p, vs, rfl, hp, a⟩ := h
    exact .lst (SqL.of hp) (dp_all a), fun xs => lay_all (Dat.lay (e := e)) xs, fun xs => by
    have := dep_all (Dat.dep (e := e)) xs
    simp only [PyData.depth]
    omega, fun xs ys => by
    show PyData.eqvAll (xs.map (Dat.d e)) (ys.map (Dat.d e)) = true ↔ _
    exact eqv_all (Dat.inj (e := e)) xs ys⟩
instance {α : Type} {e : Rep α} {n : Nat} [Dat e n] : Dat (pTL e) (n + 1) := ⟨fun xs => .tuple (xs.map (Dat.d e)), fun {K F v xs} h => by
    obtain ⟨p, vs, rfl, hp, a⟩ := h
    exact .tup (SqT.of hp) (dp_all a), fun xs => lay_all (Dat.lay (e := e)) xs, fun xs => by
    have := dep_all (Dat.dep (e := e)) xs
    simp only [PyData.depth]
    omega, fun xs ys => by
    show PyData.eqvAll (xs.map (Dat.d e)) (ys.map (Dat.d e)) = true ↔ _
    exact eqv_all (Dat.inj (e := e)) xs ys⟩
instance {α β : Type} {e : Rep α} {f : Rep β} {n m : Nat} [Dat e n] [Dat f m] : Dat (pT2 e f) (max n m + 1) := ⟨fun x => .tuple [Dat.d e x.1, Dat.d f x.2], fun {K F v x} h => by
    obtain ⟨p, u, w, rfl, hp, a, b⟩ := h
    exact .tup (SqT.of hp) (.cons (Dat.dp a) (.cons (Dat.dp b) .nil)), fun x => by
    show (PyData.canLay0 (Dat.d e x.1) && (PyData.canLay0 (Dat.d f x.2) && PyData.canLayAll0 [])) = true
    rw [Dat.lay, Dat.lay]; rfl, fun x => by
    have a := Dat.dep (e := e) x.1
    have b := Dat.dep (e := f) x.2
    simp only [PyData.depth, PyData.depthAll]
    omega, fun x y => by
    show (PyData.eqv (Dat.d e x.1) (Dat.d e y.1) && (PyData.eqv (Dat.d f x.2) (Dat.d f y.2) && PyData.eqvAll [] [])) = true ↔ _
    have z : PyData.eqvAll [] [] = true := rfl
    rw [z, Bool.and_true, Bool.and_eq_true, Dat.inj, Dat.inj, Prod.ext_iff]⟩
theorem Dat.shp {α : Type} {e : Rep α} {n : Nat} [Dat e n] (h : n ≤ 64) (x : α) : SeqAt.shaped (Dat.d e x) = true := by
  unfold SeqAt.shaped
  rw [Dat.lay, decide_eq_true (Nat.le_trans (Dat.dep x) h)]; rfl
section
variable {α β : Type} {e : Rep α} {f : Rep β} {K : PySem.W.Frag} {σ : L2.St} {F0 H0 F F' H H' : Hp} {te tl ta tb : TE} {tt : TT} {tA : TA} {Q : VK} {v w u : V} {xs ys : List α} {x y : α} {D : Ends} {tu : TS} {p q : Addr} {n : Nat} {i : Int}
theorem c_eqD [DecidableEq α] [Dat e n] (ha : Val ta σ H v) (hb : Val tb σ H w) (f : Ex F H) (r : e.r F v x) (g : Ex F' H) (s : e.r F' w y) (h : n ≤ 64 := by decide) : Val (tOp (rEqD K) ta tb) σ H (.bl (decide (x = y))) :=
  v2 ha hb fun Q k => ⟨_, _, Dat.dp (e.mono f r), Dat.dp (e.mono g s), Dat.shp h x, Dat.shp h y, by
    have z : PyData.eqv (Dat.d e x) (Dat.d e y) = decide (x = y) := Bool.eq_iff_iff.mpr (by rw [Dat.inj, decide_eq_true_iff])
    rw [z]; exact k⟩
theorem c_neD [DecidableEq α] [Dat e n] (ha : Val ta σ H v) (hb : Val tb σ H w) (f : Ex F H) (r : e.r F v x) (g : Ex F' H) (s : e.r F' w y) (h : n ≤ 64 := by decide) : Val (tOp (rNeD K) ta tb) σ H (.bl (decide (x ≠ y))) :=
  v2 ha hb fun Q k => ⟨_, _, Dat.dp (e.mono f r), Dat.dp (e.mono g s), Dat.shp h x, Dat.shp h y, by
    have z : PyData.eqv (Dat.d e x) (Dat.d e y) = decide (x = y) := Bool.eq_iff_iff.mpr (by rw [Dat.inj, decide_eq_true_iff])
    rw [z, ← decide_not]; exact k⟩
/-! ### lists that are read -/
theorem XL.rd (z : XL e H0 F H p xs) : ∃ vs, H p = some (.lst vs) ∧ All e F vs xs := let ⟨vs, a, b⟩ := z.x; ⟨vs, a.h, b⟩
theorem L_rd (r : (pL e).r F v xs) (f : Ex F H) : ∃ p vs, v = .ref p ∧ H p = some (.lst vs) ∧ All e F vs xs := let ⟨p, vs, a, b, c⟩ := r; ⟨p, vs, a, f _ _ b, c⟩
theorem TL_rd (r : (pTL e).r F v xs) (f : Ex F H) : ∃ p vs, v = .ref p ∧ H p = some (.tup vs) ∧ All e F vs xs := let ⟨p, vs, a, b, c⟩ := r; ⟨p, vs, a, f _ _ b, c⟩
theorem ix_L (r : (pL e).r F v xs) (f : Ex F H) {i : Nat} (hx : xs[i]? = some x) : ∃ w, e.r F w x ∧ ∀ ⦃σ ta tb⦄, Val ta σ H v → Val tb σ H (.int (i : Int)) → Val (tOp (rIxL K) ta tb) σ H w := by
  obtain ⟨p, vs, rfl, hp, a⟩ := L_rd r f
  obtain ⟨w, h1, h2⟩ := a.get hx
  exact ⟨w, h2, fun _ _ _ ha hb => v2 ha hb fun Q k => ⟨p, vs, _, w, rfl, rfl, SqL.of hp, atI_nat h1, k⟩⟩
theorem ix_X (r : XL e H0 F H p xs) {i : Nat} (hx : xs[i]? = some x) : ∃ w, e.r F w x ∧ ∀ ⦃σ ta tb⦄, Val ta σ H (.ref p) → Val tb σ H (.int (i : Int)) → Val (tOp (rIxL K) ta tb) σ H w := by
  obtain ⟨vs, hp, a⟩ := r.rd
  obtain ⟨w, h1, h2⟩ := a.get hx
  exact ⟨w, h2, fun _ _ _ ha hb => v2 ha hb fun Q k => ⟨p, vs, _, w, rfl, rfl, SqL.of hp, atI_nat h1, k⟩⟩
theorem ix_TL (r : (pTL e).r F v xs) (f : Ex F H) {i : Nat} (hx : xs[i]? = some x) : ∃ w, e.r F w x ∧ ∀ ⦃σ ta tb⦄, Val ta σ H v → Val tb σ H (.int (i : Int)) → Val (tOp (rIxT K) ta tb) σ H w := by
  obtain ⟨p, vs, rfl, hp, a⟩ := TL_rd r f
  obtain ⟨w, h1, h2⟩ := a.get hx
  exact ⟨w, h2, fun _ _ _ ha hb => v2 ha hb fun Q k => ⟨p, vs, _, w, rfl, rfl, SqT.of hp, atI_nat h1, k⟩⟩
theorem ix_S (f : Ex F H) {ys : List Int} {i : Nat} {x : Int} (r : (pScr K).r F v ys) (hx : ys[i]? = some x) : ∀ ⦃σ ta tb⦄, Val ta σ H v → Val tb σ H (.int (i : Int)) → Val (tOp (rIxL K) ta tb) σ H (.int x) := by
  obtain ⟨p, rfl, s⟩ := (pScr K).mono f r
  exact fun _ _ _ ha hb => v2 ha hb fun Q k => ⟨p, _, _, .int x, rfl, rfl, s, atI_nat (by rw [List.getElem?_map, hx]; rfl), k⟩
theorem ix_2a {e : Rep α} {f : Rep β} {x : α × β} (r : (pT2 e f).r F v x) (h : Ex F H) : ∃ w, e.r F w x.1 ∧ ∀ ⦃σ ta tb⦄, Val ta σ H v → Val tb σ H (.int 0) → Val (tOp (rIxT K) ta tb) σ H w := by
  obtain ⟨p, u, w, rfl, hp, a, b⟩ := r
  exact ⟨u, a, fun _ _ _ ha hb => v2 ha hb fun Q k => ⟨p, _, _, u, rfl, rfl, SqT.of (h _ _ hp), rfl, k⟩⟩
theorem ix_2b {e : Rep α} {f : Rep β} {x : α × β} (r : (pT2 e f).r F v x) (h : Ex F H) : ∃ w, f.r F w x.2 ∧ ∀ ⦃σ ta tb⦄, Val ta σ H v → Val tb σ H (.int 1) → Val (tOp (rIxT K) ta tb) σ H w := by
  obtain ⟨p, u, w, rfl, hp, a, b⟩ := r
  exact ⟨w, b, fun _ _ _ ha hb => v2 ha hb fun Q k => ⟨p, _, _, w, rfl, rfl, SqT.of (h _ _ hp), rfl, k⟩⟩
/-! len -/
def rLen (K : PySem.W.Frag) : List V → Hp → VK → Prop := fun xs H Q => ∃ p ys, xs = [.ref p] ∧ (SqL K H p ys ∨ SqT K H p ys) ∧ Q (.int ys.length) H
theorem len_L (r : (pL e).r F v xs) (f : Ex F H) (ha : Val ta σ H v) : Val (tCB (rLen K) (tCons ta tNil)) σ H (.int ((xs.length : Nat) : Int)) := by
  obtain ⟨p, vs, rfl, hp, a⟩ := L_rd r f
  exact v_cb1 ha fun Q k => ⟨p, vs, rfl, .inl (SqL.of hp), by rw [a.len]; exact k⟩
theorem len_TL (r : (pTL e).r F v xs) (f : Ex F H) (ha : Val ta σ H v) : Val (tCB (rLen K) (tCons ta tNil)) σ H (.int ((xs.length : Nat) : Int)) := by
  obtain ⟨p, vs, rfl, hp, a⟩ := TL_rd r f
  exact v_cb1 ha fun Q k => ⟨p, vs, rfl, .inr (SqT.of hp), by rw [a.len]; exact k⟩
theorem len_X (r : XL e H0 F H p xs) (ha : Val ta σ H (.ref p)) : Val (tCB (rLen K) (tCons ta tNil)) σ H (.int ((xs.length : Nat) : Int)) := by
  obtain ⟨vs, hp, a⟩ := r.rd
  exact v_cb1 ha fun Q k => ⟨p, vs, rfl, .inl (SqL.of hp), by rw [a.len]; exact k⟩
theorem len_S {ys : List Int} (r : (pScr K).r F v ys) (f : Ex F H) (ha : Val ta σ H v) : Val (tCB (rLen K) (tCons ta tNil)) σ H (.int ((ys.length : Nat) : Int)) := by
  obtain ⟨p, rfl, s⟩ := (pScr K).mono f r
  exact v_cb1 ha fun Q k => ⟨p, _, rfl, .inl s, by rw [List.length_map]; exact k⟩
theorem len_T2 {e : Rep α} {f : Rep β} {x : α × β} (r : (pT2 e f).r F v x) (h : Ex F H) (ha : Val ta σ H v) : Val (tCB (rLen K) (tCons ta tNil)) σ H (.int ((2 : Nat) : Int)) := by
  obtain ⟨p, u, w, rfl, hp, a, b⟩ := r
  exact v_cb1 ha fun Q k => ⟨p, _, rfl, .inr (SqT.of (h _ _ hp)), k⟩
/-! ### new things -/
def kLst (Q : VK) (xs : List V) (H : Hp) : Prop := xs.length ≤ sizeLine ∧ ∀ p, H p = none → Q (.ref p) (upd H p (.lst xs))
def kTup (Q : VK) (xs : List V) (H : Hp) : Prop := xs.length ≤ sizeLine ∧ ∀ p, H p = none → Q (.ref p) (upd H p (.tup xs))
theorem small_len {n : Nat} (h : n < 1000000) : n < sizeLine := by rw [sizeLine_eq]; omega
theorem n_lstX {vs : List V} (a : All e F vs xs) (hl : xs.length < 1000000) (w : Wf F0 H0 F H) (k : ∀ p H', H p = none → Wf F H F H' → XL e H0 F H' p xs → Q (.ref p) H') :
    kLst Q vs H := ⟨by rw [a.len]; exact Nat.le_of_lt (small_len hl), fun p hp => k p _ hp (Wf.newX w.f hp) ⟨vs, Xc.mk' w hp, a⟩⟩
theorem n_lst {vs : List V} (a : All e F vs xs) (hl : xs.length < 1000000) (w : Wf F0 H0 F H) (k : ∀ p F' H', Wf F H F' H' → (pL e).r F' (.ref p) xs → Q (.ref p) H') :
    kLst Q vs H := ⟨by rw [a.len]; exact Nat.le_of_lt (small_len hl), fun p hp => k p _ _ (Wf.new w.f hp) ⟨p, vs, rfl, upd_same, a.mono (Ex.new (w.f.non hp))⟩⟩
theorem n_tup2 {e : Rep α} {f : Rep β} {x : α} {y : β} (a : e.r F v x) (b : f.r F w y) (h : Wf F0 H0 F H) (k : ∀ p F' H', Wf F H F' H' → (pT2 e f).r F' (.ref p) (x, y) → Q (.ref p) H') :
    kTup Q [v, w] H := ⟨Nat.le_of_lt (small_len (n := 2) (by decide)), fun p hp => k p _ _ (Wf.new h.f hp) ⟨p, v, w, rfl, upd_same, e.mono (Ex.new (h.f.non hp)) a, f.mono (Ex.new (h.f.non hp)) b⟩⟩
/-- one's own list is changed no more -/
theorem XL.frzE (x : XL e H0 F H p xs) (w : Wf F0 H0 F H) : ∃ F', Wf F0 H0 F' H ∧ Ex F F' ∧ (pL e).r F' (.ref p) xs ∧ Fz F F' p := by
  obtain ⟨vs, a, b⟩ := x.x
  exact ⟨_, w.freeze a, Ex.new a.n, ⟨p, vs, rfl, upd_same, b.mono (Ex.new a.n)⟩, fun q h z => by rw [upd_ne h]; exact z⟩
/-- for a while one's own list is read by others -/
theorem XL.lend (x : XL e H0 F H p xs) (w : Wf F0 H0 F H) : ∃ F', Ex F' H ∧ Ex F F' ∧ (pL e).r F' (.ref p) xs := let ⟨F', a, b, c, _⟩ := x.frzE w; ⟨F', a.f, b, c⟩
/-! append, and the like -/
theorem a_app (x : XL e H0 F H p xs) (w : Wf F0 H0 F H) (hl : xs.length < 1000000) (r : e.r F v y) (k : ∀ H', Wf F0 H0 F H' → XL e H0 F H' p (xs ++ [y]) → (∀ q o, H q = some o → q ≠ p → H' q = some o) → Q .non H') : rAppend (.ref p) [v] H Q := by
  obtain ⟨vs, a, b⟩ := x.x
  exact ⟨p, vs, v, rfl, rfl, a.h, by rw [b.len]; exact small_len hl, k _ (w.set a) ⟨_, a.set, b.snoc r⟩ fun q o h hq => by rw [upd_ne hq]; exact h⟩
/-- another's place is as it was -/
theorem Xc.kept {o : HO} (x : Xc H0 F H q o) (h : ∀ q o, H q = some o → q ≠ p → H' q = some o) (hq : q ≠ p) : Xc H0 F H' q o := ⟨x.z, x.n, h _ _ x.h hq⟩
theorem XL.kept (x : XL e H0 F H q xs) (h : ∀ q o, H q = some o → q ≠ p → H' q = some o) (hq : q ≠ p) : XL e H0 F H' q xs := let ⟨vs, a, b⟩ := x.x; ⟨vs, a.kept h hq, b⟩
/-! ### loops -/
variable {S : Type} {R : Type} {g : TG} {tb : TS} {body : β → S → (S → Prop) → (S → Prop) → Prop} {s0 : S} {k : S → Prop} {vs : List V} {zs : List β} {b : Rep β}
/-- over a list that stays -/
theorem w_forL (Inv : S → L2.St → Hp → Hp → Prop) (r : (pL b).r F v zs) (hW : forW zs s0 body k) (h0 : Inv s0 σ F H)
    (ex : ∀ s σ' F' H', Inv s σ' F' H' → Ex F F' ∧ Ex F' H') (f : Ex F H)
    (turn : ∀ (N Bk : L2.St → Hp → Prop) x u s σ' F' H' (nx bk : S → Prop), Inv s σ' F' H' → x ∈ zs → b.r F' u x → body x s nx bk → (∀ s' σ2 F2 H2, Inv s' σ2 F2 H2 → nx s' → N σ2 H2) → (∀ s' σ2 F2 H2, Inv s' σ2 F2 H2 → bk s' → Bk σ2 H2) →
      g u σ' H' fun σ2 H2 => tb { D with nx := N, ct := N, bk := Bk } σ2 H2)
    (done : ∀ s σ' F' H', Inv s σ' F' H' → k s → D.nx σ' H') :
    ∃ a, v = .ref a ∧ (∃ xs, SqL K H a xs) ∧ (fun J H1 => ∃ W : Nat → Nat → L2.St → Hp → Prop, (∃ m, W 0 m σ H1) ∧ ∀ i m σ H, W i m σ H →
      (J.stop i H ∧ D.nx σ H) ∨ (J.go i H ∧ ∃ N : L2.St → Hp → Prop, (∀ σ' H', N σ' H' → ∃ m', m' < m ∧ W (i + 1) m' σ' H') ∧ ∀ x H', J.yld i H x H' → g x σ H' fun σ2 H2 => tb { D with nx := N, ct := N, bk := D.nx } σ2 H2)) (Itl K a) H := by
  obtain ⟨p, vs, rfl, hp, a⟩ := r
  refine ⟨p, rfl, ⟨_, SqL.of (f _ _ hp)⟩, for_list (xs := vs) (fun i σ' H' => ∃ s F', Inv s σ' F' H' ∧ forW (zs.drop i) s body k) ⟨s0, F, h0, hW⟩ (fun i σ' H' _ ⟨s, F', hI, _⟩ => SqL.of ((ex _ _ _ _ hI).2 _ _ ((ex _ _ _ _ hI).1 _ _ hp))) ?_ ?_⟩
  · rintro i u σ' H' hu ⟨s, F', hI, hw⟩
    obtain ⟨x, hx, rx⟩ := a.got hu
    have e : zs.drop i = x :: zs.drop (i + 1) := by
      obtain ⟨h1, h2⟩ := List.getElem?_eq_some_iff.mp hx
      rw [← h2]; exact List.drop_eq_getElem_cons h1
    rw [e] at hw
    exact turn _ _ x u s σ' F' H' _ _ hI (List.mem_of_getElem? hx) (b.mono (ex _ _ _ _ hI).1 rx) hw (fun s' σ2 F2 H2 q n => ⟨s', F2, q, n⟩) (fun s' σ2 F2 H2 q n => done s' σ2 F2 H2 q n)
  · rintro σ' H' ⟨s, F', hI, hw⟩
    rw [List.drop_of_length_le (by rw [a.len]; exact Nat.le_refl _)] at hw
    exact done _ _ _ _ hI hw
/-- over range(n) -/
theorem w_forR {n : Nat} {body : Nat → S → (S → Prop) → (S → Prop) → Prop} (Inv : S → L2.St → Hp → Hp → Prop) (hn : n < 1000000) (hW : forW (List.range n) s0 body k) (h0 : Inv s0 σ F H)
    (turn : ∀ (N Bk : L2.St → Hp → Prop) (x : Nat) s σ' F' H' (nx bk : S → Prop), Inv s σ' F' H' → x < n → body x s nx bk → (∀ s' σ2 F2 H2, Inv s' σ2 F2 H2 → nx s' → N σ2 H2) → (∀ s' σ2 F2 H2, Inv s' σ2 F2 H2 → bk s' → Bk σ2 H2) →
      g (.int (x : Int)) σ' H' fun σ2 H2 => tb { D with nx := N, ct := N, bk := Bk } σ2 H2)
    (done : ∀ s σ' F' H', Inv s σ' F' H' → k s → D.nx σ' H') :
    ∃ j : Int, [V.int (n : Int)] = [.int j] ∧ -(2 ^ 62) ≤ j ∧ j < 2 ^ 62 ∧ (fun J H1 => ∃ W : Nat → Nat → L2.St → Hp → Prop, (∃ m, W 0 m σ H1) ∧ ∀ i m σ H, W i m σ H →
      (J.stop i H ∧ D.nx σ H) ∨ (J.go i H ∧ ∃ N : L2.St → Hp → Prop, (∀ σ' H', N σ' H' → ∃ m', m' < m ∧ W (i + 1) m' σ' H') ∧ ∀ x H', J.yld i H x H' → g x σ H' fun σ2 H2 => tb { D with nx := N, ct := N, bk := D.nx } σ2 H2)) (Itr 0 j.toNat) H := by
  refine ⟨(n : Int), rfl, by omega, by omega, for_range (lo := 0) (n := n) (fun i σ' H' => ∃ s F', Inv s σ' F' H' ∧ forW ((List.range n).drop i) s body k) ⟨s0, F, h0, hW⟩ ?_ ?_⟩
  · rintro i σ' H' hi ⟨s, F', hI, hw⟩
    have e : (List.range n).drop i = i :: (List.range n).drop (i + 1) := by
      have h1 : i < (List.range n).length := by rw [List.length_range]; exact hi
      rw [List.drop_eq_getElem_cons h1, List.getElem_range]
    rw [e] at hw
    have z : (0 : Int) + (i : Int) = (i : Int) := Int.zero_add _
    rw [z]
    exact turn _ _ i s σ' F' H' _ _ hI hi hw (fun s' σ2 F2 H2 q n => ⟨s', F2, q, n⟩) (fun s' σ2 F2 H2 q n => done s' σ2 F2 H2 q n)
  · rintro σ' H' ⟨s, F', hI, hw⟩
    rw [List.drop_of_length_le (by rw [List.length_range]; exact Nat.le_refl _)] at hw
    exact done _ _ _ _ hI hw
/-- while -/
theorem w_while {test : S → (Bool → Prop) → Prop} {body : S → (S → Prop) → (S → Prop) → Prop} (Inv : S → L2.St → Hp → Hp → Prop) (hW : whileW test body s0 k) (h0 : Inv s0 σ F H)
    (cond : ∀ s σ' F' H' (T : Bool → Prop) (Qc : Bool → Hp → Prop), Inv s σ' F' H' → test s T → (∀ b F2 H2, Inv s σ' F2 H2 → T b → Qc b H2) → tt σ' H' Qc)
    (turn : ∀ (N Bk : L2.St → Hp → Prop) s σ' F' H' (nx bk : S → Prop), Inv s σ' F' H' → body s nx bk → (∀ s' σ2 F2 H2, Inv s' σ2 F2 H2 → nx s' → N σ2 H2) → (∀ s' σ2 F2 H2, Inv s' σ2 F2 H2 → bk s' → Bk σ2 H2) →
      tb { D with nx := N, ct := N, bk := Bk } σ' H')
    (done : ∀ s σ' F' H', Inv s σ' F' H' → k s → D.nx σ' H') : tWhile tt tb D σ H := by
  obtain ⟨I, ⟨m0, hm⟩, hs⟩ := hW
  refine ⟨fun m σ' H' => ∃ s F', Inv s σ' F' H' ∧ I m s, ⟨m0, s0, F, h0, hm⟩, ?_⟩
  rintro m σ' H' ⟨s, F', hI, im⟩
  refine cond s σ' F' H' _ _ hI (hs m s im) fun b F2 H2 hI2 hb => ?_
  cases b with
  | true =>
    rw [if_pos rfl] at hb ⊢
    exact ⟨_, fun _ _ q => q, turn (fun σ2 H2 => ∃ m', m' < m ∧ ∃ s' F', Inv s' σ2 F' H2 ∧ I m' s') _ s σ' F2 H2 _ _ hI2 hb (fun s' σ2 F3 H3 q ⟨m', l, i⟩ => ⟨m', l, s', F3, q, i⟩) (fun s' σ2 F3 H3 q n => done s' σ2 F3 H3 q n)⟩
  | false =>
    rw [if_neg (by simp)] at hb ⊢
    exact done s σ' F2 H2 hI2 hb
/-- ways that meet again -/
def jn {S : Type} (f : (S → Prop) → Prop) (k : S → Prop) : Prop := f k
theorem q_jn {f : (S → Prop) → Prop} {t u : TS} (hW : jn f k) (Inv : S → L2.St → Hp → Hp → Prop)
    (h1 : ∀ N : L2.St → Hp → Prop, (∀ s σ' F' H', Inv s σ' F' H' → k s → N σ' H') → f k → t { D with nx := N } σ H) (h2 : ∀ s σ' F' H', Inv s σ' F' H' → k s → u D σ' H') : tSeq t u D σ H :=
  h1 (u D) (fun s σ' F' H' q n => h2 s σ' F' H' q n) hW
theorem e_jn {f : (S → Prop) → Prop} {Qt : Bool → Hp → Prop} (hW : jn f k) (Inv : S → Bool → Hp → Hp → Prop)
    (h1 : ∀ N : Bool → Hp → Prop, (∀ s b F' H', Inv s b F' H' → k s → N b H') → f k → tt σ H N) (h2 : ∀ s b F' H', Inv s b F' H' → k s → Qt b H') : tt σ H Qt :=
  h1 Qt (fun s σ' F' H' q n => h2 s σ' F' H' q n) hW
/-! ### comprehensions -/
/-- what a comprehension asks of its source's value -/
def kCpL (K : PySem.W.Frag) (g : TG) (tc : TT) (te : TE) (vs : List Nat) (σ : L2.St) (Q : VK) (v : V) (H : Hp) : Prop := ∃ a, v = .ref a ∧ (∃ xs, SqL K H a xs) ∧ (fun J H1 => ∀ D, H1 D = none → ∃ W : Nat → Nat → Hp → Prop, (∃ m, W 0 m (upd H1 D (.lst []))) ∧ ∀ i m H, W i m H →
      (J.stop i H ∧ Q (.ref D) H) ∨ (J.go i H ∧ ∃ Nx : Hp → Prop, (∀ H', Nx H' → ∃ m', m' < m ∧ W (i + 1) m' H') ∧ ∀ x H', J.yld i H x H' → g x (wipe σ vs) H' fun σ2 H2 => wipe σ2 vs = wipe σ vs ∧ tc σ2 H2 fun b H3 =>
        if b = true then te σ2 H3 fun y H4 => ∃ acc, H4 D = some (.lst acc) ∧ acc.length < sizeLine ∧ Nx (upd H4 D (.lst (acc ++ [y]))) else Nx H3)) (Itl K a) H
def kCpR (g : TG) (tc : TT) (te : TE) (vs : List Nat) (σ : L2.St) (Q : VK) (v : V) (H : Hp) : Prop := ∃ j : Int, [v] = [.int j] ∧ -(2 ^ 62) ≤ j ∧ j < 2 ^ 62 ∧ (fun J H1 => ∀ D, H1 D = none → ∃ W : Nat → Nat → Hp → Prop, (∃ m, W 0 m (upd H1 D (.lst []))) ∧ ∀ i m H, W i m H →
      (J.stop i H ∧ Q (.ref D) H) ∨ (J.go i H ∧ ∃ Nx : Hp → Prop, (∀ H', Nx H' → ∃ m', m' < m ∧ W (i + 1) m' H') ∧ ∀ x H', J.yld i H x H' → g x (wipe σ vs) H' fun σ2 H2 => wipe σ2 vs = wipe σ vs ∧ tc σ2 H2 fun b H3 =>
        if b = true then te σ2 H3 fun y H4 => ∃ acc, H4 D = some (.lst acc) ∧ acc.length < sizeLine ∧ Nx (upd H4 D (.lst (acc ++ [y]))) else Nx H3)) (Itr 0 j.toNat) H
theorem w_compC {ws : List V} {tc : TT} {vs : List Nat} {bd : β → (Option α → Prop) → Prop} {kk : List α → Prop} (hp : H p = some (.lst ws)) (a : All b F ws zs) (w : Wf F0 H0 F H) (hn : zs.length < 1000000) (hW : compW zs bd kk)
    (turn : ∀ (Qy : V → Hp → Prop) (Qn : Hp → Prop) x u F1 H1 (R : Option α → Prop), Wf F H F1 H1 → x ∈ zs → b.r F1 u x → bd x R → (∀ y z F2 H2, Wf F1 H1 F2 H2 → e.r F2 y z → R (some z) → Qy y H2) → (∀ F2 H2, Wf F1 H1 F2 H2 → R none → Qn H2) →
      g u (wipe σ vs) H1 fun σ2 H2 => wipe σ2 vs = wipe σ vs ∧ tc σ2 H2 fun b H3 => if b = true then te σ2 H3 Qy else Qn H3)
    (done : ∀ p ys F' H', H p = none → Wf F H F' H' → XL e H0 F' H' p ys → kk ys → Q (.ref p) H') :
    kCpL K g tc te vs σ Q (V.ref p) H := by
  unfold kCpL
  refine ⟨p, rfl, ⟨_, SqL.of hp⟩, fun D hD => lc_list (xs := ws) (fun i H' => ∃ F' ac ys, Wf F H F' H' ∧ Xc H F' H' D (.lst ac) ∧ All e F' ac ys ∧ ys.length ≤ i ∧ compG (zs.drop i) ys bd kk)
    ⟨F, [], [], Wf.newX w.f hD, Xc.mk' (Wf.id w.f) hD, trivial, Nat.le_refl _, hW⟩ (fun i H' _ ⟨F', ac, ys, q, _⟩ => SqL.of (q.h _ _ hp)) ?_ ?_⟩
  · rintro i u H' hu ⟨F', ac, ys, q, xc, al, hl, hw⟩
    obtain ⟨x, hx, rx⟩ := a.got hu
    obtain ⟨h1, h2⟩ := List.getElem?_eq_some_iff.mp hx
    have e' : zs.drop i = x :: zs.drop (i + 1) := by rw [← h2]; exact List.drop_eq_getElem_cons h1
    rw [e'] at hw
    refine turn _ _ x u F' H' _ q (List.mem_of_getElem? hx) (b.mono q.g rx) hw (fun y z F2 H2 s ry hR => ?_) (fun F2 H2 s hR => ?_)
    · have xc2 := xc.step s
      exact ⟨ac, xc2.h, by rw [al.len]; exact small_len (by omega), F2, ac ++ [y], ys ++ [z], (q.tr s).set xc2, xc2.set, (al.mono s.g).snoc ry, by rw [List.length_append]; exact Nat.succ_le_succ hl, hR⟩
    · exact ⟨F2, ac, ys, q.tr s, xc.step s, al.mono s.g, Nat.le_succ_of_le hl, by simpa using hR⟩
  · rintro H' ⟨F', ac, ys, q, xc, al, hl, hw⟩
    rw [List.drop_of_length_le (by rw [a.len]; exact Nat.le_refl _)] at hw
    exact done D ys F' H' hD q ⟨ac, ⟨w.h.non hD, xc.n, xc.h⟩, al⟩ hw
theorem w_compL {tc : TT} {vs : List Nat} {bd : β → (Option α → Prop) → Prop} {kk : List α → Prop} (r : (pL b).r F v zs) (w : Wf F0 H0 F H) (hn : zs.length < 1000000) (hW : compW zs bd kk)
    (turn : ∀ (Qy : V → Hp → Prop) (Qn : Hp → Prop) x u F1 H1 (R : Option α → Prop), Wf F H F1 H1 → x ∈ zs → b.r F1 u x → bd x R → (∀ y z F2 H2, Wf F1 H1 F2 H2 → e.r F2 y z → R (some z) → Qy y H2) → (∀ F2 H2, Wf F1 H1 F2 H2 → R none → Qn H2) →
      g u (wipe σ vs) H1 fun σ2 H2 => wipe σ2 vs = wipe σ vs ∧ tc σ2 H2 fun b H3 => if b = true then te σ2 H3 Qy else Qn H3)
    (done : ∀ p ys F' H', H p = none → Wf F H F' H' → XL e H0 F' H' p ys → kk ys → Q (.ref p) H') :
    kCpL K g tc te vs σ Q v H := by
  obtain ⟨p, ws, rfl, hp, a⟩ := r
  exact w_compC (w.f _ _ hp) a w hn hW turn done
theorem w_compX {tc : TT} {vs : List Nat} {bd : β → (Option α → Prop) → Prop} {kk : List α → Prop} (r : XL b H0 F H p zs) (w : Wf F0 H0 F H) (hn : zs.length < 1000000) (hW : compW zs bd kk)
    (turn : ∀ (Qy : V → Hp → Prop) (Qn : Hp → Prop) x u F1 H1 (R : Option α → Prop), Wf F H F1 H1 → x ∈ zs → b.r F1 u x → bd x R → (∀ y z F2 H2, Wf F1 H1 F2 H2 → e.r F2 y z → R (some z) → Qy y H2) → (∀ F2 H2, Wf F1 H1 F2 H2 → R none → Qn H2) →
      g u (wipe σ vs) H1 fun σ2 H2 => wipe σ2 vs = wipe σ vs ∧ tc σ2 H2 fun b H3 => if b = true then te σ2 H3 Qy else Qn H3)
    (done : ∀ p ys F' H', H p = none → Wf F H F' H' → XL e H0 F' H' p ys → kk ys → Q (.ref p) H') :
    kCpL K g tc te vs σ Q (V.ref p) H := by
  obtain ⟨ws, hp, a⟩ := r.rd
  exact w_compC hp a w hn hW turn done
theorem w_compR {tc : TT} {vs : List Nat} {n : Nat} {bd : Nat → (Option α → Prop) → Prop} {kk : List α → Prop} (w : Wf F0 H0 F H) (hn : n < 1000000) (hW : compW (List.range n) bd kk)
    (turn : ∀ (Qy : V → Hp → Prop) (Qn : Hp → Prop) (x : Nat) F1 H1 (R : Option α → Prop), Wf F H F1 H1 → x < n → bd x R → (∀ y z F2 H2, Wf F1 H1 F2 H2 → e.r F2 y z → R (some z) → Qy y H2) → (∀ F2 H2, Wf F1 H1 F2 H2 → R none → Qn H2) →
      g (.int (x : Int)) (wipe σ vs) H1 fun σ2 H2 => wipe σ2 vs = wipe σ vs ∧ tc σ2 H2 fun b H3 => if b = true then te σ2 H3 Qy else Qn H3)
    (done : ∀ p ys F' H', H p = none → Wf F H F' H' → XL e H0 F' H' p ys → kk ys → Q (.ref p) H') :
    kCpR g tc te vs σ Q (.int (n : Int)) H := by
  unfold kCpR
  refine ⟨(n : Int), rfl, by omega, by omega, fun D hD => lc_range (lo := 0) (n := n) (fun i H' => ∃ F' ac ys, Wf F H F' H' ∧ Xc H F' H' D (.lst ac) ∧ All e F' ac ys ∧ ys.length ≤ i ∧ compG ((List.range n).drop i) ys bd kk)
    ⟨F, [], [], Wf.newX w.f hD, Xc.mk' (Wf.id w.f) hD, trivial, Nat.le_refl _, hW⟩ ?_ ?_⟩
  · rintro i H' hi ⟨F', ac, ys, q, xc, al, hl, hw⟩
    have e' : (List.range n).drop i = i :: (List.range n).drop (i + 1) := by
      have h1 : i < (List.range n).length := by rw [List.length_range]; exact hi
      rw [List.drop_eq_getElem_cons h1, List.getElem_range]
    rw [e'] at hw
    have z : (0 : Int) + (i : Int) = (i : Int) := Int.zero_add _
    rw [z]
    refine turn _ _ i F' H' _ q hi hw (fun y z F2 H2 s ry hR => ?_) (fun F2 H2 s hR => ?_)
    · have xc2 := xc.step s
      exact ⟨ac, xc2.h, by rw [al.len]; exact small_len (by omega), F2, ac ++ [y], ys ++ [z], (q.tr s).set xc2, xc2.set, (al.mono s.g).snoc ry, by rw [List.length_append]; exact Nat.succ_le_succ hl, hR⟩
    · exact ⟨F2, ac, ys, q.tr s, xc.step s, al.mono s.g, Nat.le_succ_of_le hl, by simpa using hR⟩
  · rintro H' ⟨F', ac, ys, q, xc, al, hl, hw⟩
    rw [List.drop_of_length_le (by rw [List.length_range]; exact Nat.le_refl _)] at hw
    exact done D ys F' H' hD q ⟨ac, ⟨w.h.non hD, xc.n, xc.h⟩, al⟩ hw
end
end Wk

namespace Wk
open PySem L2
section
variable {X : Cx} {σ : L2.St} {H : Hp} {te tl ta tb : TE} {tt tc : TT} {tA : TA} {Q : VK} {v w x y z : V} {D : Ends} {tu : TS} {g : TG} {K : PySem.W.Frag} {p q : Prop}
theorem f_L (h : Val tl σ H v) (k : ∃ a, v = .ref a ∧ (∃ xs, SqL K H a xs) ∧ (fun J H1 => ∃ W : Nat → Nat → L2.St → Hp → Prop, (∃ m, W 0 m σ H1) ∧ ∀ i m σ H, W i m σ H →
      (J.stop i H ∧ D.nx σ H) ∨ (J.go i H ∧ ∃ N : L2.St → Hp → Prop, (∀ σ' H', N σ' H' → ∃ m', m' < m ∧ W (i + 1) m' σ' H') ∧ ∀ x H', J.yld i H x H' → g x σ H' fun σ2 H2 => tu { D with nx := N, ct := N, bk := D.nx } σ2 H2)) (Itl K a) H) : tFor (iList K tl) g tu D σ H := h _ k
theorem f_LE (h : tl σ H fun v H => ∃ a, v = .ref a ∧ (∃ xs, SqL K H a xs) ∧ (fun J H1 => ∃ W : Nat → Nat → L2.St → Hp → Prop, (∃ m, W 0 m σ H1) ∧ ∀ i m σ H, W i m σ H →
      (J.stop i H ∧ D.nx σ H) ∨ (J.go i H ∧ ∃ N : L2.St → Hp → Prop, (∀ σ' H', N σ' H' → ∃ m', m' < m ∧ W (i + 1) m' σ' H') ∧ ∀ x H', J.yld i H x H' → g x σ H' fun σ2 H2 => tu { D with nx := N, ct := N, bk := D.nx } σ2 H2)) (Itl K a) H) : tFor (iList K tl) g tu D σ H := h
theorem f_R (h : Val te σ H v) (k : ∃ j : Int, [v] = [.int j] ∧ -(2 ^ 62) ≤ j ∧ j < 2 ^ 62 ∧ (fun J H1 => ∃ W : Nat → Nat → L2.St → Hp → Prop, (∃ m, W 0 m σ H1) ∧ ∀ i m σ H, W i m σ H →
      (J.stop i H ∧ D.nx σ H) ∨ (J.go i H ∧ ∃ N : L2.St → Hp → Prop, (∀ σ' H', N σ' H' → ∃ m', m' < m ∧ W (i + 1) m' σ' H') ∧ ∀ x H', J.yld i H x H' → g x σ H' fun σ2 H2 => tu { D with nx := N, ct := N, bk := D.nx } σ2 H2)) (Itr 0 j.toNat) H) : tFor (iRng1 (tCons te tNil)) g tu D σ H := h _ k
theorem f_RE (h : te σ H fun v H => ∃ j : Int, [v] = [.int j] ∧ -(2 ^ 62) ≤ j ∧ j < 2 ^ 62 ∧ (fun J H1 => ∃ W : Nat → Nat → L2.St → Hp → Prop, (∃ m, W 0 m σ H1) ∧ ∀ i m σ H, W i m σ H →
      (J.stop i H ∧ D.nx σ H) ∨ (J.go i H ∧ ∃ N : L2.St → Hp → Prop, (∀ σ' H', N σ' H' → ∃ m', m' < m ∧ W (i + 1) m' σ' H') ∧ ∀ x H', J.yld i H x H' → g x σ H' fun σ2 H2 => tu { D with nx := N, ct := N, bk := D.nx } σ2 H2)) (Itr 0 j.toNat) H) : tFor (iRng1 (tCons te tNil)) g tu D σ H := h
theorem c_LE {vs : List Nat} (h : tl σ H (kCpL K g tc te vs σ Q)) : tLc (iList K tl) g tc te vs σ H Q := h
theorem c_RE {vs : List Nat} (h : ta σ H (kCpR g tc te vs σ Q)) : tLc (iRng1 (tCons ta tNil)) g tc te vs σ H Q := h
theorem c_yes {A B : Hp → Prop} (h : A H) : tYes σ H fun b H3 => if b = true then A H3 else B H3 := by show if true = true then A H else B H; rw [if_pos rfl]; exact h
theorem c_if [Decidable p] {A B : Hp → Prop} (h : Ans tt σ H (decide p)) (h1 : p → A H) (h2 : ¬ p → B H) : tt σ H fun b H3 => if b = true then A H3 else B H3 := h _ (by
  by_cases hp : p
  · rw [decide_eq_true hp, if_pos rfl]; exact h1 hp
  · rw [decide_eq_false hp, if_neg (by simp)]; exact h2 hp)
theorem b_if {p : Prop} [Decidable p] {A B : Prop} (h1 : p → A) (h2 : ¬ p → B) : if decide p = true then A else B := by
  by_cases hp : p
  · rw [decide_eq_true hp, if_pos rfl]; exact h1 hp
  · rw [decide_eq_false hp, if_neg (by simp)]; exact h2 hp
theorem bb_if {b : Bool} {A B : Prop} (h1 : b = true → A) (h2 : ¬ b = true → B) : if b = true then A else B := by
  by_cases hp : b = true
  · rw [if_pos hp]; exact h1 hp
  · rw [if_neg hp]; exact h2 hp
theorem e_op {r : R2} (h : ta σ H fun x H1 => tb σ H1 fun y H2 => r x y H2 Q) : tOp r ta tb σ H Q := h
theorem rv2 {r : R2} (h : Val (tOp r (tC x) (tC y)) [] H z) (q : Q z H) : r x y H Q := h Q q
theorem rv2T {r : R2} {b : Bool} {Qt : Bool → Hp → Prop} (h : Val (tOp r (tC x) (tC y)) [] H (.bl b)) (q : Qt b H) : r x y H (fun x H' => ∃ k, x = .bl k ∧ Qt k H') := h _ ⟨b, rfl, q⟩
theorem rcb1 {r : List V → Hp → VK → Prop} (h : Val (tCB r (tCons (tC x) tNil)) [] H z) (q : Q z H) : r [x] H Q := h Q q
theorem rcb2 {r : List V → Hp → VK → Prop} (h : Val (tCB r (tCons (tC x) (tCons (tC y) tNil))) [] H z) (q : Q z H) : r [x, y] H Q := h Q q
theorem e_cb {r : List V → Hp → VK → Prop} (h : tA σ H fun vs H1 => r vs H1 Q) : tCB r tA σ H Q := h
theorem e_tB {Qt : Bool → Hp → Prop} (h : te σ H fun x H1 => ∃ c, x = .bl c ∧ Qt c H1) : tB te σ H Qt := h
theorem e_tT {Qt : Bool → Hp → Prop} (h : te σ H fun x H1 => ∃ c, x = .bl c ∧ Qt c H1) : tTest te σ H Qt := h
theorem e_bl {Qt : Bool → Hp → Prop} {b : Bool} (h : Qt b H) : ∃ c, V.bl b = .bl c ∧ Qt c H := ⟨b, rfl, h⟩
theorem e_tNot {Qt : Bool → Hp → Prop} (h : tt σ H fun c H1 => Qt (!c) H1) : tNot tt σ H Qt := h
theorem e_ans {Qt : Bool → Hp → Prop} {b : Bool} (h : Ans tt σ H b) (q : Qt b H) : tt σ H Qt := h Qt q
theorem e_tup (h : tA σ H (kTup Q)) : tTup tA σ H Q := h
theorem e_lst (h : tA σ H (kLst Q)) : tLst tA σ H Q := h
theorem a_asgG (h : te σ H fun v H1 => g v σ H1 D.nx) : tAsg te g D σ H := h
theorem a_augE {i : Nat} {ti : TIp} (hx : σ[i]? = some (some x)) (h : te σ H fun y H1 => ti x y H1 fun z H2 => D.nx (σ.set i (some z)) H2) : tAug i te ti D σ H := ⟨x, hx, h⟩
theorem a_augV {i : Nat} {ti : TIp} (hx : σ[i]? = some (some x)) (h : Val te σ H y) (hv : Val (tOp ti (tC x) (tC y)) [] H z) (q : D.nx (σ.set i (some z)) H) : tAug i te ti D σ H := ⟨x, hx, h _ (hv _ q)⟩
theorem XL.base {α : Type} {e : Rep α} {F0 H0 F F' H' : Hp} {p : Addr} {xs : List α} (x : XL e H F' H' p xs) (w : Wf F0 H0 F H) : XL e H0 F' H' p xs := let ⟨vs, a, b⟩ := x.x; ⟨vs, ⟨w.h.non a.z, a.n, a.h⟩, b⟩
end
/-- a def that may be called -/
structure Fn (P : Program) (w : World) (K : PySem.W.Frag) (mg : Str → Option Value) (base : Heap) (CX : CXT) (k : Nat) (x : Str) (ps : List Str) (sp : Sp) : Prop where
  ex : ∃ f fd, FnOk P w K mg base CX k f fd ps sp ∧ mg x = some (.ref f) ∧ PySem.W.keepIn K (.ref f) = true ∧ Binds K fd ps []
theorem pe_fn {X : Cx} {k : Nat} {x : Str} {ps : List Str} {sp : Sp} {e : Expr} {es : List Expr} {p pos : Pos} {t : TA} (C : Fn X.prog X.w X.K X.mg X.base CX0 k x ps sp) (hr : Room k X.A) (hg : Gl X x) (ha : PA X (e :: es) t) (hdb : (x == ("__debug__" : Str)) = false := by decide)
    (he : starEach (e :: es) X.env = (false, eval e X.env) :: starEach es X.env := by rfl) (hpl : (backTo pos (starEach es X.env)).any (·.1) = false := by rfl) : PE X (.Call (.Name x p) (e :: es) [] pos) (tCall sp [] E0 t) := by
  obtain ⟨f, fd, F, hm, hk, hb⟩ := C.ex
  exact pe_call F hr hg hm hk hb .nil pass0 ha hdb he hpl
theorem pe_fn0 {X : Cx} {k : Nat} {x : Str} {ps : List Str} {sp : Sp} {p pos : Pos} (C : Fn X.prog X.w X.K X.mg X.base CX0 k x ps sp) (hr : Room k X.A) (hg : Gl X x) (hdb : (x == ("__debug__" : Str)) = false := by decide) : PE X (.Call (.Name x p) [] [] pos) (tCall sp [] E0 tNil) := by
  obtain ⟨f, fd, F, hm, hk, hb⟩ := C.ex
  exact pe_call0 F hr hg hm hk hb .nil pass0 hdb
end Wk

namespace Wk
open PySem L2
theorem dec_and {p q : Prop} [Decidable p] [Decidable q] : (decide p && decide q) = decide (p ∧ q) := by
  by_cases hp : p
  · by_cases hq : q
    · rw [decide_eq_true hp, decide_eq_true hq, decide_eq_true (And.intro hp hq)]; rfl
    · rw [decide_eq_false hq, decide_eq_false (fun z : p ∧ q => hq z.2), Bool.and_false]
  · rw [decide_eq_false hp, decide_eq_false (fun z : p ∧ q => hp z.1), Bool.false_and]
theorem dec_tt {b : Bool} : b = decide (b = true) := by cases b <;> rfl
theorem dec_T : true = decide True := rfl
theorem dec_F : false = decide False := rfl
section
variable {α β : Type} {e : Rep α} {f : Rep β} {K : PySem.W.Frag} {σ : L2.St} {F0 H0 F F' H H' : Hp} {te ta tb : TE} {Q : VK} {v w u : V} {xs : List α} {p : Addr} {i : Int} {n : Nat} {x : V}
/-- bit_length -/
def bits (n : Nat) : Nat := if n = 0 then 0 else n.log2 + 1
theorem bits_int (n : Nat) : Builtin.Int.intBits (n : Int) = bits n := by
  unfold Builtin.Int.intBits bits
  by_cases h : n = 0
  · subst h; rfl
  · rw [if_neg (show ¬ (((n : Nat) : Int) == 0) = true by simpa using h), if_neg h]; rfl
theorem vn_bitl (ha : Val ta σ H (.int (n : Int))) : Val (tBits ta) σ H (.int ((bits n : Nat) : Int)) := fun _ k => ha _ ⟨_, rfl, by rw [bits_int]; exact k⟩
theorem v_isi {b : Bool} {cn tn : String} (ha : Val ta σ H x) (ty : TyX K H x (.type tn)) (h : kitB tn cn = some b) : Val (tCB (rIsi K) (tCons ta (tCons (tC (.ty cn)) tNil))) σ H (.bl b) := fun Q k => ha _ ⟨x, .ty cn, _, _, b, rfl, .ty cn, ty, kit_ty h, k⟩
theorem ty_L (r : (pL e).r F v xs) (f : Ex F H) : TyX K H v (.type "list") := by obtain ⟨p, vs, rfl, hp, _⟩ := r; exact .base (.lst (f _ _ hp))
theorem ty_TL (r : (pTL e).r F v xs) (f : Ex F H) : TyX K H v (.type "tuple") := by obtain ⟨p, vs, rfl, hp, _⟩ := r; exact .base (.tup (f _ _ hp))
theorem ty_T2 {z : α × β} (r : (pT2 e f).r F v z) (h : Ex F H) : TyX K H v (.type "tuple") := by obtain ⟨p, _, _, rfl, hp, _⟩ := r; exact .base (.tup (h _ _ hp))
theorem ty_X (r : XL e H0 F H p xs) : TyX K H (.ref p) (.type "list") := by obtain ⟨vs, hp, _⟩ := r.rd; exact .base (.lst hp)
def rInt1 : List V → Hp → VK → Prop := fun xs H Q => (∃ i, xs = [.int i] ∧ Q (.int i) H) ∨ ∃ k, xs = [.bl k] ∧ Q (.int (if k then 1 else 0)) H
theorem v_intI (ha : Val ta σ H (.int i)) : Val (tCB rInt1 (tCons ta tNil)) σ H (.int i) := fun _ k => ha _ (.inl ⟨i, rfl, k⟩)
theorem v_intB {b : Bool} (ha : Val ta σ H (.bl b)) : Val (tCB rInt1 (tCons ta tNil)) σ H (.int ((b.toNat : Nat) : Int)) := fun _ k => ha _ (.inr ⟨b, rfl, by cases b <;> exact k⟩)
end
end Wk

namespace Wk
open PySem L2
/-! ### readings by short names -/
abbrev kAdd : R2 := L2.rI0 fun i j => .int (i + j)
abbrev kSub : R2 := L2.rI0 fun i j => .int (i - j)
abbrev kMul : R2 := L2.rI CMul fun i j => .int (i * j)
abbrev kMulX : R2 := L2.rI CMulX fun i j => .int (i * j)
abbrev kDiv : R2 := L2.rI CDivW fun i j => .int (i / j)
abbrev kMod : R2 := L2.rI (fun _ j => 0 < j) fun i j => .int (i % j)
abbrev kPow : R2 := L2.rI CPow fun i j => .int (i ^ j.toNat)
abbrev kShl : R2 := L2.rI CShl fun i j => .int (i * 2 ^ j.toNat)
abbrev kShr : R2 := L2.rI (fun _ j => 0 ≤ j) fun i j => .int (i / 2 ^ j.toNat)
abbrev kAnd : R2 := L2.rI0 fun i j => .int (Builtin.bitAnd i j)
abbrev kOr : R2 := L2.rI0 fun i j => .int (Builtin.bitOr i j)
abbrev kXor : R2 := L2.rI0 fun i j => .int (Builtin.bitXor i j)
abbrev kLt : R2 := L2.rI0 fun i j => .bl (decide (i < j))
abbrev kLe : R2 := L2.rI0 fun i j => .bl (decide (i ≤ j))
abbrev kGt : R2 := L2.rI0 fun i j => .bl (decide (j < i))
abbrev kGe : R2 := L2.rI0 fun i j => .bl (decide (j ≤ i))
abbrev kNeg : V → Hp → VK → Prop := L2.rU fun i => .int (-i)
def rLenS : List V → Hp → VK → Prop := fun xs H Q => ∃ z, xs = [.str z] ∧ z.length ≤ sizeLine ∧ Q (.int z.length) H
def rListOf (K : PySem.W.Frag) : List V → Hp → VK → Prop := fun xs H Q => ∃ p ys, xs = [.ref p] ∧ (SqL K H p ys ∨ SqT K H p ys) ∧ ∀ l, H l = none → Q (.ref l) (upd H l (.lst ys))
section
variable {α β : Type} {e : Rep α} {f : Rep β} {K : PySem.W.Frag} {σ : L2.St} {F0 H0 F F' H H' : Hp} {te ta tb : TE} {Q : VK} {v w u : V} {xs ys : List α} {p q : Addr} {i : Int} {n a b : Nat} {x : V} {tl th : TO}
theorem len_Str {s : Str} (h : s.length < 1000000) (ha : Val ta σ H (.str s)) : Val (tCB rLenS (tCons ta tNil)) σ H (.int ((s.length : Nat) : Int)) := fun _ k => ha _ ⟨s, rfl, Nat.le_of_lt (small_len h), k⟩
theorem XL.frzO (x : XL e H0 F H q xs) (h : Fz F F' p) (hq : q ≠ p) (g : Ex F F') : XL e H0 F' H q xs := let ⟨vs, a, b⟩ := x.x; ⟨vs, ⟨a.z, h _ hq a.n, a.h⟩, b.mono g⟩
/-- list(xs): a new one -/
theorem n_listX (r : (pL e).r F v xs) (w : Wf F0 H0 F H) (k : ∀ p H', H p = none → Wf F H F H' → XL e H0 F H' p xs → Q (.ref p) H') : rListOf K [v] H Q := by
  obtain ⟨p, vs, rfl, hp, a⟩ := r
  exact ⟨p, vs, rfl, .inl (SqL.of (w.f _ _ hp)), fun l hl => k l _ hl (Wf.newX w.f hl) ⟨vs, Xc.mk' w hl, a⟩⟩
theorem n_listXX (r : XL e H0 F H q xs) (w : Wf F0 H0 F H) (k : ∀ p H', H p = none → Wf F H F H' → XL e H0 F H' p xs → Q (.ref p) H') : rListOf K [.ref q] H Q := by
  obtain ⟨vs, hp, a⟩ := r.rd
  exact ⟨q, vs, rfl, .inl (SqL.of hp), fun l hl => k l _ hl (Wf.newX w.f hl) ⟨vs, Xc.mk' w hl, a⟩⟩
theorem n_listXT (r : (pTL e).r F v xs) (w : Wf F0 H0 F H) (k : ∀ p H', H p = none → Wf F H F H' → XL e H0 F H' p xs → Q (.ref p) H') : rListOf K [v] H Q := by
  obtain ⟨p, vs, rfl, hp, a⟩ := r
  exact ⟨p, vs, rfl, .inr (SqT.of (w.f _ _ hp)), fun l hl => k l _ hl (Wf.newX w.f hl) ⟨vs, Xc.mk' w hl, a⟩⟩
/-- xs + ys -/
theorem n_cat (r : (pL e).r F v xs) (s : (pL e).r F u ys) (w : Wf F0 H0 F H) (hl : xs.length + ys.length < 1000000) (k : ∀ p H', H p = none → Wf F H F H' → XL e H0 F H' p (xs ++ ys) → Q (.ref p) H') : rCat v u H Q := by
  obtain ⟨p, vs, rfl, hp, a⟩ := r
  obtain ⟨q, us, rfl, hq, b⟩ := s
  exact ⟨p, q, vs, us, rfl, rfl, w.f _ _ hp, w.f _ _ hq, by rw [a.len, b.len]; exact Nat.le_of_lt (small_len hl), fun l hl => k l _ hl (Wf.newX w.f hl) ⟨_, Xc.mk' w hl, a.app b⟩⟩
theorem All.rep (a : All e F vs' xs) : ∀ n, All e F (List.replicate n vs').flatten (List.replicate n xs).flatten
  | 0 => trivial
  | n + 1 => by rw [List.replicate_succ, List.replicate_succ, List.flatten_cons, List.flatten_cons]; exact a.app (All.rep a n)
/-- xs * n -/
theorem n_rep (r : (pL e).r F v xs) (w : Wf F0 H0 F H) (hl : xs.length * n < 1000000) (hn : n < 1000000) (k : ∀ p H', H p = none → Wf F H F H' → XL e H0 F H' p (List.replicate n xs).flatten → Q (.ref p) H') : rRep v (.int (n : Int)) H Q := by
  obtain ⟨p, vs, rfl, hp, a⟩ := r
  exact ⟨p, _, vs, rfl, rfl, w.f _ _ hp, by omega, by omega, by rw [a.len]; exact Nat.le_of_lt (small_len hl), fun l hl => k l _ hl (Wf.newX w.f hl) ⟨_, Xc.mk' w hl, All.rep a n⟩⟩
/-! slices -/
def cutT (xs : List α) (lo hi : Option Nat) : List α := match lo, hi with
  | none, none => xs
  | none, some b => xs.take b
  | some a, none => xs.drop a
  | some a, some b => (xs.drop a).take (b - a)
theorem cutV_T {ws : List V} (lo hi : Option Nat) : cutV ws (lo.map Int.ofNat) (hi.map Int.ofNat) = cutT ws lo hi := by
  have tk : ∀ (n : Nat) (l : List V), l.take (min n l.length) = l.take n := fun n l => by
    by_cases h : n ≤ l.length
    · rw [Nat.min_eq_left h]
    · rw [Nat.min_eq_right (by omega), List.take_of_length_le (Nat.le_refl _), List.take_of_length_le (by omega)]
  unfold cutV cutT
  cases lo with
  | none =>
    cases hi with
    | none => simp only [Option.map_none, HT.sIx_none, List.drop_zero, Nat.sub_zero, List.take_length]
    | some b =>
      simp only [Option.map_none, Option.map_some, HT.sIx_none, List.drop_zero, Nat.sub_zero]
      rw [show HT.sIx ws.length ws.length (some (Int.ofNat b)) = min b ws.length from HT.sIx_nat _ _ _]
      exact tk b ws
  | some a =>
    have dr : ws.drop (min a ws.length) = ws.drop a := by
      by_cases h : a ≤ ws.length
      · rw [Nat.min_eq_left h]
      · rw [Nat.min_eq_right (by omega), List.drop_of_length_le (Nat.le_refl _), List.drop_of_length_le (by omega)]
    cases hi with
    | none =>
      simp only [Option.map_none, Option.map_some, HT.sIx_none]
      rw [show HT.sIx ws.length 0 (some (Int.ofNat a)) = min a ws.length from HT.sIx_nat _ _ _, dr]
      exact List.take_of_length_le (by rw [List.length_drop]; omega)
    | some b =>
      simp only [Option.map_some]
      rw [show HT.sIx ws.length 0 (some (Int.ofNat a)) = min a ws.length from HT.sIx_nat _ _ _, show HT.sIx ws.length ws.length (some (Int.ofNat b)) = min b ws.length from HT.sIx_nat _ _ _, dr]
      by_cases h : b ≤ ws.length
      · rw [Nat.min_eq_left h]
        by_cases h' : a ≤ ws.length
        · rw [Nat.min_eq_left h']
        · rw [List.drop_of_length_le (by omega), List.take_nil, List.take_nil]
      · rw [Nat.min_eq_right (by omega)]
        rw [List.take_of_length_le (by rw [List.length_drop]; omega), List.take_of_length_le (by rw [List.length_drop]; omega)]
theorem All.cut {ws : List V} (a : All e F ws xs) (lo hi : Option Nat) : All e F (cutT ws lo hi) (cutT xs lo hi) := by
  cases lo <;> cases hi
  · exact a
  · exact a.take _
  · exact a.drop _
  · exact (a.drop _).take _
/-- the two ends of a slice -/
def Part (tl : TO) (σ : L2.St) (H : Hp) (o : Option Nat) : Prop := ∀ Q : Option Int → Hp → Prop, Q (o.map Int.ofNat) H → tl σ H Q
theorem po_n : Part tNoPart σ H none := fun _ k => k
theorem po_s (h : Val te σ H (.int (n : Int))) : Part (tPart te) σ H (some n) := fun _ k => h _ ⟨_, rfl, k⟩
theorem n_cutX {lo hi : Option Nat} (r : (pL e).r F v xs) (hv : Val te σ H v) (h1 : Part tl σ H lo) (h2 : Part th σ H hi) (w : Wf F0 H0 F H) (k : ∀ p H', H p = none → Wf F H F H' → XL e H0 F H' p (cutT xs lo hi) → Q (.ref p) H') : tSl (rSlL K) te tl th σ H Q := by
  obtain ⟨p, vs, rfl, hp, a⟩ := r
  exact hv _ (h1 _ (h2 _ ⟨p, vs, rfl, SqL.of (w.f _ _ hp), fun l hl => by
    rw [cutV_T]
    exact k l _ hl (Wf.newX w.f hl) ⟨_, Xc.mk' w hl, a.cut lo hi⟩⟩))
theorem n_cutS {lo hi : Option Nat} {zs : List Int} (r : (pScr K).r F v zs) (hv : Val te σ H v) (h1 : Part tl σ H lo) (h2 : Part th σ H hi) (w : Wf F0 H0 F H) (k : ∀ p H', H p = none → Wf F H F H' → XL pI H0 F H' p (cutT zs lo hi) → Q (.ref p) H') : tSl (rSlL K) te tl th σ H Q := by
  obtain ⟨p, rfl, s⟩ := (pScr K).mono w.f r
  exact hv _ (h1 _ (h2 _ ⟨p, _, rfl, s, fun l hl => by
    rw [cutV_T]
    exact k l _ hl (Wf.newX w.f hl) ⟨_, Xc.mk' w hl, (All.ofInts (xs := zs)).cut lo hi⟩⟩))
end
end Wk

namespace Wk
open PySem L2
section
variable {α β γ : Type} {e : Rep α} {f : Rep β} {g : Rep γ} {K : PySem.W.Frag} {σ : L2.St} {F0 H0 F F' H H' : Hp} {te ta tb to : TE} {tt : TT} {tA : TA} {Q : VK} {v w u : V} {xs ys : List α} {p q : Addr} {i : Nat} {D : Ends} {pr : Prop} {ti : TIp} {x y : V}
theorem if_t {A B : Prop} (h : A) : if true = true then A else B := by rw [if_pos rfl]; exact h
theorem if_f {A B : Prop} (h : B) : if false = true then A else B := by rw [if_neg (by simp)]; exact h
theorem b_ifn {p : Prop} [Decidable p] {A B : Prop} (h1 : p → B) (h2 : ¬ p → A) : if (!decide p) = true then A else B := by
  by_cases hp : p
  · rw [decide_eq_true hp, if_neg (by simp)]; exact h1 hp
  · rw [decide_eq_false hp, if_pos (by rfl)]; exact h2 hp
theorem bb_ifn {b : Bool} {A B : Prop} (h1 : b = true → B) (h2 : ¬ b = true → A) : if (!b) = true then A else B := by
  cases b with
  | true => rw [if_neg (by simp)]; exact h1 rfl
  | false => rw [if_pos (by rfl)]; exact h2 (by simp)
theorem nx_v {P : V → Prop} (h : v = w) (q : P v) : P w := h ▸ q
theorem nx_set {P : L2.St → Hp → Prop} {σ : L2.St} {i : Nat} {H : Hp} (h : v = w) (q : P (σ.set i (some v)) H) : P (σ.set i (some w)) H := h ▸ q
theorem g_name {R : L2.St → Hp → Prop} (h : R (σ.set i (some v)) H) : gName i v σ H R := h
theorem set_same {σ : L2.St} {i : Nat} {v : V} (h : σ[i]? = some (some v)) : σ.set i (some v) = σ := by
  refine List.ext_getElem? fun j => ?_
  rw [List.getElem?_set]
  split
  · rename_i h1
    subst h1
    split
    · exact h.symm
    · rename_i h2
      rw [List.getElem?_eq_none (by omega)] at h; cases h
  · rfl
theorem a_ifAsg [Decidable pr] (h : Ans tt σ H (decide pr)) (h1 : pr → Val te σ H v) (h2 : ¬ pr → σ[i]? = some (some v)) (q : D.nx (σ.set i (some v)) H) : tIfS tt (tAsg te (gName i)) tNext D σ H := h _ (b_if (fun hp => h1 hp _ q) fun hp => by
  have e := set_same (h2 hp)
  rw [e] at q
  exact q)
theorem a_ifAug [Decidable pr] (h : Ans tt σ H (decide pr)) (hx : σ[i]? = some (some x)) (hy : Val te σ H y) (h1 : pr → Val (tOp ti (tC x) (tC y)) [] H v) (h2 : ¬ pr → σ[i]? = some (some v)) (q : D.nx (σ.set i (some v)) H) : tIfS tt (tAug i te ti) tNext D σ H := h _ (b_if (fun hp => ⟨x, hx, hy _ (h1 hp _ q)⟩) fun hp => by
  have e := set_same (h2 hp)
  rw [e] at q
  exact q)
theorem n_tup3 {x : α} {y : β} {z : γ} (a : e.r F v x) (b : f.r F w y) (c : g.r F u z) (h : Wf F0 H0 F H) (k : ∀ p F' H', Wf F H F' H' → (pT3 e f g).r F' (.ref p) (x, y, z) → Q (.ref p) H') :
    kTup Q [v, w, u] H := ⟨Nat.le_of_lt (small_len (n := 3) (by decide)), fun p hp => k p _ _ (Wf.new h.f hp) ⟨p, v, w, u, rfl, upd_same, e.mono (Ex.new (h.f.non hp)) a, f.mono (Ex.new (h.f.non hp)) b, g.mono (Ex.new (h.f.non hp)) c⟩⟩
theorem n_tupL {vs : List V} (a : All e F vs xs) (hl : xs.length < 1000000) (w : Wf F0 H0 F H) (k : ∀ p F' H', Wf F H F' H' → (pTL e).r F' (.ref p) xs → Q (.ref p) H') :
    kTup Q vs H := ⟨by rw [a.len]; exact Nat.le_of_lt (small_len hl), fun p hp => k p _ _ (Wf.new w.f hp) ⟨p, vs, rfl, upd_same, a.mono (Ex.new (w.f.non hp))⟩⟩
theorem m_list {r : V → List V → Hp → VK → Prop} (z : XL e H0 F H p xs) (ho : Val to σ H (.ref p)) (k : tA σ H fun vs H2 => r (.ref p) vs H2 Q) : tBM K "list" r to tA σ H Q := ho _ ⟨let ⟨_, a, _⟩ := z.x; Or.inl ⟨rfl, _, Or.inl (Or.inl a.h)⟩, k⟩
theorem a_clr (x : XL e H0 F H p xs) (w : Wf F0 H0 F H) (k : ∀ H', Wf F0 H0 F H' → XL e H0 F H' p [] → (∀ q o, H q = some o → q ≠ p → H' q = some o) → Q .non H') : rClear (.ref p) [] H Q := by
  obtain ⟨vs, a, b⟩ := x.x
  exact ⟨p, vs, rfl, rfl, a.h, k _ (w.set a) ⟨_, a.set, trivial⟩ fun q o h hq => by rw [upd_ne hq]; exact h⟩
theorem a_ext (x : XL e H0 F H p xs) (r : (pL e).r F v ys) (w : Wf F0 H0 F H) (hl : xs.length + ys.length < 1000000) (k : ∀ H', Wf F0 H0 F H' → XL e H0 F H' p (xs ++ ys) → (∀ q o, H q = some o → q ≠ p → H' q = some o) → Q .non H') : rExtend (.ref p) [v] H Q := by
  obtain ⟨vs, a, b⟩ := x.x
  obtain ⟨q, us, rfl, hq, c⟩ := r
  exact ⟨p, q, vs, us, rfl, rfl, a.h, w.f _ _ hq, by rw [b.len, c.len]; exact Nat.le_of_lt (small_len hl), k _ (w.set a) ⟨_, a.set, b.app c⟩ fun q o h hq => by rw [upd_ne hq]; exact h⟩
end
end Wk

namespace Wk
open PySem L2
/-! ### dicts: their pairs in order, keys numbers or texts -/
class KeyT (κ : Type) where
  k : κ → Key
  inj : ∀ {a b : κ}, k a = k b → a = b
instance : KeyT Nat := ⟨fun n => .inl (n : Int), fun h => by have := Sum.inl.inj h; omega⟩
instance : KeyT Int := ⟨fun n => .inl n, fun h => Sum.inl.inj h⟩
instance : KeyT Str := ⟨fun n => .inr n, fun h => Sum.inr.inj h⟩
section
variable {κ α : Type} [DecidableEq κ] [KeyT κ]
def valT (m : List (κ × α)) (j : κ) : Option α := (m.find? fun q => decide (q.1 = j)).map (·.2)
def hasT (m : List (κ × α)) (j : κ) : Bool := (valT m j).isSome
def putT (m : List (κ × α)) (j : κ) (x : α) : List (κ × α) := if hasT m j = true then m.map (fun q => if q.1 = j then (q.1, x) else q) else m ++ [(j, x)]
def DA (e : Rep α) (F : Hp) : List (Key × V) → List (κ × α) → Prop
  | [], [] => True
  | p :: r, q :: s => p.1 = KeyT.k q.1 ∧ e.r F p.2 q.2 ∧ DA e F r s
  | _, _ => False
variable {e : Rep α} {F F' : Hp}
omit [DecidableEq κ] in
theorem DA.mono (h : Ex F F') : ∀ {kvs : List (Key × V)} {m : List (κ × α)}, DA e F kvs m → DA e F' kvs m
  | [], [], _ => trivial
  | _ :: _, _ :: _, ⟨a, b, c⟩ => ⟨a, e.mono h b, DA.mono h c⟩
  | [], _ :: _, q => q.elim
  | _ :: _, [], q => q.elim
theorem DA.len : ∀ {kvs : List (Key × V)} {m : List (κ × α)}, DA e F kvs m → kvs.length = m.length
  | [], [], _ => rfl
  | _ :: _, _ :: _, ⟨_, _, c⟩ => by rw [List.length_cons, List.length_cons, DA.len c]
  | [], _ :: _, q => q.elim
  | _ :: _, [], q => q.elim
theorem valT_cons {q : κ × α} {m : List (κ × α)} {j : κ} : valT (q :: m) j = if q.1 = j then some q.2 else valT m j := by
  unfold valT
  rw [List.find?_cons]
  by_cases h : q.1 = j
  · rw [if_pos h, decide_eq_true h]; rfl
  · rw [if_neg h, decide_eq_false h]
theorem DA.get : ∀ {kvs : List (Key × V)} {m : List (κ × α)} (j : κ), DA e F kvs m → (∀ x, valT m j = some x → ∃ v, valV kvs (KeyT.k j) = some v ∧ e.r F v x) ∧ (valT m j = none → valV kvs (KeyT.k j) = none)
  | [], [], _, _ => ⟨fun x h => (by cases h), fun _ => rfl⟩
  | p :: r, q :: s, j, ⟨a, b, c⟩ => by
    obtain ⟨ih1, ih2⟩ := DA.get j c
    rw [valT_cons]
    by_cases h : q.1 = j
    · rw [if_pos h]
      have e1 : p.1 = KeyT.k j := by rw [a, h]
      exact ⟨fun x hx => ⟨p.2, valV_pos e1, by cases hx; exact b⟩, fun z => by cases z⟩
    · rw [if_neg h]
      have e1 : ¬ p.1 = KeyT.k j := fun z => h (KeyT.inj (a.symm.trans z))
      rw [valV_neg e1]
      exact ⟨ih1, ih2⟩
  | [], _ :: _, _, q => q.elim
  | _ :: _, [], _, q => q.elim
theorem DA.has {kvs : List (Key × V)} {m : List (κ × α)} (j : κ) (d : DA e F kvs m) : (valV kvs (KeyT.k j)).isSome = hasT m j := by
  obtain ⟨h1, h2⟩ := d.get j
  unfold hasT
  cases q : valT m j with
  | none => rw [h2 q]; rfl
  | some x => obtain ⟨v, h, _⟩ := h1 x q; rw [h]; rfl
theorem DA.app : ∀ {kvs : List (Key × V)} {m : List (κ × α)} {kvs' : List (Key × V)} {m' : List (κ × α)}, DA e F kvs m → DA e F kvs' m' → DA e F (kvs ++ kvs') (m ++ m')
  | [], [], _, _, _, h => h
  | _ :: _, _ :: _, _, _, ⟨a, b, c⟩, h => ⟨a, b, DA.app c h⟩
  | [], _ :: _, _, _, q, _ => q.elim
  | _ :: _, [], _, _, q, _ => q.elim
theorem DA.upd {v : V} {x : α} {j : κ} (r : e.r F v x) : ∀ {kvs : List (Key × V)} {m : List (κ × α)}, DA e F kvs m → DA e F (kvs.map fun kv => if kv.1 = KeyT.k j then (kv.1, v) else kv) (m.map fun q => if q.1 = j then (q.1, x) else q)
  | [], [], _ => trivial
  | p :: _, q :: _, ⟨a, b, c⟩ => by
    rw [List.map_cons, List.map_cons]
    refine ⟨?_, ?_, DA.upd r c⟩
    · by_cases h : q.1 = j
      · rw [if_pos h, if_pos (by rw [a, h])]; exact a
      · rw [if_neg h, if_neg (fun z => h (KeyT.inj (a.symm.trans z)))]; exact a
    · by_cases h : q.1 = j
      · rw [if_pos h, if_pos (by rw [a, h])]; exact r
      · rw [if_neg h, if_neg (fun z => h (KeyT.inj (a.symm.trans z)))]; exact b
  | [], _ :: _, q => q.elim
  | _ :: _, [], q => q.elim
theorem DA.put {v : V} {x : α} {j : κ} {kvs : List (Key × V)} {m : List (κ × α)} (d : DA e F kvs m) (r : e.r F v x) : DA e F (putK kvs (KeyT.k j) v) (putT m j x) := by
  unfold putK putT
  rw [valV_any, d.has j]
  by_cases h : hasT m j = true
  · rw [if_pos h, if_pos h]; exact d.upd r
  · rw [if_neg h, if_neg h]; exact d.app ⟨rfl, r, trivial⟩
end
def pD {κ α : Type} [KeyT κ] (e : Rep α) : Rep (List (κ × α)) := ⟨fun F v m => ∃ p kvs, v = .ref p ∧ F p = some (.dK kvs) ∧ DA e F kvs m, fun h ⟨p, kvs, a, b, c⟩ => ⟨p, kvs, a, h _ _ b, c.mono h⟩⟩
structure XD {κ α : Type} [KeyT κ] (e : Rep α) (H0 F H : Hp) (p : Addr) (m : List (κ × α)) : Prop where
  x : ∃ kvs, Xc H0 F H p (.dK kvs) ∧ DA e F kvs m
section
variable {κ α : Type} [DecidableEq κ] [KeyT κ] {e : Rep α} {K : PySem.W.Frag} {σ : L2.St} {F0 H0 F F' H H' : Hp} {te td ty tx tv : TE} {Q : VK} {v w y z : V} {m : List (κ × α)} {p q : Addr} {j : κ} {x : α} {D : Ends}
theorem XD.step (x : XD e H0 F H p m) (w : Wf F H F' H') : XD e H0 F' H' p m := let ⟨vs, a, b⟩ := x.x; ⟨vs, a.step w, b.mono w.g⟩
theorem XD.ne (x : XD e H0 F H p m) (h : H q = none) : p ≠ q := let ⟨_, a, _⟩ := x.x; a.ne h
theorem XD.zero (x : XD e H0 F H p m) : H0 p = none := let ⟨_, a, _⟩ := x.x; a.z
theorem XD.base (x : XD e H F' H' p m) (w : Wf F0 H0 F H) : XD e H0 F' H' p m := let ⟨vs, a, b⟩ := x.x; ⟨vs, ⟨w.h.non a.z, a.n, a.h⟩, b⟩
theorem XD.kept (x : XD e H0 F H q m) (h : ∀ q o, H q = some o → q ≠ p → H' q = some o) (hq : q ≠ p) : XD e H0 F H' q m := let ⟨vs, a, b⟩ := x.x; ⟨vs, a.kept h hq, b⟩
theorem XD.frzO (x : XD e H0 F H q m) (h : Fz F F' p) (hq : q ≠ p) (g : Ex F F') : XD e H0 F' H q m := let ⟨vs, a, b⟩ := x.x; ⟨vs, ⟨a.z, h _ hq a.n, a.h⟩, b.mono g⟩
theorem XD.frzE (x : XD e H0 F H p m) (w : Wf F0 H0 F H) : ∃ F', Wf F0 H0 F' H ∧ Ex F F' ∧ (pD e).r F' (.ref p) m ∧ Fz F F' p := by
  obtain ⟨vs, a, b⟩ := x.x
  exact ⟨_, w.freeze a, Ex.new a.n, ⟨p, vs, rfl, upd_same, b.mono (Ex.new a.n)⟩, fun q h z => by rw [upd_ne h]; exact z⟩
theorem XD.lend (x : XD e H0 F H p m) (w : Wf F0 H0 F H) : ∃ F', Ex F' H ∧ Ex F F' ∧ (pD e).r F' (.ref p) m := let ⟨F', a, b, c, _⟩ := x.frzE w; ⟨F', a.f, b, c⟩
theorem XD.rd (x : XD e H0 F H p m) : ∃ kvs, H p = some (.dK kvs) ∧ DA e F kvs m := let ⟨vs, a, b⟩ := x.x; ⟨vs, a.h, b⟩
theorem D_rd (r : (pD e).r F v m) (f : Ex F H) : ∃ p kvs, v = .ref p ∧ H p = some (.dK kvs) ∧ DA e F kvs m := let ⟨p, vs, a, b, c⟩ := r; ⟨p, vs, a, f _ _ b, c⟩
/-- {} -/
theorem n_dict (w : Wf F0 H0 F H) (k : ∀ p H', H p = none → Wf F H F H' → XD e H0 F H' p ([] : List (κ × α)) → Q (.ref p) H') : tDNewK σ H Q := fun p hp => k p _ hp (Wf.newX w.f hp) ⟨[], Xc.mk' w hp, trivial⟩
/-! reading -/
theorem in_D (r : (pD e).r F v m) (f : Ex F H) (hy : Val ty σ H (kV (KeyT.k j))) (hd : Val td σ H v) : Val (tDIn ty td) σ H (.bl (hasT m j)) := by
  obtain ⟨p, kvs, rfl, hp, a⟩ := D_rd r f
  exact fun Q k => hy _ (hd _ ⟨p, _, rfl, DGet.k hp, by rw [a.has j]; exact k⟩)
theorem in_XD (r : XD e H0 F H p m) (hy : Val ty σ H (kV (KeyT.k j))) (hd : Val td σ H (.ref p)) : Val (tDIn ty td) σ H (.bl (hasT m j)) := by
  obtain ⟨kvs, hp, a⟩ := r.rd
  exact fun Q k => hy _ (hd _ ⟨p, _, rfl, DGet.k hp, by rw [a.has j]; exact k⟩)
theorem nin_D (r : (pD e).r F v m) (f : Ex F H) (hy : Val ty σ H (kV (KeyT.k j))) (hd : Val td σ H v) : Val (tDNotIn ty td) σ H (.bl (!hasT m j)) := by
  obtain ⟨p, kvs, rfl, hp, a⟩ := D_rd r f
  exact fun Q k => hy _ (hd _ ⟨p, _, rfl, DGet.k hp, by rw [a.has j]; exact k⟩)
theorem nin_XD (r : XD e H0 F H p m) (hy : Val ty σ H (kV (KeyT.k j))) (hd : Val td σ H (.ref p)) : Val (tDNotIn ty td) σ H (.bl (!hasT m j)) := by
  obtain ⟨kvs, hp, a⟩ := r.rd
  exact fun Q k => hy _ (hd _ ⟨p, _, rfl, DGet.k hp, by rw [a.has j]; exact k⟩)
theorem ix_D (r : (pD e).r F v m) (f : Ex F H) (hx : valT m j = some x) : ∃ w, e.r F w x ∧ ∀ ⦃σ td ty⦄, Val td σ H v → Val ty σ H (kV (KeyT.k j)) → Val (tDGet td ty) σ H w := by
  obtain ⟨p, kvs, rfl, hp, a⟩ := D_rd r f
  obtain ⟨w, h1, h2⟩ := (a.get j).1 x hx
  exact ⟨w, h2, fun _ _ _ hd hy Q k => hd _ (hy _ ⟨p, w, rfl, by rw [← h1]; exact DGet.k hp, k⟩)⟩
theorem ix_XD (r : XD e H0 F H p m) (hx : valT m j = some x) : ∃ w, e.r F w x ∧ ∀ ⦃σ td ty⦄, Val td σ H (.ref p) → Val ty σ H (kV (KeyT.k j)) → Val (tDGet td ty) σ H w := by
  obtain ⟨kvs, hp, a⟩ := r.rd
  obtain ⟨w, h1, h2⟩ := (a.get j).1 x hx
  exact ⟨w, h2, fun _ _ _ hd hy Q k => hd _ (hy _ ⟨p, w, rfl, by rw [← h1]; exact DGet.k hp, k⟩)⟩
/-- d.get(k, x) -/
theorem get_XD (r : XD e H0 F H p m) (hz : e.r F z x) : ∃ w, e.r F w ((valT m j).getD x) ∧ ∀ ⦃σ td ty tx⦄, Val td σ H (.ref p) → Val ty σ H (kV (KeyT.k j)) → Val tx σ H z → Val (tDGet2 td ty tx) σ H w := by
  obtain ⟨kvs, hp, a⟩ := r.rd
  obtain ⟨h1, h2⟩ := a.get j
  have isd : IsD H p := .inl ⟨kvs, .inl hp⟩
  cases q : valT m j with
  | none => exact ⟨z, hz, fun _ _ _ _ hd hy hx Q k => hd _ ⟨p, rfl, isd, hy _ (hx _ ⟨none, by rw [← h2 q]; exact DGet.k hp, k⟩)⟩⟩
  | some x' =>
    obtain ⟨w, h3, h4⟩ := h1 x' q
    exact ⟨w, h4, fun _ _ _ _ hd hy hx Q k => hd _ ⟨p, rfl, isd, hy _ (hx _ ⟨some w, by rw [← h3]; exact DGet.k hp, k⟩)⟩⟩
theorem get_D (r : (pD e).r F v m) (f : Ex F H) (hz : e.r F z x) : ∃ w, e.r F w ((valT m j).getD x) ∧ ∀ ⦃σ td ty tx⦄, Val td σ H v → Val ty σ H (kV (KeyT.k j)) → Val tx σ H z → Val (tDGet2 td ty tx) σ H w := by
  obtain ⟨p, kvs, rfl, hp, a⟩ := D_rd r f
  obtain ⟨h1, h2⟩ := a.get j
  have isd : IsD H p := .inl ⟨kvs, .inl hp⟩
  cases q : valT m j with
  | none => exact ⟨z, hz, fun _ _ _ _ hd hy hx Q k => hd _ ⟨p, rfl, isd, hy _ (hx _ ⟨none, by rw [← h2 q]; exact DGet.k hp, k⟩)⟩⟩
  | some x' =>
    obtain ⟨w, h3, h4⟩ := h1 x' q
    exact ⟨w, h4, fun _ _ _ _ hd hy hx Q k => hd _ ⟨p, rfl, isd, hy _ (hx _ ⟨some w, by rw [← h3]; exact DGet.k hp, k⟩)⟩⟩
/-- d[k] = v, v evaluated -/
theorem d_put (r : XD e H0 F H p m) (w : Wf F0 H0 F H) (hl : m.length < 1000000) (rv : e.r F v x) (hd : Val td σ H (.ref p)) (hy : Val ty σ H (kV (KeyT.k j))) (k : ∀ H', Wf F0 H0 F H' → XD e H0 F H' p (putT m j x) → (∀ q o, H q = some o → q ≠ p → H' q = some o) → D.nx σ H') :
    (fun v H1 => td σ H1 fun x H2 => ty σ H2 fun y H3 => ∃ a H4, x = .ref a ∧ DPut H3 a y v H4 ∧ D.nx σ H4) v H := by
  obtain ⟨kvs, a, b⟩ := r.x
  exact hd _ (hy _ ⟨p, _, rfl, DPut.k a.h (by rw [b.len]; exact small_len hl), k _ (w.set a) ⟨_, a.set, b.put rv⟩ fun q o h hq => by rw [upd_ne hq]; exact h⟩)
theorem e_dput (h : tv σ H fun v H1 => td σ H1 fun x H2 => ty σ H2 fun y H3 => ∃ a H4, x = .ref a ∧ DPut H3 a y v H4 ∧ D.nx σ H4) : sDPut td ty tv D σ H := h
end
/-! ### ways of a test or a truth that meet -/
section
variable {S : Type} {σ : L2.St} {H : Hp} {te ta tb : TE} {tt tu : TT} {Q : VK} {k : Bool → Prop}
theorem e_jnT {f : (Bool → Prop) → Prop} {Qt : Bool → Hp → Prop} (hW : jn f k) (Inv : Bool → Hp → Hp → Prop)
    (h1 : ∀ N : Bool → Hp → Prop, (∀ b F' H', Inv b F' H' → k b → N b H') → f k → tt σ H N) (h2 : ∀ b F' H', Inv b F' H' → k b → Qt b H') : tt σ H Qt :=
  h1 Qt (fun b F' H' q n => h2 b F' H' q n) hW
theorem e_jnV {f : (Bool → Prop) → Prop} (hW : jn f k) (Inv : Bool → Hp → Hp → Prop)
    (h1 : ∀ N : VK, (∀ b F' H', Inv b F' H' → k b → N (.bl b) H') → f k → te σ H N) (h2 : ∀ b F' H', Inv b F' H' → k b → Q (.bl b) H') : te σ H Q :=
  h1 Q (fun b F' H' q n => h2 b F' H' q n) hW
theorem e_tAnd {Qt : Bool → Hp → Prop} (h : tt σ H fun c H1 => if c = true then tu σ H1 Qt else Qt false H1) : tAnd tt tu σ H Qt := h
theorem e_tOr {Qt : Bool → Hp → Prop} (h : tt σ H fun c H1 => if c = true then Qt true H1 else tu σ H1 Qt) : tOr tt tu σ H Qt := h
theorem e_AndV (h : ta σ H fun x H1 => ∃ c, x = .bl c ∧ if c = true then tb σ H1 Q else Q (.bl false) H1) : tAndV ta tb σ H Q := h
theorem e_OrV (h : ta σ H fun x H1 => ∃ c, x = .bl c ∧ if c = true then Q (.bl true) H1 else tb σ H1 Q) : tOrV ta tb σ H Q := h
theorem e_NotV (h : ta σ H fun x H1 => ∃ c, x = .bl c ∧ Q (.bl (!c)) H1) : tNotV ta σ H Q := h
theorem bl_if {b : Bool} {A B : Prop} (h : if b = true then A else B) : ∃ c, V.bl b = .bl c ∧ if c = true then A else B := ⟨b, rfl, h⟩
theorem bl_v {b : Bool} {A : Bool → Prop} (h : A b) : ∃ c, V.bl b = .bl c ∧ A c := ⟨b, rfl, h⟩
end
end Wk

namespace Wk
theorem dec_nt {b : Bool} : (!b) = decide (¬ (b = true)) := by cases b <;> rfl
end Wk

namespace Wk.LR
open PySem PyProof.Rows L2
section
variable {prog : Program} {w : World} {A : Around} {E : Value → Shared → Prop} {s : Shared}
theorem extend_rev {R : Result → Shared → Prop} {it l : Addr} {items : Array Value} (hh : A.handled = none) (hit : s.heap.IsRevIter it l ((items.size : Int) - 1)) (hl : s.heap.IsList l items) (hne : l ≠ it) (hn : items.size ≤ sizeLine) (S : Addr) (res : Value) {c₀ : Nat} (hS : s.heap.get? S = some { cls := .type "list", data := .seq #[] c₀ })
    (hSl : S ≠ l)
    (hR : ∀ h' tk acc' c', (∀ b o, b ≠ S → b ≠ it → s.heap.get? b = some o → h'.get? b = some o) → h'.get? S = some { cls := .type "list", dict := none, data := .seq acc' c', slots := #[] } →
      ItemsOf (fun i v => items[items.size - 1 - i]? = some v) acc' items.size → R (.ok (.ret res)) { s with heap := h', toks := tk }) :
    wpAny (model prog w) A.in1 (Builtin.List.listExtendWith (.ref S) (.ref it) res)
      (fun fin s' => match fin with | .done f => R (.ok f) s' | .again c' => c'.quiet = true ∧ codeAny (model prog w) A c' R s') (fun e s' => R (.error e) s') s := by
  have hT : s.TypeIs (.ref it) "list_reverseiterator" := Heap.IsRevIter.typeIs hit
  have hSi : S ≠ it := fun e => by
    obtain ⟨o, ho, hc⟩ := hT
    rw [← e, hS] at ho; cases ho
    simp at hc
  have W := (Walks.listRev (prog := prog) (w := w) (A := A.in1) hh it l hne items).toS
  have hSf : S ∉ [it, l] := fun hm => by
    rcases List.mem_cons.mp hm with e | hm
    · exact hSi e
    · exact hSl (List.mem_singleton.mp hm)
  have h1 : Builtin.List.listSameRef (.ref S) (.ref it) = false := by simp [Builtin.List.listSameRef, hSi]
  unfold Builtin.List.listExtendWith
  refine wpAny_bind (wpAny_typeOf hT ?_)
  rw [if_neg (by rw [h1]; decide)]
  refine wpAny_bind (wpAny_pyIter_revIter hit ?_)
  refine wpAny_bind (wpAny_holding ?_)
  unfold Builtin.List.listLengthHint
  refine wpAny_bind (wpAny_specialOf hT RT.nolen_lri ?_)
  show wpAny _ A.in1 (specialOf (Value.ref it) (Str.ofString "__length_hint__") >>= _) _ _ _
  refine wpAny_bind (wpAny_specialOf hT RT.hint_lri ?_)
  generalize hid : ("list_reverseiterator.__length_hint__" : String) = id0
  wp_delta
  rw [show splitId id0 = some ("list_reverseiterator", "__length_hint__") from by subst hid; decide +kernel]
  subst hid
  refine wpAny_bind (wpAny_isInstance (b := true) hT (by rw [isSubtype_type]; kernel_rfl) ?_)
  refine wpAny_pure ?_
  rw [if_neg (by decide)]
  have e0 : ((items.size : Nat) : Int) - 1 - ((0 : Nat) : Int) = (items.size : Int) - 1 := by omega
  refine wpAny_pure ⟨plainId_quiet F.plain_extend_loop _, codeAny_extend_loopS W hn _ hSf _ items.size 0 _ _ _ rfl (Nat.zero_le _) ⟨Nat.zero_le _, by rw [e0]; exact hit, hl⟩ hS (ItemsOf.nil _) fun s' acc' c' hm hS' hacc => ?_⟩
  rw [Moved.eq_with hm]
  refine hR s'.heap s'.toks acc' c' (fun b o hb hb2 e => hm.heap b o (fun hmem => ?_) e) hS' hacc
  rcases List.mem_cons.mp hmem with e' | hmem
  · exact hb e'
  · exact hb2 (List.mem_singleton.mp hmem)
theorem call_list_rev {Q : Value → Shared → Prop} {it l : Addr} {items : Array Value} (hh : A.handled = none) (hit : s.heap.IsRevIter it l ((items.size : Int) - 1)) (hl : s.heap.IsList l items) (hne : l ≠ it) (hn : items.size ≤ sizeLine)
    (hQ : ∀ h' tk acc' c', (∀ b o, b ≠ it → s.heap.get? b = some o → h'.get? b = some o) →
      h'.get? s.heap.objs.size = some { cls := .type "list", dict := none, data := .seq acc' c', slots := #[] } → ItemsOf (fun i v => items[items.size - 1 - i]? = some v) acc' items.size → Q (.ref s.heap.objs.size) { s with heap := h', toks := tk }) :
    wpAny (model prog w) A (call (.type "list") [.ref it]) Q E s := by
  refine callType_codes (Q₁ := fun obj s₁ => obj = .ref s.heap.objs.size ∧ s₁ = { s with heap := s.heap.push { cls := .type "list", data := .seq #[] } }) F.called_list (F.typeCall_list_1 _) F.entry_list_init
    (code_list_new _ ⟨rfl, rfl⟩) fun obj s₁ h₁ => ?_
  obtain ⟨rfl, rfl⟩ := h₁
  have hS : (s.heap.push { cls := .type "list", data := .seq #[] }).get? s.heap.objs.size = some { cls := .type "list", data := .seq #[] } := Heap.get?_push_size _ rfl
  have hlt : l < s.heap.objs.size := let ⟨o, e, _⟩ := hl; Heap.lt_size e
  have hSl : s.heap.objs.size ≠ l := fun e => by rw [← e] at hlt; exact Nat.lt_irrefl _ hlt
  refine ⟨⟨_, hS, rfl⟩, F.args_list_init_2 _ _, ?_⟩
  show wpAny _ _ (do let old ← Builtin.List.listItems (.ref s.heap.objs.size); Builtin.List.listUpdate (.ref s.heap.objs.size) (fun _ => #[]); letGo old.toList.reverse; Builtin.List.listExtendWith (.ref s.heap.objs.size) (.ref it) .none) _ _ _
  refine wpAny_bind ?_
  unfold Builtin.List.listItems
  refine wpAny_bind (wpAny_seqItems hS rfl (wpAny_pure ?_))
  show wpAny _ _ (updateSeq s.heap.objs.size (fun _ => #[]) >>= fun _ => letGo (#[] : Array Value).toList.reverse >>= fun _ => Builtin.List.listExtendWith (.ref s.heap.objs.size) (.ref it) .none) _ _ _
  refine wpAny_bind (wpAny_updateSeq hS rfl ?_)
  obtain ⟨c₂, hS₂⟩ : ∃ c, ((s.heap.push { cls := .type "list", data := .seq #[] }).update s.heap.objs.size (Obj.mapSeq (fun _ => (#[] : Array Value)))).get? s.heap.objs.size = some { cls := .type "list", data := .seq #[] c } := ⟨_, Heap.get?_update_self (Obj.mapSeq (fun _ => (#[] : Array Value))) hS rfl⟩
  have oth : ∀ b o, b ≠ s.heap.objs.size → s.heap.get? b = some o → ((s.heap.push { cls := .type "list", data := .seq #[] }).update s.heap.objs.size (Obj.mapSeq (fun _ => (#[] : Array Value)))).get? b = some o :=
    fun b o hb e => (Heap.get?_update_other _ _ (Ne.symm hb)).trans (Heap.get?_push_of_some _ e)
  have oth2 : ∀ b o, s.heap.get? b = some o → ((s.heap.push { cls := .type "list", data := .seq #[] }).update s.heap.objs.size (Obj.mapSeq (fun _ => (#[] : Array Value)))).get? b = some o := fun b o e => oth b o (Nat.ne_of_lt (Heap.lt_size e)) e
  refine wpAny_bind (wpAny_letGo ?_)
  refine extend_rev (A := A.in1) (prog := prog) (w := w) (R := wants (fun r s₂ => r = Value.none ∧ Q (Value.ref s.heap.objs.size) s₂) E) (s := { s with heap := (s.heap.push { cls := .type "list", data := .seq #[] }).update s.heap.objs.size (Obj.mapSeq (fun _ => (#[] : Array Value))) }) (c₀ := c₂) hh (hit.at fun o e => oth2 _ _ e) (hl.at fun o e => oth2 _ _ e) hne hn _ .none hS₂ hSl fun h' tk acc' c' hk hS' hacc => ?_
  exact ⟨rfl, hQ h' tk acc' c' (fun b o hb e => hk b o (Nat.ne_of_lt (Heap.lt_size e)) hb (oth2 b o e)) hS' hacc⟩
end
end Wk.LR
namespace Wk
open PySem L2 PyProof.Rows
def rLstRev (K : PySem.W.Frag) (Q : VK) (v : V) (H1 : Hp) : Prop := ∃ (a : Addr) (xs : List V), v = .ref a ∧ SqL K H1 a xs ∧ ∀ q, H1 q = none → Q (.ref q) (upd H1 q (.lst xs.reverse))
def tLstRev (K : PySem.W.Frag) (te : TE) : TE := fun σ H Q => te σ H (rLstRev K Q)
theorem All.rev {α : Type} {e : Rep α} {F : Hp} : ∀ {vs : List V} {xs : List α}, All e F vs xs → All e F vs.reverse xs.reverse
  | [], [], _ => trivial
  | _ :: _, _ :: _, ⟨a, b⟩ => by rw [List.reverse_cons, List.reverse_cons]; exact (All.rev b).snoc a
  | [], _ :: _, q => q.elim
  | _ :: _, [], q => q.elim
theorem e_lrev {K : PySem.W.Frag} {te : TE} {σ : L2.St} {H : Hp} {Q : VK} (h : te σ H (rLstRev K Q)) : tLstRev K te σ H Q := h
theorem n_lrevX {α : Type} {e : Rep α} {K : PySem.W.Frag} {F0 H0 F H : Hp} {v : V} {xs : List α} {Q : VK} (r : (pL e).r F v xs) (w : Wf F0 H0 F H) (k : ∀ p H', H p = none → Wf F H F H' → XL e H0 F H' p xs.reverse → Q (.ref p) H') : rLstRev K Q v H := by
  obtain ⟨p, vs, rfl, hp, a⟩ := r
  exact ⟨p, vs, rfl, SqL.of (w.f _ _ hp), fun l hl => k l _ hl (Wf.newX w.f hl) ⟨vs.reverse, Xc.mk' w hl, a.rev⟩⟩
theorem n_lrevXX {α : Type} {e : Rep α} {K : PySem.W.Frag} {F0 H0 F H : Hp} {q : Addr} {xs : List α} {Q : VK} (r : XL e H0 F H q xs) (w : Wf F0 H0 F H) (k : ∀ p H', H p = none → Wf F H F H' → XL e H0 F H' p xs.reverse → Q (.ref p) H') : rLstRev K Q (.ref q) H := by
  obtain ⟨vs, hp, a⟩ := r.rd
  exact ⟨q, vs, rfl, SqL.of hp, fun l hl => k l _ hl (Wf.newX w.f hl) ⟨vs.reverse, Xc.mk' w hl, a.rev⟩⟩
section
variable {X : Cx}
theorem pe_lstRev {e : Expr} {te : TE} {p p2 pos pos2 : Pos} (hc : X.calm = true) (hg : Gl X "list") (hm : X.mg "list" = none) (hg2 : Gl X "reversed") (hm2 : X.mg "reversed" = none) (he : PE X e te)
    (hs : starEach [e] X.env = (false, eval e X.env) :: starEach [] X.env := by rfl)
    (hs2 : starEach [.Call (.Name "reversed" p2) [e] [] pos2] X.env = (false, eval (.Call (.Name "reversed" p2) [e] [] pos2) X.env) :: starEach [] X.env := by rfl) :
    PE X (.Call (.Name "list" p) [.Call (.Name "reversed" p2) [e] [] pos2] [] pos) (tLstRev X.K te) := by
  refine ⟨fun pins s σ H Q I h => ?_⟩
  refine Call_ (ld_blt I hg hm PyProof.Rows.boot_list (PyProof.Rows.callWith_type1 (args_cons (Call_ (ld_blt I hg2 hm2 PyProof.Rows.boot_reversed (PyProof.Rows.callWith_type1 (args_cons (thn (he.run pins s σ H _ I h) fun u s1 ⟨v, H1, I1, r1, q1⟩ => args_nil ?_) hs) hs rfl))) hs2) hs2 rfl))
  obtain ⟨a, xs, ev, hq, q⟩ := q1
  subst ev
  obtain rfl : u = Value.ref a := r1
  obtain ⟨its, rv, p', hz⟩ := I1.list hq
  refine call_reversed_list p'.isList (args_nil ?_)
  have k0 : ∀ b o, s1.heap.get? b = some o → (s1.heap.push (revObj a ((its.toArray.size : Int) - 1))).get? b = some o := fun b o e => Heap.get?_push_of_some _ e
  have hl := p'.isList
  obtain ⟨ol, hol, _⟩ := id hl
  have hne : a ≠ s1.heap.objs.size := Nat.ne_of_lt (Heap.lt_size hol)
  have hn : its.toArray.size ≤ sizeLine := by rw [List.size_toArray, ← rv.length]; exact hz
  refine LR.call_list_rev (s := { s1 with heap := s1.heap.push (revObj a ((its.toArray.size : Int) - 1)) }) (I1.ok.hd hc) ⟨_, Heap.get?_push_size _ rfl, rfl, rfl⟩ (hl.push _) hne hn fun h' tk acc c' hk hS hi => ?_
  have hsz : (s1.heap.push (revObj a ((its.toArray.size : Int) - 1))).objs.size = s1.heap.objs.size + 1 := Heap.size_push _ _
  rw [hsz] at hS
  exact ⟨.ref (s1.heap.objs.size + 1), upd H1 (s1.heap.objs.size + 1) (.lst xs.reverse), I1.laid (t' := tk) (fun b u e => hk b u (Nat.ne_of_lt (Heap.lt_size e)) (k0 b u e)) (Nat.le_succ _) (show ObjOk X.prog X.w _ _ _ (.lst xs.reverse) from
    ⟨by rw [List.length_reverse]; exact hz, acc.toList, c', RT.vals_rev rv hi, by rw [Array.toArray_toList]; exact hS⟩), congrArg Value.ref hsz, q _ (I1.hok.fresh (Nat.le_succ _))⟩
end
end Wk
/-! Pl: plain lemmas that no law owns. -/
namespace Wk
section
variable {α β S : Type}
theorem forW_ind {xs : List α} {s : S} {body : α → S → (S → Prop) → (S → Prop) → Prop} {k : S → Prop} (P : List α → S → Prop) (h0 : P [] s)
    (hb : ∀ pre x post s nx bk, xs = pre ++ x :: post → P pre s → (∀ s', P (pre ++ [x]) s' → nx s') → (∀ s', k s' → bk s') → body x s nx bk)
    (hk : ∀ s, P xs s → k s) : forW xs s body k := by
  suffices h : ∀ (post pre : List α) (s : S), xs = pre ++ post → P pre s → forW post s body k from h xs [] s rfl h0
  intro post
  induction post with
  | nil => intro pre s e p; rw [List.append_nil] at e; subst e; exact hk s p
  | cons x post ih => intro pre s e p; exact hb pre x post s _ _ e p (fun s' p' => ih (pre ++ [x]) s' (by rw [e, List.append_assoc]; rfl) p') (fun _ h => h)
theorem forW_foldI {xs : List α} {s : S} {body : α → S → (S → Prop) → (S → Prop) → Prop} {k : S → Prop} (f : S → α → S) (I : S → Prop) (h0 : I s)
    (hb : ∀ x ∈ xs, ∀ s nx bk, I s → (I (f s x) → nx (f s x)) → body x s nx bk) (hi : ∀ x ∈ xs, ∀ s, I s → I (f s x))
    (hk : I (xs.foldl f s) → k (xs.foldl f s)) : forW xs s body k := by
  induction xs generalizing s with
  | nil => exact hk h0
  | cons x xs ih =>
    refine hb x (List.mem_cons_self ..) s _ _ h0 fun h1 => ih (s := f s x) h1 (fun y hy => hb y (List.mem_cons_of_mem _ hy)) (fun y hy => hi y (List.mem_cons_of_mem _ hy)) hk
theorem forW_fold {xs : List α} {s : S} {body : α → S → (S → Prop) → (S → Prop) → Prop} {k : S → Prop} (f : S → α → S)
    (hb : ∀ x ∈ xs, ∀ s nx bk, nx (f s x) → body x s nx bk) (hk : k (xs.foldl f s)) : forW xs s body k :=
  forW_foldI f (fun _ => True) trivial (fun x hx s nx bk _ h => hb x hx s nx bk (h trivial)) (fun _ _ _ _ => trivial) fun _ => hk
theorem forW_unit {xs : List α} {body : α → Unit → (Unit → Prop) → (Unit → Prop) → Prop} {k : Unit → Prop}
    (hb : ∀ x ∈ xs, ∀ nx bk, nx () → body x () nx bk) (hk : k ()) : forW xs () body k :=
  forW_fold (fun s _ => s) (fun x hx _ nx bk h => hb x hx nx bk h) hk
theorem compG_fm {xs : List α} {acc : List β} {b : α → (Option β → Prop) → Prop} {k : List β → Prop} (f : α → Option β) (hb : ∀ x ∈ xs, ∀ kk, kk (f x) → b x kk) (hk : k (acc ++ xs.filterMap f)) : compG xs acc b k := by
  induction xs generalizing acc with
  | nil => simpa [compG] using hk
  | cons x xs ih =>
    refine hb x (List.mem_cons_self ..) _ (ih (fun y hy => hb y (List.mem_cons_of_mem _ hy)) ?_)
    rw [List.filterMap_cons] at hk
    cases h : f x with
    | none => rw [h] at hk; simpa using hk
    | some y => rw [h] at hk; simpa using hk
theorem compW_fm {xs : List α} {b : α → (Option β → Prop) → Prop} {k : List β → Prop} (f : α → Option β) (hb : ∀ x ∈ xs, ∀ kk, kk (f x) → b x kk) (hk : k (xs.filterMap f)) : compW xs b k :=
  compG_fm f hb (by simpa using hk)
theorem compW_map {xs : List α} {b : α → (Option β → Prop) → Prop} {k : List β → Prop} (f : α → β) (hb : ∀ x ∈ xs, ∀ kk, kk (some (f x)) → b x kk) (hk : k (xs.map f)) : compW xs b k :=
  compW_fm (fun x => some (f x)) hb (by rw [show (fun x => some (f x)) = some ∘ f from rfl, List.filterMap_eq_map]; exact hk)
theorem compW_filter {xs : List α} {b : α → (Option α → Prop) → Prop} {k : List α → Prop} (p : α → Bool) (hb : ∀ x ∈ xs, ∀ kk, (p x = true → kk (some x)) → (p x = false → kk none) → b x kk) (hk : k (xs.filter p)) : compW xs b k :=
  compW_fm (fun x => if p x = true then some x else none) (fun x hx kk h => hb x hx kk (fun e => by simpa [e] using h) (fun e => by simpa [e] using h)) (by
    have : (fun x => if p x = true then some x else none) = Option.guard (fun x => p x) := by funext x; by_cases h : p x = true <;> simp [Option.guard, h]
    rw [this, List.filterMap_eq_filter]; exact hk)
theorem whileW_of {test : S → (Bool → Prop) → Prop} {body : S → (S → Prop) → (S → Prop) → Prop} {s : S} {k : S → Prop} (I : S → Prop) (μ : S → Nat) (h0 : I s)
    (hb : ∀ s, I s → test s fun b => if b = true then body s (fun s' => (μ s' < μ s ∧ I s')) k else k s) (hm : ∀ {s p q}, (∀ x, p x → q x) → (test s fun b => if b = true then body s p k else k s) → (test s fun b => if b = true then body s q k else k s)) : whileW test body s k :=
  ⟨fun m s => m = μ s ∧ I s, ⟨_, rfl, h0⟩, fun m s ⟨e, h⟩ => hm (fun s' ⟨a, b⟩ => ⟨μ s', by rw [e]; exact a, rfl, b⟩) (hb s h)⟩
theorem forW_append {xs ys : List α} {s : S} {body : α → S → (S → Prop) → (S → Prop) → Prop} {k : S → Prop} : forW (xs ++ ys) s body k = forW xs s (fun x s nx bk => body x s nx k) (fun s => forW ys s body k) := by
  induction xs generalizing s with
  | nil => rfl
  | cons x xs ih =>
    show body x s (fun s' => forW (xs ++ ys) s' body k) k = body x s (fun s' => forW xs s' _ _) k
    simp only [ih]
/-- a comprehension whose turns are told by what they may give -/
def CR (P : α → Option β → Prop) : List α → List β → Prop
  | [], ys => ys = []
  | x :: xs, ys => ∃ o ys', P x o ∧ ys = o.toList ++ ys' ∧ CR P xs ys'
theorem compG_rel {xs : List α} {acc : List β} {b : α → (Option β → Prop) → Prop} {k : List β → Prop} (P : α → Option β → Prop) (hb : ∀ x ∈ xs, ∀ kk, (∀ o, P x o → kk o) → b x kk) (hk : ∀ ys, CR P xs ys → k (acc ++ ys)) : compG xs acc b k := by
  induction xs generalizing acc with
  | nil => have := hk [] rfl; rwa [List.append_nil] at this
  | cons x xs ih =>
    refine hb x (List.mem_cons_self ..) _ fun o ho => ih (fun y hy => hb y (List.mem_cons_of_mem _ hy)) fun ys hy => ?_
    rw [List.append_assoc]
    exact hk _ ⟨o, ys, ho, rfl, hy⟩
theorem compW_rel {xs : List α} {b : α → (Option β → Prop) → Prop} {k : List β → Prop} (P : α → Option β → Prop) (hb : ∀ x ∈ xs, ∀ kk, (∀ o, P x o → kk o) → b x kk) (hk : ∀ ys, CR P xs ys → k ys) : compW xs b k := compG_rel P hb fun ys h => by rw [List.nil_append]; exact hk ys h
theorem jnI {f : (S → Prop) → Prop} {k : S → Prop} (h : f k) : jn f k := h
/-- a while loop without a measure that must be told -/
theorem whileW_ind {test : S → (Bool → Prop) → Prop} {body : S → (S → Prop) → (S → Prop) → Prop} {s : S} {k : S → Prop} (I : S → Prop) (μ : S → Nat) (h0 : I s)
    (hb : ∀ s (nx : S → Prop), I s → (∀ s', I s' → μ s' < μ s → nx s') → test s fun b => if b = true then body s nx k else k s) : whileW test body s k :=
  ⟨fun m s => m = μ s ∧ I s, ⟨_, rfl, h0⟩, fun m s ⟨e, h⟩ => hb s _ h fun s' h' hl => ⟨μ s', by rw [e]; exact hl, rfl, h'⟩⟩
end
end Wk
/-! Bt: masks as sets of bits. -/
namespace Wk
theorem halfBit (n i : Nat) : (n / 2).testBit i = n.testBit (i + 1) := by rw [Nat.testBit_add_one]
theorem half_xor (a b : Nat) : (a ^^^ b) / 2 = a / 2 ^^^ b / 2 := Nat.eq_of_testBit_eq fun i => by rw [Nat.testBit_xor, halfBit, halfBit, halfBit, Nat.testBit_xor]
theorem half_and (a b : Nat) : (a &&& b) / 2 = a / 2 &&& b / 2 := Nat.eq_of_testBit_eq fun i => by rw [Nat.testBit_and, halfBit, halfBit, halfBit, Nat.testBit_and]
/-- is the number of bits odd? -/
def par (n : Nat) : Bool := if h : n = 0 then false else xor (n.testBit 0) (par (n / 2))
termination_by n
decreasing_by omega
theorem par_zero : par 0 = false := by rw [par]; simp
theorem par_step (n : Nat) : par n = xor (n.testBit 0) (par (n / 2)) := by
  by_cases h : n = 0
  · subst h; simp [par_zero]
  · rw [par, dif_neg h]
theorem par_xor : ∀ a b : Nat, par (a ^^^ b) = xor (par a) (par b) := by
  intro a
  induction a using Nat.strongRecOn with
  | ind a ih =>
    intro b
    by_cases h : a = 0
    · subst h; simp [par_zero]
    · rw [par_step (a ^^^ b), par_step a, par_step b, half_xor, ih (a / 2) (by omega), Nat.testBit_xor]
      cases a.testBit 0 <;> cases b.testBit 0 <;> cases par (a / 2) <;> cases par (b / 2) <;> rfl
theorem par_two_pow (k : Nat) : par (2 ^ k) = true := by
  induction k with
  | zero => rw [par_step]; simp [par_zero]
  | succ k ih =>
    rw [par_step, Nat.testBit_two_pow]
    have e : 2 ^ (k + 1) / 2 = 2 ^ k := by rw [Nat.pow_succ]; omega
    rw [e, ih]; simp
/-- the places of the bits below k -/
def bl (k n : Nat) : List Nat := (List.range k).filter n.testBit
theorem mem_bl {k n j : Nat} : j ∈ bl k n ↔ j < k ∧ n.testBit j = true := by simp [bl, List.mem_filter, List.mem_range]
theorem bl_len (k n : Nat) : (bl k n).length ≤ k := by
  have := List.length_filter_le n.testBit (List.range k)
  rw [List.length_range] at this; exact this
theorem bl_nodup (k n : Nat) : (bl k n).Nodup := (List.nodup_range).filter _
theorem bl_snoc (k n : Nat) : bl (k + 1) n = bl k n ++ if n.testBit k = true then [k] else [] := by
  unfold bl
  rw [List.range_succ, List.filter_append]
  by_cases h : n.testBit k = true
  · rw [if_pos h, List.filter_cons_of_pos h]; rfl
  · rw [if_neg h, List.filter_cons_of_neg h]; rfl
theorem bl_more {p k n : Nat} (h : p ≤ k) (z : n >>> p = 0) : bl k n = bl p n := by
  induction k with
  | zero => have : p = 0 := by omega
            subst this; rfl
  | succ k ih =>
    by_cases e : p = k + 1
    · subst e; rfl
    · rw [bl_snoc, ih (by omega)]
      have : n.testBit k = false := by
        have a : (n >>> p).testBit (k - p) = n.testBit (p + (k - p)) := Nat.testBit_shiftRight ..
        rw [z, Nat.zero_testBit] at a
        rw [show p + (k - p) = k by omega] at a
        exact a.symm
      simp [this]
theorem par_bl {k : Nat} : ∀ {n : Nat}, n < 2 ^ k → par n = decide ((bl k n).length % 2 = 1) := by
  induction k with
  | zero => intro n h; have : n = 0 := by simpa using h
            subst this; simp [par_zero, bl]
  | succ k ih =>
    intro n h
    have e : (bl (k + 1) n).length = (n.testBit 0).toNat + (bl k (n / 2)).length := by
      unfold bl
      rw [List.range_succ_eq_map, List.filter_cons]
      have m : (List.map Nat.succ (List.range k)).filter n.testBit = ((List.range k).filter (n / 2).testBit).map Nat.succ := by
        rw [List.filter_map]
        congr 1
        refine List.filter_congr fun x _ => ?_
        show n.testBit (x + 1) = (n / 2).testBit x
        rw [halfBit]
      rw [m]
      cases n.testBit 0 <;> simp [List.length_map] <;> omega
    rw [par_step, ih (n := n / 2) (by rw [Nat.pow_succ] at h; omega), e]
    cases n.testBit 0
    · simp
    · simp only [Bool.toNat_true]
      by_cases q : (bl k (n / 2)).length % 2 = 1
      · simp [q]; omega
      · simp [q]; omega
/-- the mask of places, each as often as it stands there -/
def mofI (m : Nat) (ps : List Nat) : Nat := ps.foldl (fun m p => m ^^^ 2 ^ p) m
def mof (ps : List Nat) : Nat := mofI 0 ps
theorem mofI_bit (ps : List Nat) (m j : Nat) : (mofI m ps).testBit j = xor (m.testBit j) (decide (ps.count j % 2 = 1)) := by
  induction ps generalizing m with
  | nil => simp [mofI]
  | cons p ps ih =>
    show (mofI (m ^^^ 2 ^ p) ps).testBit j = _
    rw [ih, Nat.testBit_xor, Nat.testBit_two_pow, List.count_cons]
    by_cases h : p = j
    · subst h
      by_cases q : ps.count p % 2 = 1
      · simp [q]; cases m.testBit p <;> simp <;> omega
      · simp [q]; cases m.testBit p <;> simp <;> omega
    · simp [h]
theorem mof_bit (ps : List Nat) (j : Nat) : (mof ps).testBit j = decide (ps.count j % 2 = 1) := by
  unfold mof; rw [mofI_bit, Nat.zero_testBit, Bool.false_xor]
theorem mofI_xor (ps : List Nat) (m : Nat) : mofI m ps = m ^^^ mof ps := Nat.eq_of_testBit_eq fun j => by rw [mofI_bit, Nat.testBit_xor, mof_bit]
theorem mof_append (ps qs : List Nat) : mof (ps ++ qs) = mof ps ^^^ mof qs := Nat.eq_of_testBit_eq fun j => by
  rw [Nat.testBit_xor, mof_bit, mof_bit, mof_bit, List.count_append]
  by_cases a : ps.count j % 2 = 1 <;> by_cases b : qs.count j % 2 = 1 <;> simp [a, b] <;> omega
theorem mof_reverse (ps : List Nat) : mof ps.reverse = mof ps := Nat.eq_of_testBit_eq fun j => by rw [mof_bit, mof_bit, List.count_reverse]
theorem testBit_big {n k j : Nat} (h : n < 2 ^ k) (hj : k ≤ j) : n.testBit j = false := Nat.testBit_lt_two_pow (Nat.lt_of_lt_of_le h (Nat.pow_le_pow_right (by decide) hj))
theorem count_bl {k n j : Nat} : (bl k n).count j = if j < k ∧ n.testBit j = true then 1 else 0 := by
  by_cases h : j < k ∧ n.testBit j = true
  · rw [if_pos h]
    exact Nat.le_antisymm (List.nodup_iff_count.mp (bl_nodup k n) j) (List.count_pos_iff.mpr (mem_bl.mpr h))
  · rw [if_neg h]
    exact List.count_eq_zero.mpr fun z => h (mem_bl.mp z)
theorem mof_bl {k n : Nat} (h : n < 2 ^ k) : mof (bl k n) = n := Nat.eq_of_testBit_eq fun j => by
  rw [mof_bit, count_bl]
  by_cases a : j < k
  · by_cases b : n.testBit j = true <;> simp [a, b]
  · have : n.testBit j = false := testBit_big h (Nat.le_of_not_lt a)
    simp [a, this]
/-! dicts -/
section
variable {κ α : Type} [DecidableEq κ] [KeyT κ]
theorem valT_nil (j : κ) : valT ([] : List (κ × α)) j = none := rfl
theorem valT_app {m : List (κ × α)} {j i : κ} {x : α} (h : hasT m j = false) : valT (m ++ [(j, x)]) i = if j = i then some x else valT m i := by
  induction m with
  | nil => show valT [(j, x)] i = _; rw [valT_cons]
  | cons q m ih =>
    have h' : q.1 ≠ j ∧ hasT m j = false := by
      unfold hasT at h ⊢
      rw [valT_cons] at h
      by_cases e : q.1 = j
      · rw [if_pos e] at h; cases h
      · rw [if_neg e] at h; exact ⟨e, h⟩
    rw [List.cons_append, valT_cons, valT_cons, ih h'.2]
    by_cases e : q.1 = i
    · rw [if_pos e, if_pos e, if_neg]
      intro z; exact h'.1 (e.trans z.symm)
    · rw [if_neg e, if_neg e]
theorem valT_map {m : List (κ × α)} {j i : κ} {x : α} : valT (m.map fun q => if q.1 = j then (q.1, x) else q) i = if j = i ∧ hasT m j = true then some x else valT m i := by
  induction m with
  | nil => show none = _; rw [if_neg (fun z => by cases z.2)]; rfl
  | cons q m ih =>
    rw [List.map_cons, valT_cons, valT_cons, ih]
    have hh : hasT (q :: m) j = if q.1 = j then true else hasT m j := by
      unfold hasT; rw [valT_cons]
      by_cases e : q.1 = j
      · rw [if_pos e, if_pos e]; rfl
      · rw [if_neg e, if_neg e]
    rw [hh]
    by_cases e : q.1 = j
    · rw [if_pos e, if_pos e]
      by_cases f : q.1 = i
      · rw [if_pos f, if_pos ⟨e.symm.trans f, rfl⟩]
      · rw [if_neg f, if_neg (fun z => f (e.trans z.1)), if_neg (fun z => f (e.trans z.1)), if_neg f]
    · rw [if_neg e, if_neg e]
      by_cases f : q.1 = i
      · rw [if_pos f, if_neg (fun z => e (f.trans z.1.symm))]
        rw [if_pos f]
      · rw [if_neg f, if_neg f]
theorem valT_putT {m : List (κ × α)} {j i : κ} {x : α} : valT (putT m j x) i = if j = i then some x else valT m i := by
  unfold putT
  cases h : hasT m j with
  | true =>
    rw [if_pos rfl, valT_map]
    by_cases e : j = i
    · rw [if_pos ⟨e, h⟩, if_pos e]
    · rw [if_neg (fun z => e z.1), if_neg e]
  | false => rw [if_neg (by simp), valT_app h]
theorem hasT_putT {m : List (κ × α)} {j i : κ} {x : α} : hasT (putT m j x) i = (decide (j = i) || hasT m i) := by
  unfold hasT; rw [valT_putT]
  by_cases e : j = i
  · rw [if_pos e, decide_eq_true e]; rfl
  · rw [if_neg e, decide_eq_false e]; rfl
theorem hasT_iff {m : List (κ × α)} {j : κ} : hasT m j = true ↔ j ∈ m.map (·.1) := by
  induction m with
  | nil => exact ⟨fun h => (by cases h), fun h => (by cases h)⟩
  | cons q m ih =>
    unfold hasT at ih ⊢
    rw [valT_cons, List.map_cons, List.mem_cons]
    by_cases e : q.1 = j
    · rw [if_pos e]; exact ⟨fun _ => .inl e.symm, fun _ => rfl⟩
    · rw [if_neg e, ih]; exact ⟨.inr, fun h => h.resolve_left fun z => e z.symm⟩
theorem putT_len {m : List (κ × α)} {j : κ} {x : α} : (putT m j x).length ≤ m.length + 1 := by
  unfold putT
  by_cases h : hasT m j = true
  · rw [if_pos h, List.length_map]; omega
  · rw [if_neg h, List.length_append]; exact Nat.le_refl _
end
theorem NDiv_pow {k : Nat} (h : k < 9000) : NDiv (2 ^ k) := ⟨Nat.two_pow_pos k, by rw [Nat.log2_two_pow]; exact h⟩
end Wk
/-! Gf: sums of masks. -/
namespace Wk
/-! the size of a number -/
theorem bits_zero : bits 0 = 0 := rfl
theorem bits_le {n k : Nat} : bits n ≤ k ↔ n < 2 ^ k := by
  unfold bits
  by_cases h : n = 0
  · subst h; simp [Nat.two_pow_pos]
  · rw [if_neg h]
    exact ⟨fun z => (Nat.log2_lt h).mp (Nat.lt_of_succ_le z), fun z => Nat.succ_le_of_lt ((Nat.log2_lt h).mpr z)⟩
theorem lt_bits (n : Nat) : n < 2 ^ bits n := bits_le.mp (Nat.le_refl _)
theorem bits_pos {n : Nat} (h : n ≠ 0) : 0 < bits n := by unfold bits; rw [if_neg h]; exact Nat.succ_pos _
theorem bits_eq_zero {n : Nat} : bits n = 0 ↔ n = 0 := ⟨fun h => by
  by_cases e : n = 0
  · exact e
  · have := bits_pos e; omega, fun h => by subst h; rfl⟩
theorem bits_ge {n k : Nat} (h : n.testBit k = true) : k < bits n := by
  refine Nat.lt_of_not_le fun z => ?_
  rw [testBit_big (bits_le.mp z) (Nat.le_refl _)] at h; cases h
theorem bits_bit {n : Nat} (h : n ≠ 0) : n.testBit (bits n - 1) = true := by
  have hp := bits_pos h
  have h1 : n < 2 ^ (bits n - 1 + 1) := by rw [Nat.sub_add_cancel hp]; exact lt_bits n
  have h2 : 2 ^ (bits n - 1) ≤ n := by
    refine Nat.le_of_not_lt fun z => ?_
    have := bits_le.mpr z
    omega
  rw [Nat.testBit_eq_decide_div_mod_eq, decide_eq_true_iff]
  have h3 : n / 2 ^ (bits n - 1) = 1 := by
    refine Nat.le_antisymm ?_ ?_
    · refine Nat.le_of_lt_succ (Nat.div_lt_of_lt_mul ?_)
      rw [Nat.pow_succ] at h1; exact h1
    · exact (Nat.one_le_div_iff (Nat.two_pow_pos _)).mpr h2
  rw [h3]
theorem bits_of_bit {n k : Nat} (h : n.testBit k = true) (h2 : n < 2 ^ (k + 1)) : bits n = k + 1 := Nat.le_antisymm (bits_le.mpr h2) (bits_ge h)
theorem bits_xor_ne {u l : Nat} (h : bits u < bits l) : bits (u ^^^ l) = bits l := by
  have hl : l ≠ 0 := fun z => by subst z; rw [bits_zero] at h; omega
  have hp := bits_pos hl
  have e : bits l - 1 + 1 = bits l := Nat.sub_add_cancel hp
  rw [← e]
  refine bits_of_bit ?_ ?_
  · rw [Nat.testBit_xor, bits_bit hl, testBit_big (lt_bits u) (by omega)]; rfl
  · rw [e]; exact Nat.xor_lt_two_pow (Nat.lt_trans (lt_bits u) (Nat.pow_lt_pow_right (by decide) h)) (lt_bits l)
theorem bits_xor_max {u l : Nat} (h : bits u ≠ bits l) : bits (u ^^^ l) = max (bits u) (bits l) := by
  rcases Nat.lt_or_gt_of_ne h with q | q
  · rw [bits_xor_ne q, Nat.max_eq_right (Nat.le_of_lt q)]
  · rw [Nat.xor_comm, bits_xor_ne q, Nat.max_eq_left (Nat.le_of_lt q)]
theorem bits_xor_eq {u l : Nat} (h : bits u = bits l) (hu : u ≠ 0) : bits (u ^^^ l) < bits u := by
  have hl : l ≠ 0 := fun z => by subst z; rw [bits_zero] at h; exact hu (bits_eq_zero.mp h)
  have hp := bits_pos hu
  refine Nat.lt_of_le_of_ne (bits_le.mpr (Nat.xor_lt_two_pow (lt_bits u) (by rw [h]; exact lt_bits l))) fun z => ?_
  have n0 : u ^^^ l ≠ 0 := fun q => by rw [q, bits_zero] at z; omega
  have := bits_bit n0
  rw [z, Nat.testBit_xor, bits_bit hu, h, bits_bit hl] at this
  cases this
theorem xor0 {a b : Nat} (h : a ^^^ b = 0) : a = b := by
  have e : (a ^^^ b) ^^^ b = b := by rw [h, Nat.zero_xor]
  rw [Nat.xor_assoc, Nat.xor_self, Nat.xor_zero] at e; exact e
/-! sums of rows -/
def comb : List Nat → Nat → Nat
  | [], _ => 0
  | r :: rs, S => (if S.testBit 0 = true then r else 0) ^^^ comb rs (S / 2)
theorem comb_xor : ∀ (rs : List Nat) (S T : Nat), comb rs (S ^^^ T) = comb rs S ^^^ comb rs T
  | [], _, _ => by simp [comb]
  | r :: rs, S, T => by
    show (if (S ^^^ T).testBit 0 = true then r else 0) ^^^ comb rs ((S ^^^ T) / 2) = _
    rw [half_xor, comb_xor rs, Nat.testBit_xor]
    show _ = ((if S.testBit 0 = true then r else 0) ^^^ comb rs (S / 2)) ^^^ ((if T.testBit 0 = true then r else 0) ^^^ comb rs (T / 2))
    generalize comb rs (S / 2) = a
    generalize comb rs (T / 2) = b
    cases S.testBit 0 <;> cases T.testBit 0
    · simp
    · simp only [Bool.false_xor, if_true, Bool.false_eq_true, if_false, Nat.zero_xor]
      rw [← Nat.xor_assoc, ← Nat.xor_assoc, Nat.xor_comm a r]
    · simp only [Bool.xor_false, if_true, Bool.false_eq_true, if_false, Nat.zero_xor]
      rw [Nat.xor_assoc]
    · simp only [Bool.xor_self, if_true, Bool.false_eq_true, if_false, Nat.zero_xor]
      rw [Nat.xor_comm r b, ← Nat.xor_assoc, Nat.xor_assoc (r ^^^ a), ]
      rw [Nat.xor_comm r a, Nat.xor_assoc a r, ← Nat.xor_assoc r b r, Nat.xor_comm r b, Nat.xor_assoc b r r, Nat.xor_self, Nat.xor_zero]
theorem comb_zero : ∀ rs : List Nat, comb rs 0 = 0
  | [] => rfl
  | r :: rs => by show (if Nat.testBit 0 0 = true then r else 0) ^^^ comb rs (0 / 2) = 0; rw [Nat.zero_div, comb_zero rs]; simp
theorem comb_ext : ∀ {rs : List Nat} {S T : Nat}, (∀ j, j < rs.length → S.testBit j = T.testBit j) → comb rs S = comb rs T
  | [], _, _, _ => rfl
  | r :: rs, S, T, h => by
    show (if S.testBit 0 = true then r else 0) ^^^ comb rs (S / 2) = (if T.testBit 0 = true then r else 0) ^^^ comb rs (T / 2)
    rw [h 0 (by simp), comb_ext (rs := rs) (S := S / 2) (T := T / 2) fun j hj => by
      rw [halfBit, halfBit]; exact h (j + 1) (by simpa using hj)]
theorem comb_snoc : ∀ (rs : List Nat) (r S : Nat), comb (rs ++ [r]) S = comb rs S ^^^ if S.testBit rs.length = true then r else 0
  | [], r, S => by simp [comb]
  | q :: rs, r, S => by
    show (if S.testBit 0 = true then q else 0) ^^^ comb (rs ++ [r]) (S / 2) = _
    rw [comb_snoc rs, halfBit]
    show _ = ((if S.testBit 0 = true then q else 0) ^^^ comb rs (S / 2)) ^^^ _
    rw [← Nat.xor_assoc]; rfl
theorem comb_lt : ∀ {rs : List Nat} {S k : Nat}, (∀ r ∈ rs, r < 2 ^ k) → comb rs S < 2 ^ k
  | [], _, _, _ => Nat.two_pow_pos _
  | r :: rs, S, k, h => by
    refine Nat.xor_lt_two_pow ?_ (comb_lt fun x hx => h x (List.mem_cons_of_mem _ hx))
    by_cases q : S.testBit 0 = true
    · rw [if_pos q]; exact h r (List.mem_cons_self ..)
    · rw [if_neg q]; exact Nat.two_pow_pos _
theorem comb_pow_len (rs : List Nat) : comb rs (2 ^ rs.length) = 0 := by
  rw [← comb_zero rs]
  refine comb_ext fun j hj => ?_
  rw [Nat.testBit_two_pow, Nat.zero_testBit, decide_eq_false (by omega)]
theorem comb_map (f : Nat → Nat) (h0 : f 0 = 0) (hf : ∀ a b, f (a ^^^ b) = f a ^^^ f b) : ∀ (vs : List Nat) (S : Nat), comb (vs.map f) S = f (comb vs S)
  | [], _ => h0.symm
  | v :: vs, S => by
    show (if S.testBit 0 = true then f v else 0) ^^^ comb (vs.map f) (S / 2) = f ((if S.testBit 0 = true then v else 0) ^^^ comb vs (S / 2))
    rw [comb_map f h0 hf vs, hf]
    by_cases q : S.testBit 0 = true
    · rw [if_pos q, if_pos q]
    · rw [if_neg q, if_neg q, h0]
/-- the sums of the rows -/
def Span (vs : List Nat) (v : Nat) : Prop := ∃ S, comb vs S = v
theorem Span.zero (vs : List Nat) : Span vs 0 := ⟨0, comb_zero vs⟩
theorem Span.xor {vs : List Nat} {u v : Nat} : Span vs u → Span vs v → Span vs (u ^^^ v) := fun ⟨S, a⟩ ⟨T, b⟩ => ⟨S ^^^ T, by rw [comb_xor, a, b]⟩
theorem Span.low {vs : List Nat} {v : Nat} : Span vs v → ∃ S, S < 2 ^ vs.length ∧ comb vs S = v := fun ⟨S, a⟩ => ⟨S % 2 ^ vs.length, Nat.mod_lt _ (Nat.two_pow_pos _), by
  rw [← a]
  refine comb_ext fun j hj => ?_
  rw [Nat.testBit_mod_two_pow, decide_eq_true hj, Bool.true_and]⟩
theorem Span.snoc {vs : List Nat} {r v : Nat} : Span (vs ++ [r]) v ↔ Span vs v ∨ Span vs (v ^^^ r) := by
  constructor
  · rintro ⟨S, h⟩
    rw [comb_snoc] at h
    by_cases q : S.testBit vs.length = true
    · rw [if_pos q] at h
      exact .inr ⟨S, by rw [← h, Nat.xor_assoc, Nat.xor_self, Nat.xor_zero]⟩
    · rw [if_neg q, Nat.xor_zero] at h
      exact .inl ⟨S, h⟩
  · rintro (h | h)
    · obtain ⟨S, hl, e⟩ := h.low
      exact ⟨S, by rw [comb_snoc, testBit_big hl (Nat.le_refl _), e]; simp⟩
    · obtain ⟨S, hl, e⟩ := h.low
      refine ⟨S ^^^ 2 ^ vs.length, ?_⟩
      rw [comb_snoc, comb_xor, comb_pow_len, e, Nat.testBit_xor, testBit_big hl (Nat.le_refl _), Nat.testBit_two_pow, decide_eq_true rfl]
      simp [Nat.xor_assoc]
theorem Span.nil {v : Nat} : Span [] v ↔ v = 0 := ⟨fun ⟨_, h⟩ => h.symm, fun h => by subst h; exact Span.zero _⟩
theorem Span.inj {vs : List Nat} {k : Nat} (f : Nat → Nat) (h0 : f 0 = 0) (hf : ∀ a b, f (a ^^^ b) = f a ^^^ f b) (hi : ∀ a, a < 2 ^ k → f a = 0 → a = 0) (hv : ∀ v ∈ vs, v < 2 ^ k) {v : Nat} (hk : v < 2 ^ k) : Span (vs.map f) (f v) ↔ Span vs v := by
  constructor
  · rintro ⟨S, h⟩
    rw [comb_map f h0 hf] at h
    refine ⟨S, ?_⟩
    have : comb vs S ^^^ v = 0 := hi _ (Nat.xor_lt_two_pow (comb_lt hv) hk) (by rw [hf, h, Nat.xor_self])
    exact xor0 this
  · rintro ⟨S, h⟩
    exact ⟨S, by rw [comb_map f h0 hf, h]⟩
/-- masks with unlike highest bits, rising -/
def Incr (ws : List Nat) : Prop := ws.Pairwise (fun a b => bits a < bits b) ∧ ∀ w ∈ ws, w ≠ 0
theorem Incr.snoc {ws : List Nat} {w : Nat} (h : Incr ws) (hb : ∀ x ∈ ws, bits x < bits w) (h0 : w ≠ 0) : Incr (ws ++ [w]) := ⟨List.pairwise_append.mpr ⟨h.1, List.pairwise_singleton _ _, fun a ha b hb' => by rw [List.mem_singleton.mp hb']; exact hb a ha⟩, fun x hx => by
  rcases List.mem_append.mp hx with q | q
  · exact h.2 x q
  · rw [List.mem_singleton.mp q]; exact h0⟩
theorem comb_snoc_bits {ws : List Nat} {w S : Nat} (hb : ∀ x ∈ ws, bits x < bits w) : bits (comb ws S) < bits w ∨ w = 0 := by
  by_cases h : w = 0
  · exact .inr h
  · left
    have hp := bits_pos h
    refine Nat.lt_of_le_of_lt (bits_le.mpr (comb_lt (k := bits w - 1) fun x hx => ?_)) (by omega)
    have := hb x hx
    exact bits_le.mp (by omega)
theorem Incr.inj : ∀ {ws : List Nat} {S : Nat}, Incr ws → S < 2 ^ ws.length → comb ws S = 0 → S = 0 := by
  intro ws
  induction hn : ws.length generalizing ws with
  | zero => intro S _ hS _; simpa using hS
  | succ n ih =>
    intro S hI hS h
    obtain ⟨us, w, rfl⟩ : ∃ us w, ws = us ++ [w] := ⟨ws.dropLast, ws.getLast (by intro z; subst z; cases hn), (List.dropLast_concat_getLast _).symm⟩
    have hl : us.length = n := by rw [List.length_append] at hn; simpa using hn
    obtain ⟨hp, h0⟩ := hI
    rw [List.pairwise_append] at hp
    have hw : w ≠ 0 := h0 w (List.mem_append_right _ (List.mem_singleton_self _))
    have hb : ∀ x ∈ us, bits x < bits w := fun x hx => hp.2.2 x hx w (List.mem_singleton_self _)
    rw [comb_snoc, hl] at h
    by_cases q : S.testBit n = true
    · rw [if_pos q] at h
      have e := xor0 h
      rcases comb_snoc_bits (S := S) hb with z | z
      · rw [e] at z; exact absurd z (Nat.lt_irrefl _)
      · exact absurd z hw
    · rw [if_neg q, Nat.xor_zero] at h
      have hS' : S < 2 ^ n := by
        refine Nat.lt_pow_two_of_testBit _ fun j hj => ?_
        by_cases e : j = n
        · subst e; simpa using q
        · exact testBit_big hS (by omega)
      exact ih (ws := us) hl ⟨hp.1, fun x hx => h0 x (List.mem_append_left _ hx)⟩ hS' h
/-- the places of rows that are no sums of rows ahead -/
noncomputable def fndP (rs : List Nat) : List Nat := open Classical in (List.range rs.length).filter fun j => decide (¬ Span (rs.take j) (rs.getD j 0))
theorem fndP_nil : fndP [] = [] := rfl
theorem fndP_snoc (rs : List Nat) (r : Nat) : fndP (rs ++ [r]) = fndP rs ++ open Classical in if Span rs r then [] else [rs.length] := by
  classical
  unfold fndP
  rw [List.length_append, List.length_singleton, List.range_succ, List.filter_append]
  congr 1
  · refine List.filter_congr fun j hj => ?_
    have hj' := List.mem_range.mp hj
    rw [List.take_append_of_le_length (Nat.le_of_lt hj'), List.getD_eq_getElem?_getD, List.getD_eq_getElem?_getD, List.getElem?_append_left hj']
  · have e1 : (rs ++ [r]).take rs.length = rs := by rw [List.take_append_of_le_length (Nat.le_refl _), List.take_length]
    have e2 : (rs ++ [r]).getD rs.length 0 = r := by rw [List.getD_eq_getElem?_getD, List.getElem?_append_right (Nat.le_refl _), Nat.sub_self]; rfl
    by_cases q : Span rs r
    · rw [if_pos q, List.filter_cons_of_neg (by rw [e1, e2]; simpa using q)]; rfl
    · rw [if_neg q, List.filter_cons_of_pos (by rw [e1, e2]; simpa using q)]; rfl
theorem fndP_len (rs : List Nat) : (fndP rs).length ≤ rs.length := by
  unfold fndP
  have := List.length_filter_le (fun j => open Classical in decide (¬ Span (rs.take j) (rs.getD j 0))) (List.range rs.length)
  rw [List.length_range] at this; exact this
theorem fndP_congr {rs qs : List Nat} (hl : rs.length = qs.length) (h : ∀ j, j < rs.length → (Span (rs.take j) (rs.getD j 0) ↔ Span (qs.take j) (qs.getD j 0))) : fndP rs = fndP qs := by
  classical
  unfold fndP
  rw [← hl]
  refine List.filter_congr fun j hj => ?_
  rw [decide_eq_decide, h j (List.mem_range.mp hj)]
theorem fndP_map {rs : List Nat} {k : Nat} (f : Nat → Nat) (h0 : f 0 = 0) (hf : ∀ a b, f (a ^^^ b) = f a ^^^ f b) (hi : ∀ a, a < 2 ^ k → f a = 0 → a = 0) (hv : ∀ v ∈ rs, v < 2 ^ k) : fndP (rs.map f) = fndP rs := by
  refine fndP_congr (List.length_map _) fun j hj => ?_
  rw [List.length_map] at hj
  rw [← List.map_take]
  have e : (rs.map f).getD j 0 = f (rs.getD j 0) := by
    rw [List.getD_eq_getElem?_getD, List.getD_eq_getElem?_getD, List.getElem?_map, List.getElem?_eq_getElem hj]; rfl
  rw [e]
  have hm : rs.getD j 0 ∈ rs := by rw [List.getD_eq_getElem?_getD, List.getElem?_eq_getElem hj]; exact List.getElem_mem hj
  exact Span.inj f h0 hf hi (fun v hv' => hv v (List.mem_of_mem_take hv')) (hv _ hm)
/-- numbers below k, none twice: at most k of them -/
theorem nodup_len : ∀ {k : Nat} {l : List Nat}, l.Nodup → (∀ x ∈ l, x < k) → l.length ≤ k
  | 0, l, _, h => by cases l with
    | nil => exact Nat.le_refl _
    | cons x l => exact absurd (h x (List.mem_cons_self ..)) (Nat.not_lt_zero _)
  | k + 1, l, hn, h => by
    have h1 : (l.erase k).length ≤ k := nodup_len (hn.erase k) fun x hx => by
      have hm := List.mem_of_mem_erase hx
      have := h x hm
      have hk : x ≠ k := fun z => by subst z; exact (List.Nodup.not_mem_erase hn) hx
      omega
    have h2 : l.length ≤ (l.erase k).length + 1 := by
      by_cases q : k ∈ l
      · rw [List.length_erase_of_mem q]; omega
      · rw [List.erase_of_not_mem q]; omega
    omega
end Wk
/-! Po: polynomials over two elements, as masks. -/
namespace Wk
def pm (a b : Nat) : Nat := if h : b = 0 then 0 else (if b.testBit 0 = true then a else 0) ^^^ pm (2 * a) (b / 2)
termination_by b
decreasing_by omega
theorem pm_zero (a : Nat) : pm a 0 = 0 := by rw [pm]; simp
theorem pm_step (a b : Nat) : pm a b = (if b.testBit 0 = true then a else 0) ^^^ pm (2 * a) (b / 2) := by
  by_cases h : b = 0
  · subst h; simp [pm_zero]
  · rw [pm, dif_neg h]
theorem two_xor (a b : Nat) : 2 * (a ^^^ b) = 2 * a ^^^ 2 * b := Nat.eq_of_testBit_eq fun i => by
  rw [Nat.testBit_xor]
  cases i with
  | zero => simp [Nat.testBit_zero]
  | succ i => rw [Nat.testBit_add_one, Nat.testBit_add_one, Nat.testBit_add_one]; simp [Nat.testBit_xor]
theorem ifx {c : Bool} {a b : Nat} : (if c = true then a ^^^ b else 0) = (if c = true then a else 0) ^^^ (if c = true then b else 0) := by cases c <;> simp
theorem xor_swap (a b c d : Nat) : (a ^^^ b) ^^^ (c ^^^ d) = (a ^^^ c) ^^^ (b ^^^ d) := by
  rw [Nat.xor_assoc, ← Nat.xor_assoc b c d, Nat.xor_comm b c, Nat.xor_assoc c b d, ← Nat.xor_assoc]
theorem pm_xor_r (b : Nat) : ∀ a c : Nat, pm a (b ^^^ c) = pm a b ^^^ pm a c := by
  induction b using Nat.strongRecOn with
  | ind b ih =>
    intro a c
    by_cases h : b = 0
    · subst h; rw [Nat.zero_xor, pm_zero, Nat.zero_xor]
    · rw [pm_step a (b ^^^ c), pm_step a b, pm_step a c, half_xor, ih (b / 2) (by omega), Nat.testBit_xor, xor_swap]
      congr 1
      cases b.testBit 0 <;> cases c.testBit 0 <;> simp
theorem pm_xor_l (c : Nat) : ∀ a b : Nat, pm (a ^^^ b) c = pm a c ^^^ pm b c := by
  induction c using Nat.strongRecOn with
  | ind c ih =>
    intro a b
    by_cases h : c = 0
    · subst h; simp [pm_zero]
    · rw [pm_step (a ^^^ b), pm_step a c, pm_step b c, two_xor, ih (c / 2) (by omega), ifx, xor_swap]
theorem pm_dbl (b : Nat) : ∀ a, pm (2 * a) b = 2 * pm a b := by
  induction b using Nat.strongRecOn with
  | ind b ih =>
    intro a
    by_cases h : b = 0
    · subst h; simp [pm_zero]
    · rw [pm_step (2 * a), pm_step a, ih (b / 2) (by omega), two_xor]
      congr 1
      cases b.testBit 0 <;> simp
theorem pm_half (a b : Nat) : pm a b = (if b.testBit 0 = true then a else 0) ^^^ 2 * pm a (b / 2) := by rw [pm_step, pm_dbl]
theorem pm_zero_l (b : Nat) : pm 0 b = 0 := by
  induction b using Nat.strongRecOn with
  | ind b ih =>
    by_cases h : b = 0
    · subst h; exact pm_zero 0
    · rw [pm_half, ih (b / 2) (by omega)]; simp
theorem pm_one_l (b : Nat) : pm 1 b = b := by
  induction b using Nat.strongRecOn with
  | ind b ih =>
    by_cases h : b = 0
    · subst h; exact pm_zero 1
    · rw [pm_half, ih (b / 2) (by omega), Nat.testBit_zero]
      rcases Nat.mod_two_eq_zero_or_one b with e | e
      · rw [if_neg (by simp [e]), Nat.zero_xor]; omega
      · rw [if_pos (by simp [e])]
        have : 1 ^^^ 2 * (b / 2) = 2 * (b / 2) + 1 := Nat.eq_of_testBit_eq fun i => by
          rw [Nat.testBit_xor]
          cases i with
          | zero => simp [Nat.testBit_zero]
          | succ i =>
            rw [Nat.testBit_add_one, Nat.testBit_add_one, Nat.testBit_add_one]
            have a : (2 * (b / 2) + 1) / 2 = 2 * (b / 2) / 2 := by omega
            rw [a]; simp
        rw [this]; omega
theorem dbl_half (b : Nat) : b = (if b.testBit 0 = true then 1 else 0) ^^^ 2 * (b / 2) := by
  have := pm_half 1 b
  rw [pm_one_l, pm_one_l] at this; exact this
theorem pm_comm (b : Nat) : ∀ a, pm a b = pm b a := by
  induction b using Nat.strongRecOn with
  | ind b ih =>
    intro a
    by_cases h : b = 0
    · subst h; rw [pm_zero, pm_zero_l]
    · rw [pm_half a b, ih (b / 2) (by omega)]
      conv => rhs; rw [dbl_half b]
      rw [pm_xor_l, pm_dbl]
      congr 1
      cases b.testBit 0 <;> simp [pm_one_l, pm_zero_l]
theorem pm_assoc (c : Nat) : ∀ a b, pm (pm a b) c = pm a (pm b c) := by
  induction c using Nat.strongRecOn with
  | ind c ih =>
    intro a b
    by_cases h : c = 0
    · subst h; simp [pm_zero]
    · rw [pm_half (pm a b) c, pm_half b c, pm_xor_r, ih (c / 2) (by omega)]
      congr 1
      · cases c.testBit 0 <;> simp [pm_zero]
      · rw [pm_comm (2 * pm b (c / 2)), pm_dbl, pm_comm a]
theorem pm_pow (a k : Nat) : pm a (2 ^ k) = a <<< k := by
  induction k with
  | zero => rw [Nat.pow_zero, pm_comm, pm_one_l, Nat.shiftLeft_zero]
  | succ k ih =>
    rw [pm_half, Nat.testBit_two_pow, decide_eq_false (by omega), Nat.pow_succ, Nat.mul_div_cancel _ (by decide), ih]
    simp [Nat.shiftLeft_eq, Nat.pow_succ, Nat.mul_comm, Nat.mul_left_comm]
theorem bits_shl {a : Nat} (h : a ≠ 0) (k : Nat) : bits (a <<< k) = bits a + k := by
  have hp := bits_pos h
  have e : bits a + k = (bits a - 1 + k) + 1 := by omega
  rw [e]
  refine bits_of_bit ?_ ?_
  · rw [Nat.testBit_shiftLeft, decide_eq_true (by omega), Bool.true_and, show bits a - 1 + k - k = bits a - 1 by omega]
    exact bits_bit h
  · rw [Nat.shiftLeft_eq, show bits a - 1 + k + 1 = bits a + k by omega, Nat.pow_add]
    exact Nat.mul_lt_mul_of_pos_right (lt_bits a) (Nat.two_pow_pos k)
theorem bits_pm (b : Nat) : ∀ a, a ≠ 0 → b ≠ 0 → bits (pm a b) + 1 = bits a + bits b := by
  induction b using Nat.strongRecOn with
  | ind b ih =>
    intro a ha hb
    have hp := bits_pos hb
    have hpa := bits_pos ha
    generalize hk : bits b - 1 = k
    have tb : b.testBit k = true := by rw [← hk]; exact bits_bit hb
    have e : b = (b ^^^ 2 ^ k) ^^^ 2 ^ k := by rw [Nat.xor_assoc, Nat.xor_self, Nat.xor_zero]
    have bp : bits (2 ^ k) = k + 1 := bits_of_bit (by rw [Nat.testBit_two_pow]; simp) (Nat.pow_lt_pow_right (by decide) (Nat.lt_succ_self _))
    have lt : bits (b ^^^ 2 ^ k) < bits b := bits_xor_eq (by rw [bp]; omega) hb
    have ltn : b ^^^ 2 ^ k < b := by
      have h1 : b ^^^ 2 ^ k < 2 ^ k := bits_le.mp (by omega)
      have h2 : 2 ^ k ≤ b := by
        refine Nat.le_of_not_lt fun z => ?_
        have := bits_le.mpr z
        omega
      omega
    have e1 : pm a b = pm a (b ^^^ 2 ^ k) ^^^ a <<< k := by
      conv => lhs; rw [e]
      rw [pm_xor_r, pm_pow]
    have s := bits_shl ha k
    have l2 : bits (pm a (b ^^^ 2 ^ k)) < bits (a <<< k) := by
      by_cases z : b ^^^ 2 ^ k = 0
      · rw [z, pm_zero, bits_zero, s]; omega
      · have := ih _ ltn a ha z
        rw [s]; omega
    rw [e1, bits_xor_ne l2, s]; omega
theorem pm_ne {a b : Nat} (ha : a ≠ 0) (hb : b ≠ 0) : pm a b ≠ 0 := fun z => by
  have := bits_pm b a ha hb
  rw [z, bits_zero] at this
  have := bits_pos ha
  have := bits_pos hb
  omega
theorem bits_pm_le (a b : Nat) : bits (pm a b) ≤ bits a + bits b := by
  by_cases ha : a = 0
  · subst ha; rw [pm_zero_l, bits_zero]; omega
  · by_cases hb : b = 0
    · subst hb; rw [pm_zero, bits_zero]; omega
    · have := bits_pm b a ha hb; omega
/-- d goes into a -/
def Dv (d a : Nat) : Prop := ∃ q, pm q d = a
theorem Dv.zero (d : Nat) : Dv d 0 := ⟨0, pm_zero_l d⟩
theorem Dv.rfl' (d : Nat) : Dv d d := ⟨1, pm_one_l d⟩
theorem Dv.xor {d a b : Nat} : Dv d a → Dv d b → Dv d (a ^^^ b) := fun ⟨q, h⟩ ⟨r, k⟩ => ⟨q ^^^ r, by rw [pm_xor_l, h, k]⟩
theorem Dv.mul {d a : Nat} (c : Nat) : Dv d a → Dv d (pm a c) := fun ⟨q, h⟩ => ⟨pm q c, by rw [pm_assoc, pm_comm d, ← pm_assoc, h]⟩
theorem Dv.mul' {d a : Nat} (c : Nat) (h : Dv d a) : Dv d (pm c a) := by rw [pm_comm]; exact h.mul c
theorem Dv.tr {a b c : Nat} : Dv a b → Dv b c → Dv a c := fun ⟨q, h⟩ ⟨r, k⟩ => ⟨pm r q, by rw [pm_assoc, h, k]⟩
theorem Dv.le {d a : Nat} (h : Dv d a) (ha : a ≠ 0) : bits d ≤ bits a ∧ d ≠ 0 := by
  obtain ⟨q, rfl⟩ := h
  have hq : q ≠ 0 := fun z => ha (by rw [z, pm_zero_l])
  have hd : d ≠ 0 := fun z => ha (by rw [z, pm_zero])
  have := bits_pm d q hq hd
  have := bits_pos hq
  exact ⟨by omega, hd⟩
theorem Dv.eq {d a : Nat} (h : Dv d a) (hb : bits a ≤ bits d) : a = d ∨ a = 0 := by
  by_cases ha : a = 0
  · exact .inr ha
  · left
    obtain ⟨q, rfl⟩ := h
    have hq : q ≠ 0 := fun z => ha (by rw [z, pm_zero_l])
    have hd : d ≠ 0 := fun z => ha (by rw [z, pm_zero])
    have := bits_pm d q hq hd
    have q1 : bits q ≤ 1 := by omega
    have : q < 2 := bits_le.mp q1
    have : q = 1 := by omega
    rw [this, pm_one_l]
theorem Dv.anti {a b : Nat} (h : Dv a b) (k : Dv b a) : a = b := by
  by_cases hb : b = 0
  · subst hb
    obtain ⟨q, h⟩ := k
    rw [← h, pm_zero]
  · have ha : a ≠ 0 := (h.le hb).2
    rcases h.eq (k.le ha).1 with e | e
    · exact e.symm
    · exact absurd e hb
/-- the rest is one alone -/
theorem rest_one {o q r q' r' : Nat} (hr : bits r < bits o) (hr' : bits r' < bits o) (e : pm q o ^^^ r = pm q' o ^^^ r') : q = q' ∧ r = r' := by
  have e1 : pm (q ^^^ q') o = r ^^^ r' := by
    rw [pm_xor_l]
    have : (pm q o ^^^ r) ^^^ (pm q' o ^^^ r') = 0 := by rw [e, Nat.xor_self]
    rw [xor_swap] at this
    exact xor0 this
  have ho : o ≠ 0 := fun z => by rw [z, bits_zero] at hr; omega
  have hl : bits (r ^^^ r') < bits o := by
    have h1 : r < 2 ^ (bits o - 1) := bits_le.mp (by omega)
    have h2 : r' < 2 ^ (bits o - 1) := bits_le.mp (by omega)
    have := bits_le.mpr (Nat.xor_lt_two_pow h1 h2)
    omega
  by_cases hq : q ^^^ q' = 0
  · have := xor0 hq
    subst this
    rw [Nat.xor_self, pm_zero_l] at e1
    exact ⟨rfl, xor0 e1.symm⟩
  · have := bits_pm o _ hq ho
    rw [e1] at this
    have := bits_pos hq
    omega
end Wk
/-! Ob: walks of any kind, objects with fields, things that are only read. -/
namespace Wk
open PySem L2
section
variable {α β S : Type} {K : PySem.W.Frag} {σ : L2.St} {F0 H0 F F' H H' : Hp} {te tl ta tb to : TE} {tt tc : TT} {tA : TA} {Q : VK} {v w u : V} {xs ys : List α} {x y : α} {D : Ends} {tu : TS} {p q : Addr} {n : Nat} {i : Int} {g : TG} {J : It} {e : Rep α} {b : Rep β} {zs : List β} {o : HO}
/-! ### walks -/
def kFor (g : TG) (tu : TS) (D : Ends) (σ : L2.St) (J : It) (H : Hp) : Prop := ∃ W : Nat → Nat → L2.St → Hp → Prop, (∃ m, W 0 m σ H) ∧ ∀ i m σ H, W i m σ H →
  (J.stop i H ∧ D.nx σ H) ∨ (J.go i H ∧ ∃ N : L2.St → Hp → Prop, (∀ σ' H', N σ' H' → ∃ m', m' < m ∧ W (i + 1) m' σ' H') ∧ ∀ x H', J.yld i H x H' → g x σ H' fun σ2 H2 => tu { D with nx := N, ct := N, bk := D.nx } σ2 H2)
def kCp (g : TG) (tc : TT) (te : TE) (vs : List Nat) (σ : L2.St) (Q : VK) (J : It) (H : Hp) : Prop := ∀ D, H D = none → ∃ W : Nat → Nat → Hp → Prop, (∃ m, W 0 m (upd H D (.lst []))) ∧ ∀ i m H, W i m H →
  (J.stop i H ∧ Q (.ref D) H) ∨ (J.go i H ∧ ∃ Nx : Hp → Prop, (∀ H', Nx H' → ∃ m', m' < m ∧ W (i + 1) m' H') ∧ ∀ x H', J.yld i H x H' → g x (wipe σ vs) H' fun σ2 H2 => wipe σ2 vs = wipe σ vs ∧ tc σ2 H2 fun b H3 =>
    if b = true then te σ2 H3 fun y H4 => ∃ acc, H4 D = some (.lst acc) ∧ acc.length < sizeLine ∧ Nx (upd H4 D (.lst (acc ++ [y]))) else Nx H3)
/-- a walk over frozen things: its turns give the items of zs -/
def TWk (J : It) (F : Hp) (b : Rep β) (zs : List β) : Prop := ∃ G Y, Walk J zs.length G Y ∧ (∀ F' H', Ex F F' → Ex F' H' → G H') ∧
  ∀ i H x H' F', i < zs.length → Ex F F' → Ex F' H → Y i H x H' → ∃ z F1, zs[i]? = some z ∧ Wf F' H F1 H' ∧ b.r F1 x z
theorem f_J {wi : TI} (h : wi σ H (kFor g tu D σ)) : tFor wi g tu D σ H := h
theorem c_J {wi : TI} {vs : List Nat} (h : wi σ H (kCp g tc te vs σ Q)) : tLc wi g tc te vs σ H Q := h
theorem w_forG {s0 : S} {k : S → Prop} {body : β → S → (S → Prop) → (S → Prop) → Prop} (T : TWk J F b zs) (Inv : S → L2.St → Hp → Hp → Prop) (hW : forW zs s0 body k) (h0 : Inv s0 σ F H)
    (ex : ∀ s σ' F' H', Inv s σ' F' H' → Ex F F' ∧ Ex F' H') (f : Ex F H)
    (turn : ∀ (N Bk : L2.St → Hp → Prop) x u s σ' F' H' F1 H1 (nx bk : S → Prop), Inv s σ' F' H' → x ∈ zs → Wf F' H' F1 H1 → b.r F1 u x → body x s nx bk → (∀ s' σ2 F2 H2, Inv s' σ2 F2 H2 → nx s' → N σ2 H2) → (∀ s' σ2 F2 H2, Inv s' σ2 F2 H2 → bk s' → Bk σ2 H2) →
      g u σ' H1 fun σ2 H2 => tu { D with nx := N, ct := N, bk := Bk } σ2 H2)
    (done : ∀ s σ' F' H', Inv s σ' F' H' → k s → D.nx σ' H') : kFor g tu D σ J H := by
  obtain ⟨G, Y, wk, hG, hY⟩ := T
  refine for_it wk (fun i σ' H' => ∃ s F', Inv s σ' F' H' ∧ forW (zs.drop i) s body k) ⟨s0, F, h0, hW⟩ (fun i σ' H' _ ⟨s, F', hI, _⟩ => hG F' H' (ex _ _ _ _ hI).1 (ex _ _ _ _ hI).2) ?_ ?_
  · rintro i u σ' H' H1 hi ⟨s, F', hI, hw⟩ hy
    obtain ⟨x, F1, hx, q, rx⟩ := hY i H' u H1 F' hi (ex _ _ _ _ hI).1 (ex _ _ _ _ hI).2 hy
    have e : zs.drop i = x :: zs.drop (i + 1) := by
      obtain ⟨h1, h2⟩ := List.getElem?_eq_some_iff.mp hx
      rw [← h2]; exact List.drop_eq_getElem_cons h1
    rw [e] at hw
    exact turn _ _ x u s σ' F' H' F1 H1 _ _ hI (List.mem_of_getElem? hx) q rx hw (fun s' σ2 F2 H2 q n => ⟨s', F2, q, n⟩) (fun s' σ2 F2 H2 q n => done s' σ2 F2 H2 q n)
  · rintro σ' H' ⟨s, F', hI, hw⟩
    rw [List.drop_of_length_le (Nat.le_refl _)] at hw
    exact done _ _ _ _ hI hw
theorem w_compG {vs : List Nat} {bd : β → (Option α → Prop) → Prop} {kk : List α → Prop} (T : TWk J F b zs) (w : Wf F0 H0 F H) (hn : zs.length < 1000000) (hW : compW zs bd kk)
    (turn : ∀ (Qy : V → Hp → Prop) (Qn : Hp → Prop) x u F1 H1 (R : Option α → Prop), Wf F H F1 H1 → x ∈ zs → b.r F1 u x → bd x R → (∀ y z F2 H2, Wf F1 H1 F2 H2 → e.r F2 y z → R (some z) → Qy y H2) → (∀ F2 H2, Wf F1 H1 F2 H2 → R none → Qn H2) →
      g u (wipe σ vs) H1 fun σ2 H2 => wipe σ2 vs = wipe σ vs ∧ tc σ2 H2 fun b H3 => if b = true then te σ2 H3 Qy else Qn H3)
    (done : ∀ p ys F' H', H p = none → Wf F H F' H' → XL e H0 F' H' p ys → kk ys → Q (.ref p) H') : kCp g tc te vs σ Q J H := by
  obtain ⟨G, Y, wk, hG, hY⟩ := T
  intro D hD
  refine lc_it wk (fun i H' => ∃ F' ac ys, Wf F H F' H' ∧ Xc H F' H' D (.lst ac) ∧ All e F' ac ys ∧ ys.length ≤ i ∧ compG (zs.drop i) ys bd kk)
    ⟨F, [], [], Wf.newX w.f hD, Xc.mk' (Wf.id w.f) hD, trivial, Nat.le_refl _, hW⟩ (fun i H' _ ⟨F', ac, ys, q, _⟩ => hG F' H' q.g q.f) ?_ ?_
  · rintro i u H' H1 hi ⟨F', ac, ys, q, xc, al, hl, hw⟩ hy
    obtain ⟨x, F1, hx, q1, rx⟩ := hY i H' u H1 F' hi q.g q.f hy
    have e' : zs.drop i = x :: zs.drop (i + 1) := by
      obtain ⟨h1, h2⟩ := List.getElem?_eq_some_iff.mp hx
      rw [← h2]; exact List.drop_eq_getElem_cons h1
    rw [e'] at hw
    have xc1 := xc.step q1
    have al1 := al.mono q1.g
    refine turn _ _ x u F1 H1 _ (q.tr q1) (List.mem_of_getElem? hx) rx hw (fun y z F2 H2 s ry hR => ?_) (fun F2 H2 s hR => ?_)
    · have xc2 := xc1.step s
      exact ⟨ac, xc2.h, by rw [al.len]; exact small_len (by omega), F2, ac ++ [y], ys ++ [z], ((q.tr q1).tr s).set xc2, xc2.set, (al1.mono s.g).snoc ry, by rw [List.length_append]; exact Nat.succ_le_succ hl, hR⟩
    · exact ⟨F2, ac, ys, (q.tr q1).tr s, xc1.step s, al1.mono s.g, Nat.le_succ_of_le hl, by simpa using hR⟩
  · rintro H' ⟨F', ac, ys, q, xc, al, hl, hw⟩
    rw [List.drop_of_length_le (Nat.le_refl _)] at hw
    exact done D ys F' H' hD q ⟨ac, ⟨w.h.non hD, xc.n, xc.h⟩, al⟩ hw
/-! sources -/
theorem TWk.pairs {γ δ : Type} {c : Rep γ} {d : Rep δ} {G : Hp → Prop} {X Y : Nat → Option V} {us : List (γ × δ)} (wk : Walk J us.length G (YPair X Y)) (hG : ∀ F' H', Ex F F' → Ex F' H' → G H')
    (hx : ∀ i F' x, Ex F F' → i < us.length → X i = some x → ∃ z, (us[i]?.map Prod.fst) = some z ∧ c.r F' x z) (hy : ∀ i F' x, Ex F F' → i < us.length → Y i = some x → ∃ z, (us[i]?.map Prod.snd) = some z ∧ d.r F' x z) : TWk J F (pT2 c d) us := by
  refine ⟨G, _, wk, hG, fun i H v H' F' hi f g hy' => ?_⟩
  obtain ⟨T, x, y, rfl, hT, rfl, h1, h2⟩ := hy'
  obtain ⟨z1, e1, r1⟩ := hx i F' x f hi h1
  obtain ⟨z2, e2, r2⟩ := hy i F' y f hi h2
  have e : us[i]? = some (z1, z2) := by
    cases q : us[i]? with
    | none => rw [q] at e1; cases e1
    | some t =>
      rw [q] at e1 e2
      have a : t.1 = z1 := Option.some.inj e1
      have b : t.2 = z2 := Option.some.inj e2
      rw [← a, ← b]
  exact ⟨(z1, z2), _, e, Wf.new g hT, ⟨T, x, y, rfl, upd_same, c.mono (Ex.new (g.non hT)) r1, d.mono (Ex.new (g.non hT)) r2⟩⟩
def enumT (xs : List α) : List (Nat × α) := (List.range xs.length).zip xs
theorem enumT_len (xs : List α) : (enumT xs).length = xs.length := by unfold enumT; rw [List.length_zip, List.length_range]; exact Nat.min_self _
theorem enumT_get (xs : List α) (i : Nat) : (enumT xs)[i]? = xs[i]?.map fun x => (i, x) := by
  show ((List.range xs.length).zip xs)[i]? = _
  by_cases h : i < xs.length
  · have h2 : i < ((List.range xs.length).zip xs).length := by rw [List.length_zip, List.length_range]; omega
    rw [List.getElem?_eq_getElem h2, List.getElem?_eq_getElem h, List.getElem_zip, List.getElem_range]; rfl
  · rw [List.getElem?_eq_none (by rw [List.length_zip, List.length_range]; omega), List.getElem?_eq_none (by omega)]; rfl
/-- enumerate(xs) -/
theorem src_enum {R : It → Hp → Prop} (r : (pL e).r F v xs) (f : Ex F H) (k : ∀ a, TWk (Ite K a) F (pT2 pN e) (enumT xs) → R (Ite K a) H) : ∃ a ws, [v] = [V.ref a] ∧ SqL K H a ws ∧ R (Ite K a) H := by
  obtain ⟨p, vs, rfl, hp, a⟩ := r
  refine ⟨p, vs, rfl, SqL.of (f _ _ hp), k p ?_⟩
  refine TWk.pairs (G := fun H => SqL K H p vs) (X := fun i => some (.int (i : Nat))) (Y := fun i => vs[i]?) (by rw [enumT_len, ← a.len]; exact walk_enum) (fun F' H' h1 h2 => SqL.of (h2 _ _ (h1 _ _ hp))) ?_ ?_
  · intro i F' x _ hi hx
    rw [enumT_len] at hi
    rw [enumT_get, List.getElem?_eq_getElem hi]
    exact ⟨i, rfl, (Option.some.inj hx).symm⟩
  · intro i F' x h1 hi hx
    obtain ⟨z, hz, rz⟩ := a.got hx
    rw [enumT_get, hz]
    exact ⟨z, rfl, e.mono h1 rz⟩
/-- zip(xs, ys) -/
theorem src_zip {γ : Type} {c : Rep γ} {us : List γ} {R : It → Hp → Prop} (r : (pL e).r F v xs) (s : (pL c).r F w us) (f : Ex F H) (k : ∀ a b, TWk (Itz K a b) F (pT2 e c) (xs.zip us) → R (Itz K a b) H) : ∃ a b ws us, [v, w] = [V.ref a, V.ref b] ∧ SqL K H a ws ∧ SqL K H b us ∧ R (Itz K a b) H := by
  obtain ⟨p, vs, rfl, hp, a⟩ := r
  obtain ⟨q, ws, rfl, hq, b⟩ := s
  refine ⟨p, q, vs, ws, rfl, SqL.of (f _ _ hp), SqL.of (f _ _ hq), k p q ?_⟩
  refine TWk.pairs (G := fun H => SqL K H p vs ∧ SqL K H q ws) (X := fun i => vs[i]?) (Y := fun i => ws[i]?) (walk_zip (by rw [List.length_zip, a.len, b.len])) (fun F' H' h1 h2 => ⟨SqL.of (h2 _ _ (h1 _ _ hp)), SqL.of (h2 _ _ (h1 _ _ hq))⟩) ?_ ?_
  · intro i F' x h1 hi hx
    obtain ⟨z, hz, rz⟩ := a.got hx
    obtain ⟨u, hu⟩ : ∃ u, us[i]? = some u := ⟨_, List.getElem?_eq_getElem (by rw [List.length_zip] at hi; omega)⟩
    exact ⟨z, by rw [(List.getElem?_zip_eq_some (z := (z, u))).mpr ⟨hz, hu⟩]; rfl, e.mono h1 rz⟩
  · intro i F' x h1 hi hx
    obtain ⟨u, hu, ru⟩ := b.got hx
    obtain ⟨z, hz⟩ : ∃ z, xs[i]? = some z := ⟨_, List.getElem?_eq_getElem (by rw [List.length_zip] at hi; omega)⟩
    exact ⟨u, by rw [(List.getElem?_zip_eq_some (z := (z, u))).mpr ⟨hz, hu⟩]; rfl, c.mono h1 ru⟩
/-- a tuple -/
theorem src_tup {R : It → Hp → Prop} (r : (pTL e).r F v xs) (f : Ex F H) (k : ∀ a, TWk (Itt K a) F e xs → R (Itt K a) H) : ∃ a, v = .ref a ∧ (∃ ws, SqT K H a ws) ∧ R (Itt K a) H := by
  obtain ⟨p, vs, rfl, hp, a⟩ := r
  refine ⟨p, rfl, ⟨vs, SqT.of (f _ _ hp)⟩, k p ⟨_, _, by rw [← a.len]; exact walk_tup, fun F' H' h1 h2 => SqT.of (h2 _ _ (h1 _ _ hp)), fun i H v H' F' hi h1 h2 hy => ?_⟩⟩
  obtain ⟨rfl, hv⟩ := hy
  obtain ⟨z, hz, rz⟩ := a.got hv
  exact ⟨z, F', hz, Wf.id h2, e.mono h1 rz⟩
/-- range(i, j) -/
theorem src_range2 {R : It → Hp → Prop} {i j : Nat} (hj : j < 1000000) (hi : i < 1000000) (k : TWk (Itr (i : Int) ((j : Int) - (i : Int)).toNat) F pN (List.range' i (j - i)) → R (Itr (i : Int) ((j : Int) - (i : Int)).toNat) H) : ∃ i' j' : Int, [V.int (i : Int), V.int (j : Int)] = [.int i', .int j'] ∧ (-(2 ^ 62) ≤ i' ∧ i' < 2 ^ 62 ∧ -(2 ^ 62) ≤ j' ∧ j' < 2 ^ 62) ∧ R (Itr i' (j' - i').toNat) H := by
  refine ⟨i, j, rfl, ⟨by omega, by omega, by omega, by omega⟩, k ⟨fun _ => True, YFn fun m => .int ((i : Int) + (m : Nat)), ?_, fun _ _ _ _ => trivial, fun m H x H' F' hm h1 h2 hy => ?_⟩⟩
  · have : ((j : Int) - (i : Int)).toNat = (List.range' i (j - i)).length := by rw [List.length_range']; omega
    rw [this]; exact walk_range
  · obtain ⟨rfl, rfl⟩ := hy
    rw [List.length_range'] at hm
    exact ⟨i + m, F', by rw [List.getElem?_range' hm]; simp, Wf.id h2, by show V.int _ = V.int _; congr 1⟩
/-! ### objects -/
theorem lk_ne {k g : Str} {v : V} {r : List (Str × V)} (h : (k == g) = false) : List.lookup k ((g, v) :: r) = List.lookup k r := by simp only [List.lookup, h]
theorem lk_eq {k : Str} {v : V} {r : List (Str × V)} : List.lookup k ((k, v) :: r) = some v := by
  have e : (k == k) = true := beq_self_eq_true k
  simp only [List.lookup, e]
/-- an instance of C that stays as it is: its fields, all told by Fs -/
def pOb (C : Addr) (Fs : Hp → List (Str × V) → α → Prop) (mono : ∀ {F F' : Hp} {fs : List (Str × V)} {x : α}, Ex F F' → Fs F fs x → Fs F' fs x) : Rep α :=
  ⟨fun F v x => ∃ p dx fs, v = .ref p ∧ F p = some (.ins C dx fs) ∧ Fs F fs x, fun h ⟨p, dx, fs, a, b, c⟩ => ⟨p, dx, fs, a, h _ _ b, mono h c⟩⟩
def F1s {α : Type} (n : Str) (e : Rep α) (F : Hp) (fs : List (Str × V)) (x : α) : Prop := ∃ u, fs = [(n, u)] ∧ e.r F u x
def F2s {α β : Type} (n m : Str) (e : Rep α) (f : Rep β) (F : Hp) (fs : List (Str × V)) (x : α × β) : Prop := ∃ u w, fs = [(n, u), (m, w)] ∧ e.r F u x.1 ∧ f.r F w x.2
def F3s {α β γ : Type} (n m l : Str) (e : Rep α) (f : Rep β) (g : Rep γ) (F : Hp) (fs : List (Str × V)) (x : α × β × γ) : Prop := ∃ u w y, fs = [(n, u), (m, w), (l, y)] ∧ e.r F u x.1 ∧ f.r F w x.2.1 ∧ g.r F y x.2.2
theorem F1s.mono {α : Type} {n : Str} {e : Rep α} {F F' : Hp} {fs : List (Str × V)} {x : α} (h : Ex F F') : F1s n e F fs x → F1s n e F' fs x := fun ⟨u, a, b⟩ => ⟨u, a, e.mono h b⟩
theorem F2s.mono {α β : Type} {n m : Str} {e : Rep α} {f : Rep β} {F F' : Hp} {fs : List (Str × V)} {x : α × β} (h : Ex F F') : F2s n m e f F fs x → F2s n m e f F' fs x := fun ⟨u, w, a, b, c⟩ => ⟨u, w, a, e.mono h b, f.mono h c⟩
theorem F3s.mono {α β γ : Type} {n m l : Str} {e : Rep α} {f : Rep β} {g : Rep γ} {F F' : Hp} {fs : List (Str × V)} {x : α × β × γ} (h : Ex F F') : F3s n m l e f g F fs x → F3s n m l e f g F' fs x := fun ⟨u, w, y, a, b, c, d⟩ => ⟨u, w, y, a, e.mono h b, f.mono h c, g.mono h d⟩
def pO1 {α : Type} (C : Addr) (n : Str) (e : Rep α) : Rep α := pOb C (F1s n e) F1s.mono
def pO2 {α β : Type} (C : Addr) (n m : Str) (e : Rep α) (f : Rep β) : Rep (α × β) := pOb C (F2s n m e f) F2s.mono
def pO3 {α β γ : Type} (C : Addr) (n m l : Str) (e : Rep α) (f : Rep β) (g : Rep γ) : Rep (α × β × γ) := pOb C (F3s n m l e f g) F3s.mono
section
variable {γ : Type} {C : Addr} {a b c : Str} {f : Rep β} {g' : Rep γ} {s : α} {t : α × β} {z : α × β × γ}
/-- reading o.f -/
theorem fl_11 (cl : Cls K C) (na : NoAttr K C a) (r : (pO1 C a e).r F v s) (h : Ex F H) : ∃ w, e.r F w s ∧ ∀ ⦃σ ta⦄, Val ta σ H v → Val (tFld K ta a) σ H w := by
  obtain ⟨p, dx, fs, rfl, hp, u, rfl, r1⟩ := r
  exact ⟨u, r1, fun _ _ ha Q k => ha _ ⟨p, C, dx, _, u, rfl, h _ _ hp, cl, na, lk_eq, k⟩⟩
theorem fl_21 (cl : Cls K C) (na : NoAttr K C a) (r : (pO2 C a b e f).r F v t) (h : Ex F H) : ∃ w, e.r F w t.1 ∧ ∀ ⦃σ ta⦄, Val ta σ H v → Val (tFld K ta a) σ H w := by
  obtain ⟨p, dx, fs, rfl, hp, u, w, rfl, r1, r2⟩ := r
  exact ⟨u, r1, fun _ _ ha Q k => ha _ ⟨p, C, dx, _, u, rfl, h _ _ hp, cl, na, lk_eq, k⟩⟩
theorem fl_22 (cl : Cls K C) (na : NoAttr K C b) (r : (pO2 C a b e f).r F v t) (h : Ex F H) (h1 : (b == a) = false := by decide +kernel) : ∃ w, f.r F w t.2 ∧ ∀ ⦃σ ta⦄, Val ta σ H v → Val (tFld K ta b) σ H w := by
  obtain ⟨p, dx, fs, rfl, hp, u, w, rfl, r1, r2⟩ := r
  exact ⟨w, r2, fun _ _ ha Q k => ha _ ⟨p, C, dx, _, w, rfl, h _ _ hp, cl, na, (lk_ne h1).trans lk_eq, k⟩⟩
theorem fl_31 (cl : Cls K C) (na : NoAttr K C a) (r : (pO3 C a b c e f g').r F v z) (h : Ex F H) : ∃ w, e.r F w z.1 ∧ ∀ ⦃σ ta⦄, Val ta σ H v → Val (tFld K ta a) σ H w := by
  obtain ⟨p, dx, fs, rfl, hp, u, w, y, rfl, r1, r2, r3⟩ := r
  exact ⟨u, r1, fun _ _ ha Q k => ha _ ⟨p, C, dx, _, u, rfl, h _ _ hp, cl, na, lk_eq, k⟩⟩
theorem fl_32 (cl : Cls K C) (na : NoAttr K C b) (r : (pO3 C a b c e f g').r F v z) (h : Ex F H) (h1 : (b == a) = false := by decide +kernel) : ∃ w, f.r F w z.2.1 ∧ ∀ ⦃σ ta⦄, Val ta σ H v → Val (tFld K ta b) σ H w := by
  obtain ⟨p, dx, fs, rfl, hp, u, w, y, rfl, r1, r2, r3⟩ := r
  exact ⟨w, r2, fun _ _ ha Q k => ha _ ⟨p, C, dx, _, w, rfl, h _ _ hp, cl, na, (lk_ne h1).trans lk_eq, k⟩⟩
theorem fl_33 (cl : Cls K C) (na : NoAttr K C c) (r : (pO3 C a b c e f g').r F v z) (h : Ex F H) (h1 : (c == a) = false := by decide +kernel) (h2 : (c == b) = false := by decide +kernel) : ∃ w, g'.r F w z.2.2 ∧ ∀ ⦃σ ta⦄, Val ta σ H v → Val (tFld K ta c) σ H w := by
  obtain ⟨p, dx, fs, rfl, hp, u, w, y, rfl, r1, r2, r3⟩ := r
  exact ⟨y, r3, fun _ _ ha Q k => ha _ ⟨p, C, dx, _, y, rfl, h _ _ hp, cl, na, (lk_ne h1).trans ((lk_ne h2).trans lk_eq), k⟩⟩
/-- the object of a method's call -/
theorem me_1 {m : Str} (r : (pO1 C a e).r F v s) (h : Ex F H) (h1 : (m == a) = false := by decide +kernel) : ∃ p dx fs, v = .ref p ∧ H p = some (.ins C dx fs) ∧ fs.lookup m = none := by
  obtain ⟨p, dx, fs, rfl, hp, u, rfl, _⟩ := r
  exact ⟨p, dx, _, rfl, h _ _ hp, (lk_ne h1).trans rfl⟩
theorem me_2 {m : Str} (r : (pO2 C a b e f).r F v t) (h : Ex F H) (h1 : (m == a) = false := by decide +kernel) (h2 : (m == b) = false := by decide +kernel) : ∃ p dx fs, v = .ref p ∧ H p = some (.ins C dx fs) ∧ fs.lookup m = none := by
  obtain ⟨p, dx, fs, rfl, hp, u, w, rfl, _⟩ := r
  exact ⟨p, dx, _, rfl, h _ _ hp, (lk_ne h1).trans ((lk_ne h2).trans rfl)⟩
theorem me_3 {m : Str} (r : (pO3 C a b c e f g').r F v z) (h : Ex F H) (h1 : (m == a) = false := by decide +kernel) (h2 : (m == b) = false := by decide +kernel) (h3 : (m == c) = false := by decide +kernel) : ∃ p dx fs, v = .ref p ∧ H p = some (.ins C dx fs) ∧ fs.lookup m = none := by
  obtain ⟨p, dx, fs, rfl, hp, u, w, y, rfl, _⟩ := r
  exact ⟨p, dx, _, rfl, h _ _ hp, (lk_ne h1).trans ((lk_ne h2).trans ((lk_ne h3).trans rfl))⟩
end
/-! one's own object, while it is made -/
/-- the heap without p -/
def wo (H : Hp) (p : Addr) : Hp := fun a => if a = p then none else H a
theorem wo_same {H : Hp} {p : Addr} : wo H p p = none := if_pos rfl
theorem wo_ne {H : Hp} {p q : Addr} (h : q ≠ p) : wo H p q = H q := if_neg h
theorem Wf.start (f : Ex F H) (n : F p = none) : Wf F (wo H p) F H := ⟨fun a o h => by
    by_cases q : a = p
    · subst q; rw [wo_same] at h; cases h
    · rw [wo_ne q] at h; exact h, f, Ex.rfl', fun a o h h0 => by rw [h] at h0; cases h0⟩
theorem Xc.start (n : F p = none) (h : H p = some o) : Xc (wo H p) F H p o := ⟨wo_same, n, h⟩
/-- behind the making of x -/
theorem Wf.made {x dx : Addr} {o u : HO} (nx : H x = none) (nd : H dx = none) (w : Wf F (wo (upd (upd H dx o) x u) x) F' H') : Wf F H F' H' := by
  have e : Ex H (wo (upd (upd H dx o) x u) x) := fun a v h => by
    have h1 : a ≠ x := ne_of_none h nx
    have h2 : a ≠ dx := ne_of_none h nd
    rw [wo_ne h1, upd_ne h1, upd_ne h2]; exact h
  exact ⟨e.tr w.h, w.f, w.g, fun a o h h0 => e.non (w.n a o h h0)⟩
theorem Ex.made {x dx : Addr} {o u : HO} (f : Ex F H) (nx : H x = none) (nd : H dx = none) : Ex F (upd (upd H dx o) x u) := fun a v h => by
  have h' := f a v h
  rw [upd_ne (ne_of_none h' nx), upd_ne (ne_of_none h' nd)]; exact h'
theorem Xc.frzO {u : HO} (x : Xc H0 F H q u) (h : Fz F F' p) (hq : q ≠ p) (g : Ex F F') : Xc H0 F' H q u := ⟨x.z, h _ hq x.n, x.h⟩
/-- self.f = v -/
theorem a_fld {C dx : Addr} {fs : List (Str × V)} {a : Str} (cl : Cls K C) (na : NoAttr K C a) (x : Xc H0 F H p (.ins C dx fs)) (w : Wf F0 H0 F H) (hl : fs.length < 1000) (ho : Val to σ H (.ref p))
    (k : ∀ H', Wf F0 H0 F H' → Xc H0 F H' p (.ins C dx (putF a v fs)) → (∀ q o, H q = some o → q ≠ p → H' q = some o) → D.nx σ H') :
    (fun y H1 => to σ H1 fun x H2 => ∃ a' C' dx' fs', x = .ref a' ∧ H2 a' = some (.ins C' dx' fs') ∧ Cls K C' ∧ NoAttr K C' a ∧ fs'.length < 1000 ∧ D.nx σ (upd H2 a' (.ins C' dx' (putF a y fs')))) v H :=
  ho _ ⟨p, C, dx, fs, rfl, x.h, cl, na, hl, k _ (w.set x) x.set fun q o h hq => by rw [upd_ne hq]; exact h⟩
theorem e_fld {tv : TE} {a : Str} (h : tv σ H fun y H1 => to σ H1 fun x H2 => ∃ a' C' dx' fs', x = .ref a' ∧ H2 a' = some (.ins C' dx' fs') ∧ Cls K C' ∧ NoAttr K C' a ∧ fs'.length < 1000 ∧ D.nx σ (upd H2 a' (.ins C' dx' (putF a y fs')))) : sFld K to tv a D σ H := h
/-- reading a field of one's own object -/
theorem fl_X {C dx : Addr} {fs : List (Str × V)} {a : Str} (cl : Cls K C) (na : NoAttr K C a) (x : Xc H0 F H p (.ins C dx fs)) (hl : fs.lookup a = some u) (ho : Val to σ H (.ref p)) : Val (tFld K to a) σ H u :=
  fun Q k => ho _ ⟨p, C, dx, fs, u, rfl, x.h, cl, na, hl, k⟩
/-- it is made: it changes no more -/
theorem Xc.frzE {o : HO} (x : Xc H0 F H p o) (w : Wf F0 H0 F H) : ∃ F', Wf F0 H0 F' H ∧ Ex F F' ∧ F' p = some o := ⟨_, w.freeze x, Ex.new x.n, upd_same⟩
/-! ### borrowed lists and dicts: read only, their place not told -/
structure BL {α : Type} (e : Rep α) (F H : Hp) (p : Addr) (xs : List α) : Prop where
  x : ∃ vs, H p = some (.lst vs) ∧ All e F vs xs
structure BD {κ α : Type} [KeyT κ] (e : Rep α) (F H : Hp) (p : Addr) (m : List (κ × α)) : Prop where
  x : ∃ kvs, H p = some (.dK kvs) ∧ DA e F kvs m
theorem BL.step (x : BL e F H p xs) (w : Wf F H F' H') : BL e F' H' p xs := let ⟨vs, a, b⟩ := x.x; ⟨vs, w.h _ _ a, b.mono w.g⟩
theorem BL.ne (x : BL e F H p xs) (h : H q = none) : p ≠ q := let ⟨_, a, _⟩ := x.x; ne_of_none a h
theorem BL.frzO {X : Prop} (x : BL e F H q xs) (h : X) (hq : q ≠ p) (g : Ex F F') : BL e F' H q xs := let ⟨vs, a, b⟩ := x.x; ⟨vs, a, b.mono g⟩
theorem BL.kept (x : BL e F H q xs) (h : ∀ q o, H q = some o → q ≠ p → H' q = some o) (hq : q ≠ p) : BL e F H' q xs := let ⟨vs, a, b⟩ := x.x; ⟨vs, h _ _ a hq, b⟩
theorem XL.bw (x : XL e H0 F H p xs) : BL e F H p xs := let ⟨vs, a, b⟩ := x.x; ⟨vs, a.h, b⟩
end
section
variable {κ α : Type} [DecidableEq κ] [KeyT κ] {e : Rep α} {K : PySem.W.Frag} {σ : L2.St} {F0 H0 F F' H H' : Hp} {te td ty tx tv : TE} {Q : VK} {v w y z : V} {m : List (κ × α)} {p q : Addr} {j : κ} {x : α} {D : Ends}
omit [DecidableEq κ] in
theorem BD.step (x : BD e F H p m) (w : Wf F H F' H') : BD e F' H' p m := let ⟨vs, a, b⟩ := x.x; ⟨vs, w.h _ _ a, b.mono w.g⟩
omit [DecidableEq κ] in
theorem BD.ne (x : BD e F H p m) (h : H q = none) : p ≠ q := let ⟨_, a, _⟩ := x.x; ne_of_none a h
omit [DecidableEq κ] in
theorem BD.frzO {X : Prop} (x : BD e F H q m) (h : X) (hq : q ≠ p) (g : Ex F F') : BD e F' H q m := let ⟨vs, a, b⟩ := x.x; ⟨vs, a, b.mono g⟩
omit [DecidableEq κ] in
theorem BD.kept (x : BD e F H q m) (h : ∀ q o, H q = some o → q ≠ p → H' q = some o) (hq : q ≠ p) : BD e F H' q m := let ⟨vs, a, b⟩ := x.x; ⟨vs, h _ _ a hq, b⟩
omit [DecidableEq κ] in
theorem XD.bw (x : XD e H0 F H p m) : BD e F H p m := let ⟨vs, a, b⟩ := x.x; ⟨vs, a.h, b⟩
omit [DecidableEq κ] in
theorem D_bw (r : (pD e).r F v m) (f : Ex F H) : ∃ p, v = .ref p ∧ BD e F H p m := let ⟨p, vs, a, b, c⟩ := r; ⟨p, a, ⟨vs, f _ _ b, c⟩⟩
theorem in_BD (r : BD e F H p m) (hy : Val ty σ H (kV (KeyT.k j))) (hd : Val td σ H (.ref p)) : Val (tDIn ty td) σ H (.bl (hasT m j)) := by
  obtain ⟨kvs, hp, a⟩ := r.x
  exact fun Q k => hy _ (hd _ ⟨p, _, rfl, DGet.k hp, by rw [a.has j]; exact k⟩)
theorem ix_BD (r : BD e F H p m) (hx : valT m j = some x) : ∃ w, e.r F w x ∧ ∀ ⦃σ td ty⦄, Val td σ H (.ref p) → Val ty σ H (kV (KeyT.k j)) → Val (tDGet td ty) σ H w := by
  obtain ⟨kvs, hp, a⟩ := r.x
  obtain ⟨w, h1, h2⟩ := (a.get j).1 x hx
  exact ⟨w, h2, fun _ _ _ hd hy Q k => hd _ (hy _ ⟨p, w, rfl, by rw [← h1]; exact DGet.k hp, k⟩)⟩
/-- list(d) -/
def keyC (κ : Type) [KeyT κ] (b : Rep κ) : Prop := ∀ (F : Hp) (k : κ), b.r F (kV (KeyT.k k)) k
theorem keyN : keyC Nat pN := fun _ _ => rfl
theorem keyI : keyC Int pI := fun _ _ => rfl
theorem keyS : keyC Str pS := fun _ _ => rfl
omit [DecidableEq κ] in
theorem DA.keys {b : Rep κ} (hb : keyC κ b) : ∀ {kvs : List (Key × V)} {m : List (κ × α)}, DA e F kvs m → All b F (kvs.map fun kv => kV kv.1) (m.map (·.1))
  | [], [], _ => trivial
  | p :: r, q :: s, ⟨a, _, c⟩ => ⟨by show b.r F (kV p.1) q.1; rw [a]; exact hb F q.1, DA.keys hb c⟩
  | [], _ :: _, q => q.elim
  | _ :: _, [], q => q.elim
def rListD : List V → Hp → VK → Prop := fun xs H Q => ∃ (a : Addr) (kvs : List (Key × V)), xs = [.ref a] ∧ Rd H a (.dK kvs) ∧ ∀ p, H p = none → Q (.ref p) (upd H p (.lst (kvs.map fun kv => kV kv.1)))
omit [DecidableEq κ] in
theorem n_listD {b : Rep κ} (hb : keyC κ b) (r : (pD e).r F v m) (w : Wf F0 H0 F H) (k : ∀ p H', H p = none → Wf F H F H' → XL b H0 F H' p (m.map (·.1)) → Q (.ref p) H') : rListD [v] H Q := by
  obtain ⟨p, kvs, rfl, hp, a⟩ := r
  exact ⟨p, kvs, rfl, .inl (w.f _ _ hp), fun l hl => k l _ hl (Wf.newX w.f hl) ⟨_, Xc.mk' w hl, a.keys hb⟩⟩
theorem n_listXD {b : Rep κ} (hb : keyC κ b) (r : XD e H0 F H q m) (w : Wf F0 H0 F H) (k : ∀ p H', H p = none → Wf F H F H' → XL b H0 F H' p (m.map (·.1)) → Q (.ref p) H') : rListD [.ref q] H Q := by
  obtain ⟨kvs, hp, a⟩ := r.rd
  exact ⟨q, kvs, rfl, .inl hp, fun l hl => k l _ hl (Wf.newX w.f hl) ⟨_, Xc.mk' w hl, a.keys hb⟩⟩
end
/-- a method that may be called -/
structure Md (P : Program) (w : World) (K : PySem.W.Frag) (mg : Str → Option Value) (base : Heap) (CX : CXT) (k : Nat) (C : Addr) (m : Str) (ps : List Str) (sp : Sp) : Prop where
  ex : ∃ f fd, FnOk P w K mg base CX k f fd ps sp ∧ Meth K C m f ∧ Binds K fd ps []
/-- a class that makes -/
structure Nw (P : Program) (w : World) (K : PySem.W.Frag) (mg : Str → Option Value) (base : Heap) (CX : CXT) (k : Nat) (C : Addr) (x : Str) (ps : List Str) (sp : Sp) : Prop where
  ex : ∃ f fd, FnOk P w K mg base CX k f fd ps sp ∧ Mk K C f ∧ mg x = some (.ref C) ∧ Binds K fd ps []
section
variable {X : Cx} {k : Nat} {C : Addr} {x m : Str} {ps : List Str} {sp : Sp} {o e : Expr} {es : List Expr} {p pos apos : Pos} {ta : TE} {t : TA} {pl : Sem Bool}
theorem pe_md (M : Md X.prog X.w X.K X.mg X.base CX0 k C m ps sp) (cl : Cls X.K C) (hr : Room k X.A) (he : PE X o ta) (ha : PA X (e :: es) t)
    (hst : starEach (e :: es) X.env = (false, eval e X.env) :: starEach es X.env := by rfl) (hpl : (backTo pos (starEach es X.env)).any (·.1) = false := by rfl)
    (ht : eval (.Call (.Attribute o m apos) (e :: es) [] pos) X.env = (do
      let ov ← eval o X.env
      standAt apos.atName
      let (f, first) ← holding [ov] (getMethod ov m pl)
      callWith pos f first (backTo pos (starEach (e :: es) X.env)) (backToKw pos (keywordEach [] X.env))) := by rfl) :
    PE X (.Call (.Attribute o m apos) (e :: es) [] pos) (tMeth C m sp [] E0 ta t) := by
  obtain ⟨f, fd, F, hm, hb⟩ := M.ex
  exact pe_meth he cl hm F hr hb .nil pass0 ha hst hpl ht
theorem pe_md0 (M : Md X.prog X.w X.K X.mg X.base CX0 k C m ps sp) (cl : Cls X.K C) (hr : Room k X.A) (he : PE X o ta)
    (ht : eval (.Call (.Attribute o m apos) [] [] pos) X.env = (do
      let ov ← eval o X.env
      standAt apos.atName
      let (f, first) ← holding [ov] (getMethod ov m pl)
      callWith pos f first (backTo pos (starEach [] X.env)) (backToKw pos (keywordEach [] X.env))) := by rfl) :
    PE X (.Call (.Attribute o m apos) [] [] pos) (tMeth C m sp [] E0 ta tNil) := by
  obtain ⟨f, fd, F, hm, hb⟩ := M.ex
  exact pe_meth0 he cl hm F hr hb .nil pass0 ht
theorem pe_nw (M : Nw X.prog X.w X.K X.mg X.base CX0 k C x ps sp) (hr : Room (k + 1) X.A) (hg : Gl X x) (ha : PA X (e :: es) t) (hdb : (x == ("__debug__" : Str)) = false := by decide)
    (he : starEach (e :: es) X.env = (false, eval e X.env) :: starEach es X.env := by rfl) (hpl : (backTo pos (starEach es X.env)).any (·.1) = false := by rfl) : PE X (.Call (.Name x p) (e :: es) [] pos) (tMake C sp [] E0 t) := by
  obtain ⟨f, fd, F, hk, hm, hb⟩ := M.ex
  exact pe_make hk F hr hg hm hb .nil pass0 ha hdb he hpl
end
section
variable {σ : L2.St} {H : Hp} {C : Addr} {m : Str} {sp : Sp} {E : XK} {ta : TE} {t : TA} {Q : VK} {v : V} {p dx : Addr} {fs : List (Str × V)} {vs : List V}
theorem e_md (h : ta σ H fun x H1 => ∃ a dx fs, x = .ref a ∧ H1 a = some (.ins C dx fs) ∧ fs.lookup m = none ∧ t σ H1 fun vs H2 => sp (x :: vs) H2 Q E) : tMeth C m sp [] E ta t σ H Q := by
  show ta σ H fun x H1 => ∃ a dx fs, x = .ref a ∧ H1 a = some (.ins C dx fs) ∧ fs.lookup m = none ∧ t σ H1 fun vs H2 => sp (x :: (vs ++ [])) H2 Q E
  simpa only [List.append_nil] using h
theorem e_nw (h : t σ H fun vs H1 => ∀ x dx, H1 x = none → H1 dx = none → dx ≠ x → sp (.ref x :: vs) (upd (upd H1 dx (.own x)) x (.ins C dx [])) (fun v H2 => v = .non ∧ Q (.ref x) H2) E) : tMake C sp [] E t σ H Q := by
  show t σ H fun vs H1 => ∀ x dx, H1 x = none → H1 dx = none → dx ≠ x → sp (.ref x :: (vs ++ [])) (upd (upd H1 dx (.own x)) x (.ins C dx [])) (fun v H2 => v = .non ∧ Q (.ref x) H2) E
  simpa only [List.append_nil] using h
end
/-- an object of which only the fields are read -/
structure BO (C : Addr) (F H : Hp) (p dx : Addr) (fs : List (Str × V)) : Prop where
  h : H p = some (.ins C dx fs)
section
variable {α β γ : Type} {K : PySem.W.Frag} {σ : L2.St} {C p q dx : Addr} {fs : List (Str × V)} {H0 F F' H H' : Hp} {to ta : TE} {Q : VK} {a b c m : Str} {u v : V} {o : HO}
theorem BO.step (x : BO C F H p dx fs) (w : Wf F H F' H') : BO C F' H' p dx fs := ⟨w.h _ _ x.h⟩
theorem BO.ne (x : BO C F H p dx fs) (h : H q = none) : p ≠ q := ne_of_none x.h h
theorem BO.frzO {X : Prop} (x : BO C F H q dx fs) (h : X) (hq : q ≠ p) (g : Ex F F') : BO C F' H q dx fs := ⟨x.h⟩
theorem BO.kept (x : BO C F H q dx fs) (h : ∀ q o, H q = some o → q ≠ p → H' q = some o) (hq : q ≠ p) : BO C F H' q dx fs := ⟨h _ _ x.h hq⟩
theorem fl_B (na : NoAttr K C a) (cl : Cls K C) (x : BO C F H p dx fs) (hl : fs.lookup a = some u) (ho : Val to σ H (.ref p)) : Val (tFld K to a) σ H u :=
  fun Q k => ho _ ⟨p, C, dx, fs, u, rfl, x.h, cl, na, hl, k⟩
def kFld (K : PySem.W.Frag) (a : Str) (Q : VK) (x : V) (H1 : Hp) : Prop := ∃ a' C dx fs v, x = .ref a' ∧ H1 a' = some (.ins C dx fs) ∧ Cls K C ∧ NoAttr K C a ∧ fs.lookup a = some v ∧ Q v H1
theorem e_tfld (h : ta σ H (kFld K a Q)) : tFld K ta a σ H Q := h
theorem fl_val (h : Val (tFld K (tC v) a) [] H u) (q : Q u H) : kFld K a Q v H := h Q q
theorem put_ne {f g : Str} {v x : V} {r : List (Str × V)} (h : ¬ g = f) : putF f v ((g, x) :: r) = (g, x) :: putF f v r := if_neg h
theorem put_eq {f : Str} {v x : V} {r : List (Str × V)} : putF f v ((f, x) :: r) = (f, v) :: r := if_pos rfl
theorem Xc.cast {fs' : List (Str × V)} (x : Xc H0 F H p (.ins C dx fs)) (e : fs = fs') : Xc H0 F H p (.ins C dx fs') := e ▸ x
/-- the first field, a dict, as it is borrowed -/
theorem st_bw {κ : Type} [KeyT κ] {e : Rep α} {f : Rep β} {g : Rep γ} {z : List (κ × α) × β × γ} (r : (pO3 C a b c (pD e) f g).r F v z) (h : Ex F H) (h1 : (m == a) = false := by decide +kernel) (h2 : (m == b) = false := by decide +kernel) (h3 : (m == c) = false := by decide +kernel) :
    ∃ p dx fs d, v = .ref p ∧ H p = some (.ins C dx fs) ∧ fs.lookup a = some (.ref d) ∧ BD e F H d z.1 ∧ fs.lookup m = none := by
  obtain ⟨p, dx, fs, rfl, hp, u, w, y, rfl, r1, r2, r3⟩ := r
  obtain ⟨d, rfl, bd⟩ := D_bw r1 h
  exact ⟨p, dx, _, d, rfl, h _ _ hp, lk_eq, bd, (lk_ne h1).trans ((lk_ne h2).trans ((lk_ne h3).trans rfl))⟩
end
section
variable {κ α : Type} [KeyT κ] {e : Rep α} {σ : L2.St} {F0 H0 F H : Hp} {tk tv : TE} {Q : VK} {v : V} {j : κ} {x : α}
/-- {k: v} -/
theorem n_disp1 (hk : ∀ H, Val tk σ H (kV (KeyT.k j))) (hv : ∀ H, Val tv σ H v) (r : e.r F v x) (w : Wf F0 H0 F H) (k : ∀ p H', H p = none → Wf F H F H' → XD e H0 F H' p [(j, x)] → Q (.ref p) H') : tDisp [(tk, tv)] σ H Q := fun p hp => by
  refine hk _ _ (hv _ _ ⟨upd_same, [(KeyT.k j, v)], rfl, (show 1 ≤ 15 by decide), ?_⟩)
  rw [upd_upd]
  exact k p _ hp (Wf.newX w.f hp) ⟨[(KeyT.k j, v)], Xc.mk' w hp, rfl, r, trivial⟩
end
theorem m_list0 {α : Type} {e : Rep α} {K : PySem.W.Frag} {σ : L2.St} {H0 F H : Hp} {p : Addr} {xs : List α} {to : TE} {Q : VK} {r : V → List V → Hp → VK → Prop} (z : XL e H0 F H p xs) (ho : Val to σ H (.ref p)) (k : r (.ref p) [] H Q) : tBM0 K "list" r to σ H Q := ho _ ⟨let ⟨_, a, _⟩ := z.x; Or.inl ⟨rfl, _, Or.inl (Or.inl a.h)⟩, k⟩
end Wk

namespace Wk
open PySem L2
section
variable {K : PySem.W.Frag} {σ : L2.St} {F0 H0 F H H' : Hp} {ta to : TE} {Q : VK} {v : V} {xs : List Nat} {p q : Addr} {x : Nat}
theorem nats_eq {vs : List V} {F : Hp} (a : All pN F vs xs) : vs = (xs.map Int.ofNat).map V.int := a.nats
def maxT (xs : List Nat) : Nat := xs.foldl max 0
theorem maxT_aux : ∀ (xs : List Nat) (a : Nat), a ≤ xs.foldl max a ∧ (∀ y ∈ xs, y ≤ xs.foldl max a) ∧ (xs.foldl max a = a ∨ xs.foldl max a ∈ xs)
  | [], a => ⟨Nat.le_refl _, fun y h => (by cases h), .inl rfl⟩
  | x :: xs, a => by
    obtain ⟨h1, h2, h3⟩ := maxT_aux xs (max a x)
    refine ⟨Nat.le_trans (Nat.le_max_left a x) h1, fun y hy => ?_, ?_⟩
    · rcases List.mem_cons.mp hy with e | m
      · subst e; exact Nat.le_trans (Nat.le_max_right a y) h1
      · exact h2 y m
    · show xs.foldl max (max a x) = a ∨ xs.foldl max (max a x) ∈ x :: xs
      rcases h3 with e | m
      · rw [e]
        rcases Nat.le_total a x with o | o
        · rw [Nat.max_eq_right o]; exact .inr (List.mem_cons_self ..)
        · rw [Nat.max_eq_left o]; exact .inl rfl
      · exact .inr (List.mem_cons_of_mem _ m)
theorem maxT_le {y : Nat} (h : y ∈ xs) : y ≤ maxT xs := (maxT_aux xs 0).2.1 y h
theorem maxT_mem (h : 0 < xs.length) : maxT xs ∈ xs := by
  rcases (maxT_aux xs 0).2.2 with e | m
  · obtain ⟨y, hy⟩ : ∃ y, y ∈ xs := by cases xs with
      | nil => exact absurd h (Nat.lt_irrefl _)
      | cons y _ => exact ⟨y, List.mem_cons_self ..⟩
    have := maxT_le hy
    have e2 : maxT xs = 0 := e
    rw [e2] at this ⊢
    have : y = 0 := by omega
    subst this; exact hy
  · exact m
/-- max(xs) -/
theorem vn_max (r : (pL pN).r F v xs) (f : Ex F H) (hl : 0 < xs.length) (ha : Val ta σ H v) : Val (tCB (L2.rMax K) (tCons ta tNil)) σ H (.int ((maxT xs : Nat) : Int)) := by
  obtain ⟨p, vs, rfl, hp, a⟩ := L_rd r f
  rw [nats_eq a] at hp
  refine v_cb1 ha fun Q k => ⟨p, _, rfl, SqL.of hp, by rw [List.length_map]; exact hl, fun m hm hle => ?_⟩
  have : m = ((maxT xs : Nat) : Int) := by
    obtain ⟨n, hn, rfl⟩ := List.mem_map.mp hm
    have h1 := maxT_le hn
    have h2 := hle _ (List.mem_map.mpr ⟨_, maxT_mem hl, rfl⟩)
    simp only [Int.ofNat_eq_natCast] at h2 ⊢
    omega
  rw [this]; exact k
theorem vn_maxX (r : XL pN H0 F H p xs) (hl : 0 < xs.length) (ha : Val ta σ H (.ref p)) : Val (tCB (L2.rMax K) (tCons ta tNil)) σ H (.int ((maxT xs : Nat) : Int)) := by
  obtain ⟨vs, hp, a⟩ := r.rd
  rw [nats_eq a] at hp
  refine v_cb1 ha fun Q k => ⟨p, _, rfl, SqL.of hp, by rw [List.length_map]; exact hl, fun m hm hle => ?_⟩
  have : m = ((maxT xs : Nat) : Int) := by
    obtain ⟨n, hn, rfl⟩ := List.mem_map.mp hm
    have h1 := maxT_le hn
    have h2 := hle _ (List.mem_map.mpr ⟨_, maxT_mem hl, rfl⟩)
    simp only [Int.ofNat_eq_natCast] at h2 ⊢
    omega
  rw [this]; exact k
theorem sum_nats : ∀ xs : List Nat, (xs.map Int.ofNat).sum = ((xs.sum : Nat) : Int)
  | [] => rfl
  | x :: xs => by rw [List.map_cons, List.sum_cons, List.sum_cons, sum_nats xs]; simp
/-- sum(xs) -/
theorem vn_sum (r : (pL pN).r F v xs) (f : Ex F H) (ha : Val ta σ H v) : Val (tCB (L2.rSum K) (tCons ta tNil)) σ H (.int ((xs.sum : Nat) : Int)) := by
  obtain ⟨p, vs, rfl, hp, a⟩ := L_rd r f
  rw [nats_eq a] at hp
  exact v_cb1 ha fun Q k => ⟨p, _, rfl, SqL.of hp, by rw [sum_nats]; exact k⟩
theorem vn_sumX (r : XL pN H0 F H p xs) (ha : Val ta σ H (.ref p)) : Val (tCB (L2.rSum K) (tCons ta tNil)) σ H (.int ((xs.sum : Nat) : Int)) := by
  obtain ⟨vs, hp, a⟩ := r.rd
  rw [nats_eq a] at hp
  exact v_cb1 ha fun Q k => ⟨p, _, rfl, SqL.of hp, by rw [sum_nats]; exact k⟩
/-- xs.remove(x) -/
theorem first_of {x : Nat} : ∀ {xs : List Nat}, x ∈ xs → ∃ j, xs[j]? = some x ∧ (∀ m, m < j → xs[m]? ≠ some x) ∧ xs.eraseIdx j = xs.erase x
  | [], h => by cases h
  | y :: xs, h => by
    by_cases e : y = x
    · subst e
      exact ⟨0, rfl, fun m hm => absurd hm (Nat.not_lt_zero _), by simp⟩
    · obtain ⟨j, h1, h2, h3⟩ := first_of (xs := xs) ((List.mem_cons.mp h).resolve_left fun z => e z.symm)
      refine ⟨j + 1, by simpa using h1, fun m hm => ?_, ?_⟩
      · cases m with
        | zero => simpa using e
        | succ m => simpa using h2 m (by omega)
      · rw [List.eraseIdx_cons_succ, h3, List.erase_cons_tail (by simpa using e)]
theorem erase_map {α β : Type} (f : α → β) : ∀ (xs : List α) (j : Nat), (xs.map f).eraseIdx j = (xs.eraseIdx j).map f
  | [], _ => rfl
  | _ :: _, 0 => rfl
  | x :: xs, j + 1 => by rw [List.map_cons, List.eraseIdx_cons_succ, List.eraseIdx_cons_succ, List.map_cons, erase_map f xs j]
theorem a_rem (z : XL pN H0 F H p xs) (w : Wf F0 H0 F H) (hx : x ∈ xs) (k : ∀ H', Wf F0 H0 F H' → XL pN H0 F H' p (xs.erase x) → (∀ q o, H q = some o → q ≠ p → H' q = some o) → Q .non H') : L2.rRemI (.ref p) [.int (x : Int)] H Q := by
  obtain ⟨vs, a, b⟩ := z.x
  have e := nats_eq b
  obtain ⟨j, h1, h2, h3⟩ := first_of hx
  have hh := a.h
  rw [e] at hh
  refine ⟨p, _, _, j, rfl, rfl, hh, by rw [List.getElem?_map, h1]; rfl, fun m hm z => h2 m hm ?_, ?_⟩
  · rw [List.getElem?_map] at z
    cases q : xs[m]? with
    | none => rw [q] at z; cases z
    | some y =>
      rw [q] at z
      have : Int.ofNat y = (x : Int) := Option.some.inj z
      have : y = x := by simp only [Int.ofNat_eq_natCast] at this; omega
      rw [this]
  · refine k _ (w.set a) ⟨_, a.set, ?_⟩ fun q o h hq => by rw [upd_ne hq]; exact h
    have e4 : ((xs.map Int.ofNat).eraseIdx j).map V.int = ((xs.erase x).map Int.ofNat).map V.int := by
      rw [← h3, erase_map]
    rw [e4]
    have go : ∀ ys : List Nat, All pN F ((ys.map Int.ofNat).map V.int) ys := by
      intro ys
      induction ys with
      | nil => trivial
      | cons y ys ih => exact ⟨rfl, ih⟩
    exact go _
/-- sorted(d), the keys numbers -/
def rSortedDI : List V → Hp → VK → Prop := fun xs H Q => ∃ (a : Addr) (kvs : List (Key × V)) (ks : List Int), xs = [.ref a] ∧ Rd H a (.dK kvs) ∧ kvs.map (·.1) = ks.map Sum.inl ∧ ks.length < 64 ∧ ∀ (ys : List Int) (p : Addr), ys.Perm ks → ys.Pairwise (· ≤ ·) → H p = none → Q (.ref p) (upd H p (.lst (ys.map V.int)))
theorem DA.nkeys {α : Type} {e : Rep α} {F : Hp} : ∀ {kvs : List (Key × V)} {m : List (Nat × α)}, DA e F kvs m → kvs.map (·.1) = ((m.map (·.1)).map Int.ofNat).map Sum.inl
  | [], [], _ => rfl
  | p :: r, q :: s, ⟨a, _, c⟩ => by rw [List.map_cons, List.map_cons, List.map_cons, List.map_cons, DA.nkeys c, a]; rfl
  | [], _ :: _, q => q.elim
  | _ :: _, [], q => q.elim
theorem n_sortD {α : Type} {e : Rep α} {m : List (Nat × α)} (r : (pD e).r F v m) (w : Wf F0 H0 F H) (hl : m.length < 64) (k : ∀ (ys : List Nat) p H', ys.Perm (m.map (·.1)) → ys.Pairwise (· ≤ ·) → H p = none → Wf F H F H' → XL pN H0 F H' p ys → Q (.ref p) H') : rSortedDI [v] H Q := by
  obtain ⟨p, kvs, rfl, hp, a⟩ := r
  refine ⟨p, kvs, (m.map (·.1)).map Int.ofNat, rfl, .inl (w.f _ _ hp), a.nkeys, by rw [List.length_map, List.length_map]; exact hl, fun ys q hperm hs hq => ?_⟩
  have e1 : ys = (ys.map Int.toNat).map Int.ofNat := by
    rw [List.map_map]
    have : ys.map (Int.ofNat ∘ Int.toNat) = ys.map id := List.map_congr_left fun y hy => by
      obtain ⟨n, _, rfl⟩ := List.mem_map.mp (hperm.mem_iff.mp hy)
      rfl
    rw [this, List.map_id]
  have e2 : (ys.map Int.toNat).Perm (m.map (·.1)) := by
    have := hperm.map Int.toNat
    rw [List.map_map (l := m.map (·.1))] at this
    have z : (m.map (·.1)).map (Int.toNat ∘ Int.ofNat) = (m.map (·.1)).map id := List.map_congr_left fun y _ => rfl
    rw [z, List.map_id] at this
    exact this
  have e3 : (ys.map Int.toNat).Pairwise (· ≤ ·) := List.pairwise_map.mpr (hs.imp fun h => Int.toNat_le_toNat h)
  have go : ∀ zs : List Nat, All pN F ((zs.map Int.ofNat).map V.int) zs := by
    intro zs
    induction zs with
    | nil => trivial
    | cons y zs ih => exact ⟨rfl, ih⟩
  have a2 := go (ys.map Int.toNat)
  rw [← e1] at a2
  exact k _ q _ e2 e3 hq (Wf.newX w.f hq) ⟨_, Xc.mk' w hq, a2⟩
end
end Wk

namespace Wk
open PySem L2
/-- one of two kinds -/
def pAlt {α β : Type} (e : Rep α) (f : Rep β) : Rep (Sum α β) := ⟨fun F v x => match x with | .inl a => e.r F v a | .inr b => f.r F v b, fun {_ _ _ x} h q => by cases x with | inl a => exact e.mono h q | inr b => exact f.mono h q⟩
theorem alt_n {α : Type} {e : Rep α} {F : Hp} {v : V} {x : Sum α Nat} {y : Nat} (r : (pAlt e pN).r F v x) (h : x = Sum.inr y) : v = .int ((y : Nat) : Int) := by subst h; exact r
theorem alt_l {α β : Type} {e : Rep α} {f : Rep β} {F : Hp} {v : V} {x : Sum α β} {y : α} (r : (pAlt e f).r F v x) (h : x = Sum.inl y) : e.r F v y := by subst h; exact r
def rLenD : List V → Hp → VK → Prop := fun xs H Q => ∃ (p : Addr) (kvs : List (Key × V)), xs = [.ref p] ∧ H p = some (.dK kvs) ∧ Q (.int kvs.length) H
theorem len_D {κ α : Type} [DecidableEq κ] [KeyT κ] {e : Rep α} {F H : Hp} {v : V} {m : List (κ × α)} {σ : L2.St} {ta : TE} (r : (pD e).r F v m) (f : Ex F H) (ha : Val ta σ H v) : Val (tCB rLenD (tCons ta tNil)) σ H (.int ((m.length : Nat) : Int)) := by
  obtain ⟨p, kvs, rfl, hp, a⟩ := D_rd r f
  exact v_cb1 ha fun Q k => ⟨p, kvs, rfl, hp, by rw [a.len]; exact k⟩
end Wk
/-! SrtD: sorted(d) of a dict whose keys are numbers, however many (after the rule for fewer than 64, with the sort of SortInts). -/
namespace Wk
open PySem PySem.Spec PyProof.Rows L2
/-- sorted(d), any number of keys -/
def rSortedDX : List V → Hp → VK → Prop := fun xs H Q => ∃ (a : Addr) (kvs : List (Key × V)) (ks : List Int), xs = [.ref a] ∧ Rd H a (.dK kvs) ∧ kvs.map (·.1) = ks.map Sum.inl ∧ ks.length < 1000000 ∧ ∀ (ys : List Int) (p : Addr), ys.Perm ks → ys.Pairwise (· ≤ ·) → H p = none → Q (.ref p) (upd H p (.lst (ys.map V.int)))
section
variable {X : Cx}
theorem call_sortedDX (hcalm : X.calm = true) : CallR X (.builtin "sorted") rSortedDX := by
  intro pins s σ H xs us Q Iv rr qq
  obtain ⟨da, kvs, ks, ex, hd, hks, hbig, qq⟩ := qq
  subst ex
  obtain ⟨u1, eu, rx⟩ := vals1 rr
  subst eu
  cases rx
  obtain ⟨zz, lo, vs, rel, dd⟩ := dk_rd Iv.hok hd
  obtain ⟨ep, hat⟩ := dd.dictAt
  have hks2 : vs.map (·.1) = ks.map Sum.inl := rel.keys.symm.trans hks
  have hln : vs.length = ks.length := by
    have el := congrArg List.length hks2
    rw [List.length_map, List.length_map] at el; exact el
  have hsz : ks.length ≤ sizeLine := by rw [sizeLine_eq]; omega
  refine Calls.call_function_entry kind_sorted plain_sorted entry_sorted (args_sorted1 _) ?_
  unfold Builtin.«sorted»
  refine wpAny_bind (m := checkCount "sorted" 1 1 _) (wpAny_pure ?_)
  refine wpAny_bind (PySem.W.kdu_collect (A := X.A.in1) (PySem.W.kdl_dict (knd := mixKind X.prog X.w) (kvs := vs) (ep := ep) lo) (Iv.ok.hd hcalm) hat (by rw [hln]; exact hsz) fun hp2 tk2 ac hkp hac => ?_)
  have hal2 : ac.toList.length = ks.length := by rw [Array.length_toList, hac.1, hln]
  have hInt : IntsAre ac.toList ks := ints_each hal2 fun j v e => by
    obtain ⟨key, x, e1, e2⟩ := hac.2 j v (by rw [← Array.getElem?_toList]; exact e)
    have e3 : (vs.map (·.1))[j]? = some key := by rw [List.getElem?_map, e1]; rfl
    rw [hks2, List.getElem?_map] at e3
    cases e4 : ks[j]? with
    | none => rw [e4] at e3; cases e3
    | some y =>
      rw [e4] at e3
      have e5 : Sum.inl y = key := Option.some.inj e3
      subst e5
      rcases keyIs_shape (show keyIs (Sum.inl y) v = true from e2) with ⟨i, t, ek, ev⟩ | ⟨z, t, ek, ev⟩
      · cases ek; exact ⟨y, t, rfl, ev⟩
      · cases ek
  have Iv2 : Inv X pins σ H { s with heap := hp2, toks := tk2 } := Iv.kept hkp
  refine wpAny_bind (wpAny_newList ?_ (by rw [hal2]; exact hsz))
  have hob2 : (hp2.push (seqObj "list" ac.toList.toArray 0)).get? hp2.objs.size = some (seqObj "list" ac.toList.toArray 0) := Heap.get?_push_size _ rfl
  show wpAny _ _ _ _ _ { s with heap := hp2.push (seqObj "list" ac.toList.toArray 0), toks := tk2 }
  refine wpAny_bind (wpAny_holding (wpAny_call_entry slot_list_sort ⟨_, hob2, rfl⟩ entry_list_sort
    (SrtO.list_sort_ord (s := { s with heap := hp2.push (seqObj "list" ac.toList.toArray 0), toks := tk2 }) SrtO.swo_int hob2 (by rw [hal2]; exact hsz) (fun h2 => SrtO.ints_sortable hInt h2) fun out g1 g2 => ⟨_, rfl, ?_⟩) (args_list_sort _)))
  obtain ⟨k1, k2, k3⟩ := SrtO.ints_out hInt g1 g2
  obtain ⟨ep2, hep2⟩ := sortedHeap_at (vs := ac.toList) (out := out.toArray) hob2
  have hlen2 : ((out.map SrtO.iv).map V.int).length ≤ sizeLine := by rw [List.length_map, k2.length_eq]; exact hsz
  refine wpAny_pure ⟨_, rfl, .ref hp2.objs.size, upd H hp2.objs.size (.lst ((out.map SrtO.iv).map V.int)), Iv2.laid (t' := tk2) (fun b u e => ?_) (Nat.le_refl _)
    (show ObjOk X.prog X.w _ _ _ (.lst ((out.map SrtO.iv).map V.int)) from ⟨hlen2, out, ep2, vals_of_ints k1, hep2⟩), rfl, qq _ _ k2 k3 (Iv2.hok.fresh (Nat.le_refl _))⟩
  have hbl : b < hp2.objs.size := Heap.lt_size e
  rw [sortedHeap_old (Nat.ne_of_lt hbl) (by rw [size_push']; exact Nat.lt_succ_of_lt hbl)]
  exact Heap.get?_push_of_some _ e
end
section
variable {K : PySem.W.Frag} {F0 H0 F H H' : Hp} {Q : VK} {v : V}
theorem n_sortDX {α : Type} {e : Rep α} {m : List (Nat × α)} (r : (pD e).r F v m) (w : Wf F0 H0 F H) (hl : m.length < 1000000) (k : ∀ (ys : List Nat) p H', ys.Perm (m.map (·.1)) → ys.Pairwise (· ≤ ·) → H p = none → Wf F H F H' → XL pN H0 F H' p ys → Q (.ref p) H') : rSortedDX [v] H Q := by
  obtain ⟨p, kvs, rfl, hp, a⟩ := r
  refine ⟨p, kvs, (m.map (·.1)).map Int.ofNat, rfl, .inl (w.f _ _ hp), a.nkeys, by rw [List.length_map, List.length_map]; exact hl, fun ys q hperm hs hq => ?_⟩
  have e1 : ys = (ys.map Int.toNat).map Int.ofNat := by
    rw [List.map_map]
    have : ys.map (Int.ofNat ∘ Int.toNat) = ys.map id := List.map_congr_left fun y hy => by
      obtain ⟨n, _, rfl⟩ := List.mem_map.mp (hperm.mem_iff.mp hy)
      rfl
    rw [this, List.map_id]
  have e2 : (ys.map Int.toNat).Perm (m.map (·.1)) := by
    have := hperm.map Int.toNat
    rw [List.map_map (l := m.map (·.1))] at this
    have z : (m.map (·.1)).map (Int.toNat ∘ Int.ofNat) = (m.map (·.1)).map id := List.map_congr_left fun y _ => rfl
    rw [z, List.map_id] at this
    exact this
  have e3 : (ys.map Int.toNat).Pairwise (· ≤ ·) := List.pairwise_map.mpr (hs.imp fun h => Int.toNat_le_toNat h)
  have go : ∀ zs : List Nat, All pN F ((zs.map Int.ofNat).map V.int) zs := by
    intro zs
    induction zs with
    | nil => trivial
    | cons y zs ih => exact ⟨rfl, ih⟩
  have a2 := go (ys.map Int.toNat)
  rw [← e1] at a2
  exact k _ q _ e2 e3 hq (Wf.newX w.f hq) ⟨_, Xc.mk' w hq, a2⟩
end
end Wk
/-! Xn: defs that may raise; try. -/
namespace Wk
open PySem L2
def tTry (K : PySem.W.Frag) (c : Value) (tb : WX → TS) (ts : Addr → Value → Option Addr → TS) (Wout : WX) : TS := fun D σ H => tb (wOnly K c ts Wout D) D σ H
theorem a_tryI {K : PySem.W.Frag} {c : Value} {tb : WX → TS} {ts : Addr → Value → Option Addr → TS} {Wout : WX} {D : Ends} {σ : L2.St} {H : Hp} (h : tb (wOnly K c ts Wout D) D σ H) : tTry K c tb ts Wout D σ H := h
theorem a_exc {K : PySem.W.Frag} {c cls : Value} {d : Option Addr} {ts : Addr → Value → Option Addr → TS} {Wout : WX} {D : Ends} {σ : L2.St} {H : Hp} (he : PySem.W.exmOne K cls c = some true) (h : ∀ a, H a = none → ts a cls d D σ H) : wOnly K c ts Wout D cls d σ H :=
  ⟨true, he, fun _ => h, fun q => Bool.noConfusion q⟩
theorem a_excO {K : PySem.W.Frag} {c cls : Value} {d : Option Addr} {ts : Addr → Value → Option Addr → TS} {Wout : WX} {D : Ends} {σ : L2.St} {H : Hp} (he : PySem.W.exmOne K cls c = some false) (h : Wout cls d σ H) : wOnly K c ts Wout D cls d σ H :=
  ⟨false, he, fun q => Bool.noConfusion q, fun _ => h⟩
/-- raise, in short -/
def tRaise (W : WX) (C : Addr) : TS := fun _ σ H => W (.ref C) none σ H
theorem e_callS {sp : Sp} {E : L2.St → XK} {tA : TA} {σ : L2.St} {H : Hp} {Q : VK} (h : tA σ H fun vs H1 => sp vs H1 Q (E σ)) : tCallS sp E tA σ H Q := h
/-- what the walk asks of an exception's class -/
structure XC (K : PySem.W.Frag) (mg : Str → Option Value) (n : Str) (C : Addr) : Prop where
  x : PySem.W.excIn K C [.type "ValueError", .type "Exception", .type "BaseException", .type "object"] "ValueError.__new__" = true
  g : mg n = some (.ref C)
  k : PySem.W.keepIn K (.ref C) = true
  b : PySem.W.subIn K (.ref C) (.type "BaseException") = some true
  t : PySem.W.typeIn K (.ref C) = some (.type "type")
theorem exm_of {K : PySem.W.Frag} {S T : Addr} {b : Bool} (h1 : PySem.W.subIn K (.ref T) (.type "BaseException") = some true) (h2 : PySem.W.isClsIn K T = true) (h3 : PySem.W.typeIn K (.ref T) = some (.type "type")) (h4 : PySem.W.subIn K (.ref S) (.ref T) = some b) :
    PySem.W.exmOne K (.ref S) (.ref T) = some b := by
  have e1 : (PySem.W.subIn K (.ref T) (.type "BaseException") == some true) = true := by rw [h1]; rfl
  have e2 : ((PySem.W.clsIn K T).isSome && PySem.W.typeIn K (.ref T) == some (.type "type")) = true := by
    have h2' : (PySem.W.clsIn K T).isSome = true := h2
    rw [h2', h3]; rfl
  show (if (PySem.W.subIn K (.ref T) (.type "BaseException") == some true) = true then (if ((PySem.W.clsIn K T).isSome && PySem.W.typeIn K (.ref T) == some (.type "type")) = true then PySem.W.subIn K (.ref S) (.ref T) else none) else none) = some b
  rw [if_pos e1, if_pos e2]; exact h4
section
variable {X : Cx} {k : Nat} {C : Addr} {x m : Str} {ps : List Str} {sp : Sp} {W : WX} {o e : Expr} {es : List Expr} {p pos apos : Pos} {ta : TE} {t : TA} {pl : Sem Bool}
theorem pe_fnL (F : Fn X.prog X.w X.K X.mg X.base (L2.CX X.prog X.w) k x ps sp) (hr : Room k X.A) (hg : Gl X x) (ha : PA X (e :: es) t) (hdb : (x == ("__debug__" : Str)) = false := by decide)
    (he : starEach (e :: es) X.env = (false, eval e X.env) :: starEach es X.env := by rfl) (hpl : (backTo pos (starEach es X.env)).any (·.1) = false := by rfl) : PE X (.Call (.Name x p) (e :: es) [] pos) (tCall sp [] E0 t) := by
  obtain ⟨f, fd, F, hm, hk, hb⟩ := F.ex
  exact pe_call F hr hg hm hk hb .nil passL ha hdb he hpl
theorem pe_fnS (F : Fn X.prog X.w X.K X.mg X.base (L2.CX X.prog X.w) k x ps sp) (tk : Takes X W) (hr : Room k X.A) (hg : Gl X x) (ha : PA X (e :: es) t) (hdb : (x == ("__debug__" : Str)) = false := by decide)
    (he : starEach (e :: es) X.env = (false, eval e X.env) :: starEach es X.env := by rfl) (hpl : (backTo pos (starEach es X.env)).any (·.1) = false := by rfl) : PE X (.Call (.Name x p) (e :: es) [] pos) (tCallS sp (WE W) t) := by
  obtain ⟨f, fd, F, hm, hk, hb⟩ := F.ex
  exact pe_callS F hr hg hm hk hb (fun σ => passAt tk σ) ha hdb he hpl
/-- methods -/
theorem pe_mdL (M : Md X.prog X.w X.K X.mg X.base (L2.CX X.prog X.w) k C m ps sp) (cl : Cls X.K C) (hr : Room k X.A) (he : PE X o ta) (ha : PA X (e :: es) t)
    (hst : starEach (e :: es) X.env = (false, eval e X.env) :: starEach es X.env := by rfl) (hpl : (backTo pos (starEach es X.env)).any (·.1) = false := by rfl)
    (ht : eval (.Call (.Attribute o m apos) (e :: es) [] pos) X.env = (do
      let ov ← eval o X.env
      standAt apos.atName
      let (f, first) ← holding [ov] (getMethod ov m pl)
      callWith pos f first (backTo pos (starEach (e :: es) X.env)) (backToKw pos (keywordEach [] X.env))) := by rfl) :
    PE X (.Call (.Attribute o m apos) (e :: es) [] pos) (tMeth C m sp [] E0 ta t) := by
  obtain ⟨f, fd, F, hm, hb⟩ := M.ex
  exact pe_meth he cl hm F hr hb .nil passL ha hst hpl ht
def tMdS (C : Addr) (m : Str) (sp : Sp) (E : L2.St → XK) (ta : TE) (t : TA) : TE := fun σ H Q => ta σ H fun x H1 => ∃ a dx fs, x = .ref a ∧ H1 a = some (.ins C dx fs) ∧ fs.lookup m = none ∧ t σ H1 fun vs H2 => sp (x :: vs) H2 Q (E σ)
theorem e_mdS {E : L2.St → XK} {σ : L2.St} {H : Hp} {Q : VK} (h : ta σ H fun x H1 => ∃ a dx fs, x = .ref a ∧ H1 a = some (.ins C dx fs) ∧ fs.lookup m = none ∧ t σ H1 fun vs H2 => sp (x :: vs) H2 Q (E σ)) : tMdS C m sp E ta t σ H Q := h
theorem pe_mdS (M : Md X.prog X.w X.K X.mg X.base (L2.CX X.prog X.w) k C m ps sp) (tk : Takes X W) (cl : Cls X.K C) (hr : Room k X.A) (he : PE X o ta) (ha : PA X (e :: es) t)
    (hst : starEach (e :: es) X.env = (false, eval e X.env) :: starEach es X.env := by rfl) (hpl : (backTo pos (starEach es X.env)).any (·.1) = false := by rfl)
    (ht : eval (.Call (.Attribute o m apos) (e :: es) [] pos) X.env = (do
      let ov ← eval o X.env
      standAt apos.atName
      let (f, first) ← holding [ov] (getMethod ov m pl)
      callWith pos f first (backTo pos (starEach (e :: es) X.env)) (backToKw pos (keywordEach [] X.env))) := by rfl) :
    PE X (.Call (.Attribute o m apos) (e :: es) [] pos) (tMdS C m sp (WE W) ta t) := by
  obtain ⟨f, fd, F, hm, hb⟩ := M.ex
  refine ⟨fun pins s σ H Q Iv hh => ?_⟩
  refine PySem.W.methodCall_KW (pl := pl) (thn (he.run pins s σ H _ Iv hh) fun u s1 ⟨x, H1, Iv1, rx, a, dx, fs, ex, ea, lk, qq⟩ => ?_) ht
  subst ex
  obtain rfl : u = Value.ref a := rx
  refine getmeth_ok Iv1 ea cl hm lk ?_
  refine PySem.W.callWith_K (first := [.ref a]) (h₀ := X.base) Iv1.ok.mod.kin hm.kp (thn (ha.run pos pins s1 σ H1 _ Iv1 qq) fun us s2 ⟨vs, H2, Iv2, rv, q2⟩ => ⟨Iv2.kIn, ?_⟩) hst hpl
  exact run_fnS (us := .ref a :: us) (vs := .ref a :: vs) F hr hb (passAt tk σ) Iv2 (.cons rfl rv) q2
end
theorem a_par {i j : Nat} {tA : TA} {D : Ends} {σ : L2.St} {H : Hp} (h : tA σ H fun vs H1 => ∃ v w, vs = [v, w] ∧ D.nx ((σ.set i (some v)).set j (some w)) H1) : tPar i j tA D σ H := h
theorem a_raise {W : WX} {C : Addr} {D : Ends} {σ : L2.St} {H : Hp} (h : W (.ref C) none σ H) : tRaise W C D σ H := h
end Wk
/-! An: things of any kind; constants of the module. -/
namespace Wk
open PySem L2
/-- a thing: a whole number, a truth, None, a text, or another one of a kind that is told -/
inductive An where
  | i (n : Int)
  | b (b : Bool)
  | n
  | s (x : Str)
  | o (T : String)
  | l (xs : List An)
  | t (xs : List An)
mutual
def anR (F : Hp) : An → V → Prop
  | .i n, v => v = .int n
  | .b b, v => v = .bl b
  | .n, v => v = .non
  | .s x, v => v = .str x
  | .o T, v => ∃ p, v = .ref p ∧ ((T = "list" ∧ ∃ vs, F p = some (.lst vs)) ∨ (T = "tuple" ∧ ∃ vs, F p = some (.tup vs)) ∨ (T = "dict" ∧ ∃ kvs, F p = some (.dK kvs)))
  | .l xs, v => ∃ p vs, v = .ref p ∧ F p = some (.lst vs) ∧ anRs F xs vs
  | .t xs, v => ∃ p vs, v = .ref p ∧ F p = some (.tup vs) ∧ anRs F xs vs
def anRs (F : Hp) : List An → List V → Prop
  | [], [] => True
  | x :: xs, v :: vs => anR F x v ∧ anRs F xs vs
  | _, _ => False
end
mutual
theorem anR_mono {F F' : Hp} (h : Ex F F') : ∀ {x : An} {v : V}, anR F x v → anR F' x v
  | .i _, _, r => r
  | .b _, _, r => r
  | .n, _, r => r
  | .s _, _, r => r
  | .o T, v, r => by
    obtain ⟨p, e, q⟩ := (show ∃ p, v = .ref p ∧ _ from r)
    refine ⟨p, e, ?_⟩
    rcases q with ⟨t, vs, q⟩ | ⟨t, vs, q⟩ | ⟨t, vs, q⟩
    · exact .inl ⟨t, vs, h _ _ q⟩
    · exact .inr (.inl ⟨t, vs, h _ _ q⟩)
    · exact .inr (.inr ⟨t, vs, h _ _ q⟩)
  | .l _, _, ⟨p, vs, a, b, c⟩ => ⟨p, vs, a, h _ _ b, anRs_mono h c⟩
  | .t _, _, ⟨p, vs, a, b, c⟩ => ⟨p, vs, a, h _ _ b, anRs_mono h c⟩
theorem anRs_mono {F F' : Hp} (h : Ex F F') : ∀ {xs : List An} {vs : List V}, anRs F xs vs → anRs F' xs vs
  | [], [], _ => trivial
  | _ :: _, _ :: _, ⟨a, b⟩ => ⟨anR_mono h a, anRs_mono h b⟩
  | [], _ :: _, r => r.elim
  | _ :: _, [], r => r.elim
end
def pA : Rep An := ⟨fun F v x => anR F x v, fun h r => anR_mono h r⟩
theorem anRs_all {F : Hp} : ∀ {xs : List An} {vs : List V}, anRs F xs vs ↔ All pA F vs xs
  | [], [] => Iff.rfl
  | x :: xs, v :: vs => ⟨fun ⟨a, b⟩ => ⟨a, anRs_all.mp b⟩, fun ⟨a, b⟩ => ⟨a, anRs_all.mpr b⟩⟩
  | [], _ :: _ => ⟨fun q => q.elim, fun q => q.elim⟩
  | _ :: _, [] => ⟨fun q => q.elim, fun q => q.elim⟩
theorem an_l {F : Hp} {v : V} {xs : List An} : pA.r F v (.l xs) ↔ (pL pA).r F v xs :=
  ⟨fun r => let ⟨p, vs, a, b, c⟩ := (show ∃ p vs, v = .ref p ∧ F p = some (.lst vs) ∧ anRs F xs vs from r); ⟨p, vs, a, b, anRs_all.mp c⟩, fun ⟨p, vs, a, b, c⟩ => (show ∃ p vs, v = .ref p ∧ F p = some (.lst vs) ∧ anRs F xs vs from ⟨p, vs, a, b, anRs_all.mpr c⟩)⟩
theorem an_t {F : Hp} {v : V} {xs : List An} : pA.r F v (.t xs) ↔ (pTL pA).r F v xs :=
  ⟨fun r => let ⟨p, vs, a, b, c⟩ := (show ∃ p vs, v = .ref p ∧ F p = some (.tup vs) ∧ anRs F xs vs from r); ⟨p, vs, a, b, anRs_all.mp c⟩, fun ⟨p, vs, a, b, c⟩ => (show ∃ p vs, v = .ref p ∧ F p = some (.tup vs) ∧ anRs F xs vs from ⟨p, vs, a, b, anRs_all.mpr c⟩)⟩
/-- readings as things of any kind -/
def Cv {α : Type} (e : Rep α) (f : α → An) : Prop := ∀ {F : Hp} {v : V} {x : α}, e.r F v x → pA.r F v (f x)
theorem cv_nat : Cv pN (fun n => .i (n : Int)) := fun r => r
theorem cv_int : Cv pI .i := fun r => r
theorem cv_bool : Cv pB .b := fun r => r
theorem cv_str : Cv pS .s := fun r => r
theorem cv_any : Cv pA (fun x => x) := fun r => r
theorem cv_unit : Cv pU (fun _ => .n) := fun r => r
theorem cv_all {α : Type} {e : Rep α} {f : α → An} (h : Cv e f) {F : Hp} : ∀ {vs : List V} {xs : List α}, All e F vs xs → All pA F vs (xs.map f)
  | [], [], _ => trivial
  | _ :: _, _ :: _, ⟨a, b⟩ => ⟨h a, cv_all h b⟩
  | [], _ :: _, q => q.elim
  | _ :: _, [], q => q.elim
theorem cv_L {α : Type} {e : Rep α} {f : α → An} (h : Cv e f) : Cv (pL e) (fun xs => .l (xs.map f)) := fun ⟨p, vs, a, b, c⟩ => an_l.mpr ⟨p, vs, a, b, cv_all h c⟩
theorem cv_TL {α : Type} {e : Rep α} {f : α → An} (h : Cv e f) : Cv (pTL e) (fun xs => .t (xs.map f)) := fun ⟨p, vs, a, b, c⟩ => an_t.mpr ⟨p, vs, a, b, cv_all h c⟩
theorem cv_T2 {α β : Type} {e : Rep α} {g : Rep β} {f : α → An} {k : β → An} (h : Cv e f) (h2 : Cv g k) : Cv (pT2 e g) (fun x => .t [f x.1, k x.2]) := fun ⟨p, u, w, a, b, c, d⟩ => an_t.mpr ⟨p, _, a, b, h c, h2 d, trivial⟩
theorem cv_T3 {α β γ : Type} {e : Rep α} {g : Rep β} {g2 : Rep γ} {f : α → An} {k : β → An} {k2 : γ → An} (h : Cv e f) (h2 : Cv g k) (h3 : Cv g2 k2) : Cv (pT3 e g g2) (fun x => .t [f x.1, k x.2.1, k2 x.2.2]) := fun ⟨p, u, w, y, a, b, c, d, q⟩ => an_t.mpr ⟨p, _, a, b, h c, h2 d, h3 q, trivial⟩
def An.ty : An → String
  | .i _ => "int"
  | .b _ => "bool"
  | .n => "NoneType"
  | .s _ => "str"
  | .o T => T
  | .l _ => "list"
  | .t _ => "tuple"
/-- isinstance(x, T) for a built-in T -/
def isA (T : String) (x : An) : Bool := x.ty == T || (T == "int" && x.ty == "bool")
section
variable {α β : Type} {e : Rep α} {f : Rep β} {K : PySem.W.Frag} {σ : L2.St} {F F' H : Hp} {ta : TE} {v : V} {x : An} {xs : List α} {y : α × β}
theorem an_L (r : (pL e).r F v xs) : pA.r F v (.o "list") := let ⟨p, vs, a, b, _⟩ := r; (show ∃ p, v = .ref p ∧ _ from ⟨p, a, .inl ⟨rfl, vs, b⟩⟩)
theorem an_TL (r : (pTL e).r F v xs) : pA.r F v (.o "tuple") := let ⟨p, vs, a, b, _⟩ := r; (show ∃ p, v = .ref p ∧ _ from ⟨p, a, .inr (.inl ⟨rfl, vs, b⟩)⟩)
theorem an_T2 (r : (pT2 e f).r F v y) : pA.r F v (.o "tuple") := let ⟨p, u, w, a, b, _⟩ := r; (show ∃ p, v = .ref p ∧ _ from ⟨p, a, .inr (.inl ⟨rfl, _, b⟩)⟩)
theorem an_ty (r : pA.r F v x) (h : Ex F H) : TyX K H v (.type x.ty) := by
  cases x with
  | i n => cases (show v = V.int n from r); exact .base (.int _)
  | b b => cases (show v = V.bl b from r); exact .base (.bl _)
  | n => cases (show v = V.non from r); exact .base .non
  | s x => cases (show v = V.str x from r); exact .base (.str _)
  | o T =>
    obtain ⟨p, rfl, q⟩ := (show ∃ p, v = .ref p ∧ _ from r)
    rcases q with ⟨rfl, vs, q⟩ | ⟨rfl, vs, q⟩ | ⟨rfl, vs, q⟩
    · exact .base (.lst (h _ _ q))
    · exact .base (.tup (h _ _ q))
    · exact .base (.dK (h _ _ q))
  | l xs =>
    obtain ⟨p, vs, rfl, q, _⟩ := an_l.mp r
    exact .base (.lst (h _ _ q))
  | t xs =>
    obtain ⟨p, vs, rfl, q, _⟩ := an_t.mp r
    exact .base (.tup (h _ _ q))
/-- the classes that are asked for -/
def okT (T : String) : Bool := ["int", "bool", "str", "list", "tuple", "dict"].all fun t => ["int", "bool", "NoneType", "str", "list", "tuple", "dict"].all fun u => kitB u T == some (u == T || (T == "int" && u == "bool"))
theorem kit_isA (T : String) (r : pA.r F v x) (hT : ∀ u ∈ ["int", "bool", "NoneType", "str", "list", "tuple", "dict"], kitB u T = some (u == T || (T == "int" && u == "bool"))) : kitB x.ty T = some (isA T x) := by
  unfold isA
  cases x with
  | i n => exact hT "int" (by simp)
  | b b => exact hT "bool" (by simp)
  | n => exact hT "NoneType" (by simp)
  | s x => exact hT "str" (by simp)
  | o T' =>
    obtain ⟨p, _, q⟩ := (show ∃ p, v = .ref p ∧ _ from r)
    rcases q with ⟨e, _⟩ | ⟨e, _⟩ | ⟨e, _⟩ <;> subst e
    · exact hT "list" (by simp)
    · exact hT "tuple" (by simp)
    · exact hT "dict" (by simp)
  | l xs => exact hT "list" (by simp)
  | t xs => exact hT "tuple" (by simp)
theorem v_isiA (T : String) (ha : Val ta σ H v) (r : pA.r F v x) (h : Ex F H) (hT : ∀ u ∈ ["int", "bool", "NoneType", "str", "list", "tuple", "dict"], kitB u T = some (u == T || (T == "int" && u == "bool")) := by decide +kernel) : Val (tCB (rIsi K) (tCons ta (tCons (tC (.ty T)) tNil))) σ H (.bl (isA T x)) :=
  v_isi ha (an_ty r h) (kit_isA T r hT)
theorem an_i {n : Int} (r : pA.r F v x) (h : x = An.i n) : v = .int n := by subst h; exact r
theorem an_toL {ys : List An} (r : pA.r F v x) (h : x = An.l ys) : (pL pA).r F v ys := by subst h; exact an_l.mp r
end
/-- a constant of the module -/
theorem pe_globE {X : Cx} {x : Str} {v : V} {pos : Pos} (h : ∃ u, X.mg x = some u ∧ RelV v u) (hg : Gl X x) (hd : (x == ("__debug__" : Str)) = false := by decide) : PE X (.Name x pos) (tC v) := by
  obtain ⟨u, h1, h2⟩ := h
  exact pe_glob hg h1 h2 hd
end Wk
/-! ETup: enumerate(a tuple), after the rule for lists. -/
namespace PySem
open Sem (wp)
open AutoSeq1 (wpAny_loadPart')
theorem enumT_meets (tt : Addr) (o : Obj) (items : Array Value) (n : Nat) (hcls : o.cls = .type "tuple") (hdat : o.data = .seq items n) :
    Meets (Builtin.«enumerate.__new__» ⟨[.type "enumerate", .ref tt], []⟩) (fun _ R s => s.heap.get? tt = some o ∧
      R (.ok (.ret (.ref (s.heap.push { cls := .type "tuple_iterator", data := .fields #[.ref tt, .int 0 0] }).objs.size)))
        { s with heap := (s.heap.push { cls := .type "tuple_iterator", data := .fields #[.ref tt, .int 0 0] }).push { cls := .type "enumerate", data := .fields #[.none, .bool false, .ref s.heap.objs.size, rawInt 0, .none, .none] } }) :=
  .of_wp fun prog w A R s h => by
    obtain ⟨hp, g, d, tk, os⟩ := s
    obtain ⟨hl, h⟩ := h
    have hsub := sub_enumerate
    obtain ⟨oc, od, odt, osl⟩ := o
    replace hcls : oc = .type "tuple" := hcls
    replace hdat : odt = .seq items n := hdat
    subst hcls hdat
    have hT : Heap.IsTuple (Shared.heap ⟨hp, g, d, tk, os⟩) tt items := ⟨_, hl, rfl, n, rfl⟩
    wp_walk using wpAny_loadPart' hl
    refine wpAny_stack_any fun st => wpAny_pure ?_
    split
    · rename_i c _ _ _ _ _
      cases (c == Value.type "enumerate")
      · (wp_walk using wpAny_loadPart' hl, wpAny_pyIter_tuple hT); exact ⟨_, rfl, h⟩
      · (wp_walk using wpAny_loadPart' hl, wpAny_pyIter_tuple hT); exact ⟨_, rfl, h⟩
    · (wp_walk using wpAny_loadPart' hl, wpAny_pyIter_tuple hT); exact ⟨_, rfl, h⟩
section
variable {prog : Program} {w : World} {A : Around} {E : Value → Shared → Prop} {s : Shared}
theorem call_enumT {tt : Addr} {items : Array Value} {Q : Value → Shared → Prop} (hL : s.heap.IsTuple tt items)
    (h : ∀ h', IsEnum h' (s.heap.objs.size + 1) s.heap.objs.size 0 .none → h'.IsTupleIter s.heap.objs.size tt 0 → h'.objs.size = s.heap.objs.size + 2 → (∀ b o, s.heap.get? b = some o → h'.get? b = some o) → Q (.ref (s.heap.objs.size + 1)) { s with heap := h' }) :
    wpAny (model prog w) A (call (.type "enumerate") [.ref tt]) Q E s := by
  obtain ⟨ob, hl, hcl, n, hda⟩ := hL
  refine callType_new F.called_enumerate (by decide) (F.typeCall_enumerate_1 _) (F.newCall_enumerate_1 _) (fun obj => F.args_object_init_2 obj _) F.entry_enumerate_new (enumT_meets tt ob items n hcl hda) ⟨hl, ?_⟩
  have hsz : (s.heap.push { cls := .type "tuple_iterator", data := .fields #[.ref tt, .int 0 0] }).objs.size = s.heap.objs.size + 1 := Heap.size_push ..
  show _ ∧ _
  rw [hsz]
  have hen : IsEnum ((s.heap.push { cls := .type "tuple_iterator", data := .fields #[.ref tt, .int 0 0] }).push { cls := .type "enumerate", data := .fields #[.none, .bool false, .ref s.heap.objs.size, rawInt 0, .none, .none] }) (s.heap.objs.size + 1) s.heap.objs.size 0 .none := by
    have q := Heap.get?_push_size (s.heap.push { cls := .type "tuple_iterator", data := .fields #[.ref tt, .int 0 0] }) (o := { cls := .type "enumerate", data := .fields #[.none, .bool false, .ref s.heap.objs.size, rawInt 0, .none, .none] }) rfl
    rw [hsz] at q; exact q
  exact ⟨⟨_, hen, rfl⟩, h _ hen ⟨_, Heap.get?_push_of_some _ (Heap.get?_push_size _ rfl), rfl, rfl⟩ (by rw [Heap.size_push, hsz]) fun b o x => Heap.get?_push_of_some _ (Heap.get?_push_of_some _ x)⟩
end
end PySem
namespace Wk
open PySem PySem.Spec PyProof.Rows L2
/-- the tuple at a as it stands at each turn, each item in a new pair -/
def IteT (K : PySem.W.Frag) (a : Addr) : It :=
  ⟨fun i H => ∃ (xs : List V) (x : V), SqT K H a xs ∧ xs[i]? = some x, fun i H v H' => ∃ T x, v = .ref T ∧ H T = none ∧ H' = upd H T (.tup [.int (i : Nat), x]) ∧ ∀ xs, SqT K H a xs → xs[i]? = some x, fun i H => ∃ xs : List V, SqT K H a xs ∧ xs.length ≤ i⟩
theorem enumT_end {prog : Program} {w : World} {A : Around} {E : Value → Shared → Prop} {s : Shared} {en iw tt : Addr} {c : Int} {i : Nat} {items : Array Value} {old : Value} {Q : Option Value → Shared → Prop} (hh : A.handled = none)
    (hen : IsEnum s.heap en iw c old) (hit : s.heap.IsTupleIter iw tt i) (ht : s.heap.IsTuple tt items) (hx : items[i]? = none) (hQ : ∀ h', Heap.ExtBut iw s.heap h' → Q none { s with heap := h' }) : wpAny (model prog w) A (pyNext (.ref en)) Q E s := by
  have hTy2 : s.TypeIs (.ref en) "enumerate" := ⟨_, hen, rfl⟩
  unfold pyNext
  refine wpAny_bind (wpAny_attempt (wpAny_callSpecial?_slot (name := Str.ofString "__next__") hTy2 F.slot_enumerate_next (wpAny_call_entry F.slot_enumerate_next hTy2 F.entry_enumerate_next ?_ (F.args_enumerate_next_1 _))))
  show wpAny _ _ (field (.ref en) 2 >>= _) _ _ _
  refine wpAny_bind (wpAny_field hen rfl (x := .ref iw) rfl ?_)
  refine wpAny_bind (wpAny_nextOf_tuple_end hh hit ht hx fun h' x2 hx1 hx2 => ?_)
  obtain ⟨ob, ho, hcl⟩ := hx2
  refine wpAny_bind (wpAny_isInstance (T := "StopIteration") (b := true) ⟨ob, ho, hcl⟩ isSubtype_stop ?_)
  exact wpAny_pure (hQ _ hx1)
theorem turn_enumT {P : Program} {w : World} {K : PySem.W.Frag} {elts : List Expr} {kk : Nat} {tpos : Pos} (a en iw : Addr) :
    Turn P w K (.Tuple elts kk tpos) (IteT K a) [en, iw] en (fun i h => (∃ old, IsEnum h en iw ((i : Nat) : Int) old) ∧ h.IsTupleIter iw a i ∧ en ≠ iw ∧ a ≠ iw ∧ en ≠ a) where
  mem := by simp
  obj := fun i h stt b hb => by
    obtain ⟨⟨old, hen⟩, ⟨o, ho, hc, hd⟩, _⟩ := stt
    have e' : b = en ∨ b = iw := by simpa using hb
    rcases e' with z | z
    · rw [z]; exact ⟨_, hen, fun v q => nomatch q⟩
    · rw [z]; exact ⟨o, ho, fun v q => by rw [hd] at q; cases q⟩
  keep := fun i h h' stt k => let ⟨⟨old, hen⟩, hi, hne⟩ := stt; ⟨⟨old, k en (by simp) _ hen⟩, hi.at fun o q => k iw (by simp) o q, hne⟩
  item := by
    intro X hP hw hK hc i pins s σ H E Iv hff stt hg
    subst hP hw hK
    obtain ⟨⟨old, hen⟩, hit, hne, hai, hea⟩ := stt
    obtain ⟨xs, x, hq, hx⟩ := hg
    obtain ⟨its, rv, pt, hz⟩ := Iv.tuple hq
    obtain ⟨u, hu, ru⟩ := rv.get hx
    have hT0 : s.heap.IsTuple a its.toArray := pt
    have hel : en < s.heap.objs.size := Heap.lt_size hen
    have hil : iw < s.heap.objs.size := by obtain ⟨_, q, _⟩ := hit; exact Heap.lt_size q
    have hlt : i < its.toArray.size := by rw [List.size_toArray]; exact (List.getElem?_eq_some_iff.mp hu).1
    refine wpAny_pyNext_enum_itemD (Draws.tuple (A := X.A.in1) (Iv.ok.hd hc) iw a hai its.toArray) hen ⟨hit, hT0⟩ hlt hne (by simp [hne, hea]) fun x2 h' tk hP ho hstt' hT hsz hkp => ?_
    obtain rfl : x2 = u := by
      have h1 : its[i]? = some x2 := by simpa using hP
      rw [hu] at h1; exact (Option.some.inj h1).symm
    refine ⟨_, rfl, wpAny_letOwnedTupleGo_enum (s := { s with heap := h', toks := tk + 1 }) ho fun h'' he' sb => ?_⟩
    have hT2 : h''.get? s.heap.objs.size = some { cls := .type "tuple", data := .seq #[.int i tk, x2] } := (sb.2 _ (Nat.ne_of_gt hel)).trans hT
    have newt : ObjOk X.prog X.w (upd H s.heap.objs.size (.tup [.int (i : Nat), x])) h'' s.heap.objs.size (.tup [.int (i : Nat), x]) :=
      ⟨by show 2 ≤ sizeLine; decide, [.int i tk, x2], .cons ⟨_, rfl⟩ (.cons ru .nil), ⟨_, hT2, rfl, _, rfl⟩⟩
    have Iv1 : Inv X pins σ (upd H s.heap.objs.size (.tup [.int (i : Nat), x])) { s with heap := h'', toks := tk + 1 } :=
      Iv.turnedNew (ch := [en, iw]) (fun b ob hb q => (sb.2 b (fun z => hb (by simp [z]))).trans (hkp b ob (fun z => hb (by simp [z])) (fun z => hb (by simp [z])) q)) hff (Nat.le_refl _) newt
    refine ⟨.ref s.heap.objs.size, _, Iv1, rfl, ⟨_, x, rfl, Iv.hok.fresh (Nat.le_refl _), rfl, fun ys hy => by rw [Iv.tuple_inj hy hq]; exact hx⟩, ⟨⟨x2, ?_⟩, hstt'.1.at fun o q => (sb.2 iw (Ne.symm hne)).trans q, hne, hai, hea⟩, fun b hb => ?_⟩
    · have e1 : ((i + 1 : Nat) : Int) = (i : Int) + 1 := by omega
      rw [e1]; exact he'
    · have hb' : b < s.heap.objs.size := by
        have e' : b = en ∨ b = iw := by simpa using hb
        rcases e' with z | z <;> rw [z] <;> assumption
      rw [upd_ne (Nat.ne_of_lt hb')]
      exact (hff b hb).1
  done := by
    intro X hP hw hK hc i pins s σ H E Iv hff stt hg
    subst hP hw hK
    obtain ⟨⟨old, hen⟩, hit, hne, hai, hea⟩ := stt
    obtain ⟨xs, hq, hx⟩ := hg
    obtain ⟨its, rv, pt, hz⟩ := Iv.tuple hq
    obtain ⟨f0, f1, f2, f3, f4, f5⟩ := hff iw (by simp)
    have hlen := rv.length
    have hT0 : s.heap.IsTuple a its.toArray := pt
    exact enumT_end (Iv.ok.hd hc) hen hit hT0 (by simp; omega) fun h' eb => ⟨rfl, Iv.turned (t' := s.toks) (fun b o hb q => eb b o hb q) f0 f1 f3 f4 f5⟩
  self := fun A i s Q E stt h => let ⟨⟨_, hen⟩, _⟩ := stt; wpAny_pyIter_enum hen h
def iEnumT (K : PySem.W.Frag) (ta : TA) : TI := fun σ H R => ta σ H fun vs H1 => ∃ a xs, vs = [.ref a] ∧ SqT K H1 a xs ∧ R (IteT K a) H1
theorem pi_enumT {X : Cx} {e : Expr} {ta : TA} {p pos tpos : Pos} {elts : List Expr} {kk : Nat} (hg : Gl X "enumerate") (hm : X.mg "enumerate" = none) (ha : PA X [e] ta) (hs : starEach [e] X.env = [(false, eval e X.env)] := by rfl) :
    PI X (.Tuple elts kk tpos) (.Call (.Name "enumerate" p) [e] [] pos) (iEnumT X.K ta) := by
  refine ⟨fun pins s σ H R Iv h => ?_⟩
  refine Call_ (ld_blt Iv hg hm boot_enumerate (PyProof.Rows.callWith_type1 (thn (ha.run pos pins s σ H _ Iv h) fun us s1 ⟨vs, H1, Iv1, r1, q1⟩ => ?_) hs rfl))
  obtain ⟨a, xs, ex, hq, qq⟩ := q1
  subst ex
  cases r1 with
  | cons r rr =>
    cases rr
    cases r
    obtain ⟨its, rv, pt, hz⟩ := Iv1.tuple hq
    have hT0 : s1.heap.IsTuple a its.toArray := pt
    have hal : a < s1.heap.objs.size := by obtain ⟨o, ho, _⟩ := hT0; exact Heap.lt_size ho
    refine call_enumT hT0 fun h' hen hit hsz hkp => wpAny_pyIter_enum hen ?_
    have Iv2 : Inv X pins σ H1 { s1 with heap := h' } := Iv1.kept (t' := s1.toks) hkp
    refine ⟨s1.heap.objs.size + 1, [s1.heap.objs.size + 1, s1.heap.objs.size], _, _, H1, rfl, Iv2, turn_enumT a (s1.heap.objs.size + 1) s1.heap.objs.size, ⟨⟨.none, hen⟩, hit, Nat.succ_ne_self _, Nat.ne_of_lt hal, Nat.ne_of_gt (Nat.lt_succ_of_lt hal)⟩, fun b hb => ?_, qq⟩
    have hle2 : s1.heap.objs.size ≤ b := by
      have z : b = s1.heap.objs.size + 1 ∨ b = s1.heap.objs.size := by simpa using hb
      rcases z with z | z
      · rw [z]; exact Nat.le_succ _
      · rw [z]; exact Nat.le_refl _
    exact Iv1.fpOk hle2 (Iv1.hok.fresh hle2)
section
variable {α : Type} {e : Rep α} {K : PySem.W.Frag} {F H : Hp} {v : V} {xs : List α}
theorem src_enumT {R : It → Hp → Prop} (r : (pTL e).r F v xs) (f : Ex F H) (k : ∀ a, TWk (IteT K a) F (pT2 pN e) (enumT xs) → R (IteT K a) H) : ∃ a ws, [v] = [V.ref a] ∧ SqT K H a ws ∧ R (IteT K a) H := by
  obtain ⟨p, vs, rfl, hp, a⟩ := r
  refine ⟨p, vs, rfl, SqT.of (f _ _ hp), k p ?_⟩
  refine TWk.pairs (G := fun H => SqT K H p vs) (X := fun i => some (.int (i : Nat))) (Y := fun i => vs[i]?) ?_ (fun F' H' h1 h2 => SqT.of (h2 _ _ (h1 _ _ hp))) ?_ ?_
  · rw [enumT_len, ← a.len]
    refine ⟨fun i _ hi q => ⟨vs, vs[i], q, by simp [hi]⟩, fun _ q => ⟨vs, q, Nat.le_refl _⟩, fun i H v H' _ q y => ?_⟩
    obtain ⟨T, x, h1, h2, h3, h4⟩ := y
    exact ⟨T, .int (i : Nat), x, h1, h2, h3, rfl, h4 vs q⟩
  · intro i F' x _ hi hx
    rw [enumT_len] at hi
    rw [enumT_get, List.getElem?_eq_getElem hi]
    exact ⟨i, rfl, (Option.some.inj hx).symm⟩
  · intro i F' x h1 hi hx
    obtain ⟨z, hz, rz⟩ := a.got hx
    rw [enumT_get, hz]
    exact ⟨z, rfl, e.mono h1 rz⟩
/-- tuple(a list) -/
def rTupOf (K : PySem.W.Frag) : List V → Hp → VK → Prop := fun xs H Q => ∃ p ys, xs = [.ref p] ∧ ((SqL K H p ys ∧ ∀ l, H l = none → Q (.ref l) (upd H l (.tup ys))) ∨ (SqT K H p ys ∧ Q (.ref p) H))
theorem n_tupOf {F0 H0 : Hp} {Q : VK} (r : (pL e).r F v xs) (w : Wf F0 H0 F H) (k : ∀ p F' H', Wf F H F' H' → (pTL e).r F' (.ref p) xs → Q (.ref p) H') : rTupOf K [v] H Q := by
  obtain ⟨p, vs, rfl, hp, a⟩ := r
  exact ⟨p, vs, rfl, .inl ⟨SqL.of (w.f _ _ hp), fun l hl => k l _ _ (Wf.new w.f hl) ⟨l, vs, rfl, upd_same, a.mono (Ex.new (w.f.non hl))⟩⟩⟩
end
end Wk
namespace Wk
open PySem PySem.Spec PyProof.Rows L2
/-- a list or a tuple of things of one kind -/
def pSq {α : Type} (e : Rep α) : Rep (List α) := ⟨fun F v xs => ∃ p vs, v = .ref p ∧ (F p = some (.lst vs) ∨ F p = some (.tup vs)) ∧ All e F vs xs, fun h ⟨p, vs, a, b, c⟩ => ⟨p, vs, a, b.imp (h _ _) (h _ _), c.mono h⟩⟩
def iEnumA (K : PySem.W.Frag) (ta : TA) : TI := fun σ H R => ta σ H fun vs H1 => ∃ a xs, vs = [.ref a] ∧ ((SqL K H1 a xs ∧ R (Ite K a) H1) ∨ (SqT K H1 a xs ∧ R (IteT K a) H1))
theorem pi_enumA {X : Cx} {e : Expr} {ta : TA} {p pos tpos : Pos} {elts : List Expr} {kk : Nat} (hg : Gl X "enumerate") (hm : X.mg "enumerate" = none) (ha : PA X [e] ta) (hs : starEach [e] X.env = [(false, eval e X.env)] := by rfl) :
    PI X (.Tuple elts kk tpos) (.Call (.Name "enumerate" p) [e] [] pos) (iEnumA X.K ta) := by
  refine ⟨fun pins s σ H R Iv h => ?_⟩
  refine Call_ (ld_blt Iv hg hm boot_enumerate (PyProof.Rows.callWith_type1 (thn (ha.run pos pins s σ H _ Iv h) fun us s1 ⟨vs, H1, Iv1, r1, q1⟩ => ?_) hs rfl))
  obtain ⟨a, xs, ex, qq⟩ := q1
  subst ex
  cases r1 with
  | cons r rr =>
    cases rr
    cases r
    have hle3 : ∀ b ∈ [s1.heap.objs.size + 1, s1.heap.objs.size], FpOk X pins H1 b := fun b hb => by
      have hle2 : s1.heap.objs.size ≤ b := by
        have z : b = s1.heap.objs.size + 1 ∨ b = s1.heap.objs.size := by simpa using hb
        rcases z with z | z
        · rw [z]; exact Nat.le_succ _
        · rw [z]; exact Nat.le_refl _
      exact Iv1.fpOk hle2 (Iv1.hok.fresh hle2)
    rcases qq with ⟨hq, qq⟩ | ⟨hq, qq⟩
    · obtain ⟨its, rv, pt, hz⟩ := Iv1.list hq
      refine call_enumerate_list pt.isList fun h' hen hit hsz hkp => wpAny_pyIter_enum hen ?_
      have Iv2 : Inv X pins σ H1 { s1 with heap := h' } := Iv1.kept (t' := s1.toks) hkp
      exact ⟨s1.heap.objs.size + 1, [s1.heap.objs.size + 1, s1.heap.objs.size], _, _, H1, rfl, Iv2, turn_enum a (s1.heap.objs.size + 1) s1.heap.objs.size, ⟨⟨.none, hen⟩, hit, Nat.succ_ne_self _⟩, hle3, qq⟩
    · obtain ⟨its, rv, pt, hz⟩ := Iv1.tuple hq
      have hT0 : s1.heap.IsTuple a its.toArray := pt
      have hal : a < s1.heap.objs.size := by obtain ⟨o, ho, _⟩ := hT0; exact Heap.lt_size ho
      refine call_enumT hT0 fun h' hen hit hsz hkp => wpAny_pyIter_enum hen ?_
      have Iv2 : Inv X pins σ H1 { s1 with heap := h' } := Iv1.kept (t' := s1.toks) hkp
      exact ⟨s1.heap.objs.size + 1, [s1.heap.objs.size + 1, s1.heap.objs.size], _, _, H1, rfl, Iv2, turn_enumT a (s1.heap.objs.size + 1) s1.heap.objs.size, ⟨⟨.none, hen⟩, hit, Nat.succ_ne_self _, Nat.ne_of_lt hal, Nat.ne_of_gt (Nat.lt_succ_of_lt hal)⟩, hle3, qq⟩
section
variable {α : Type} {e : Rep α} {K : PySem.W.Frag} {F H : Hp} {v : V} {xs : List α}
theorem sq_L (r : (pL e).r F v xs) : (pSq e).r F v xs := let ⟨p, vs, a, b, c⟩ := r; ⟨p, vs, a, .inl b, c⟩
theorem sq_TL (r : (pTL e).r F v xs) : (pSq e).r F v xs := let ⟨p, vs, a, b, c⟩ := r; ⟨p, vs, a, .inr b, c⟩
theorem src_enumA {R : It → Hp → Prop} (r : (pSq e).r F v xs) (f : Ex F H) (k : ∀ J, TWk J F (pT2 pN e) (enumT xs) → R J H) : ∃ a ws, [v] = [V.ref a] ∧ ((SqL K H a ws ∧ R (Ite K a) H) ∨ (SqT K H a ws ∧ R (IteT K a) H)) := by
  obtain ⟨p, vs, rfl, hp, a⟩ := r
  rcases hp with hp | hp
  · obtain ⟨q, ws, e1, e2, e3⟩ := src_enum (K := K) (R := R) ⟨p, vs, rfl, hp, a⟩ f fun b T => k _ T
    exact ⟨q, ws, e1, .inl ⟨e2, e3⟩⟩
  · obtain ⟨q, ws, e1, e2, e3⟩ := src_enumT (K := K) (R := R) ⟨p, vs, rfl, hp, a⟩ f fun b T => k _ T
    exact ⟨q, ws, e1, .inr ⟨e2, e3⟩⟩
end
end Wk
namespace Wk
open PySem L2
/-- xs[i] = v -/
theorem a_lset {α : Type} {e : Rep α} {σ : L2.St} {F0 H0 F H : Hp} {p : Addr} {xs : List α} {y : α} {i : Nat} {v : V} {to ti : TE} {Q : L2.St → Hp → Prop} (x : XL e H0 F H p xs) (w : Wf F0 H0 F H) (hi : i < xs.length) (r : e.r F v y) (ho : Val to σ H (.ref p)) (hx : Val ti σ H (.int (i : Int)))
    (k : ∀ H', Wf F0 H0 F H' → XL e H0 F H' p (xs.set i y) → (∀ q o, H q = some o → q ≠ p → H' q = some o) → Q σ H') : gSub to ti rSetL v σ H Q := by
  obtain ⟨vs, a, b⟩ := x.x
  refine ho _ (hx _ ⟨p, vs, _, i, rfl, rfl, a.h, ?_, k _ (w.set a) ⟨_, a.set, b.set i r⟩ fun q o h hq => by rw [upd_ne hq]; exact h⟩)
  unfold ixN
  rw [if_pos (by omega), if_pos (by rw [b.len]; omega)]; rfl
theorem rcb1' {r : List V → Hp → VK → Prop} {x z : V} {H : Hp} {Q : VK} (h : Val (tCB r (tCons (tC x) tNil)) [] H z) (q : Q z H) : r [x] H Q := h Q q
end Wk
namespace Wk
open PySem L2
theorem kCpR_int {g : TG} {tc : TT} {te : TE} {vs : List Nat} {σ : L2.St} {Q : VK} {H : Hp} {j : Int} (h1 : -1000000 < j) (h : kCpR g tc te vs σ Q (.int ((j.toNat : Nat) : Int)) H) : kCpR g tc te vs σ Q (.int j) H := by
  obtain ⟨j', e, a, b, c⟩ := h
  have e' : ((j.toNat : Nat) : Int) = j' := V.int.inj (List.cons.inj e).1
  refine ⟨j, rfl, by omega, by omega, ?_⟩
  have : j'.toNat = j.toNat := by omega
  rw [← this]; exact c
end Wk
/-! Rc: rows of bits that go on by a rule. -/
namespace Wk
def dot (c : Nat) (f : Nat → Bool) : Nat → Bool
  | 0 => false
  | m + 1 => xor (dot c f m) (c.testBit m && f m)
theorem dot_congr {c : Nat} {f g : Nat → Bool} : ∀ {m : Nat}, (∀ j, j < m → f j = g j) → dot c f m = dot c g m
  | 0, _ => rfl
  | m + 1, h => by
    show xor (dot c f m) (c.testBit m && f m) = xor (dot c g m) (c.testBit m && g m)
    rw [dot_congr (m := m) fun j hj => h j (by omega), h m (by omega)]
theorem dot_false {c : Nat} : ∀ m : Nat, dot c (fun _ => false) m = false
  | 0 => rfl
  | m + 1 => by show xor (dot c _ m) (c.testBit m && false) = false; rw [dot_false m]; simp
theorem dot_xor {c : Nat} {f g : Nat → Bool} : ∀ m : Nat, dot c (fun i => xor (f i) (g i)) m = xor (dot c f m) (dot c g m)
  | 0 => rfl
  | m + 1 => by
    show xor (dot c _ m) (c.testBit m && xor (f m) (g m)) = xor (xor (dot c f m) (c.testBit m && f m)) (xor (dot c g m) (c.testBit m && g m))
    rw [dot_xor m]
    cases dot c f m <;> cases dot c g m <;> cases c.testBit m <;> cases f m <;> cases g m <;> rfl
theorem dot_and {c : Nat} {f : Nat → Bool} (b : Bool) : ∀ m : Nat, dot c (fun i => b && f i) m = (b && dot c f m)
  | 0 => by cases b <;> rfl
  | m + 1 => by
    show xor (dot c _ m) (c.testBit m && (b && f m)) = (b && xor (dot c f m) (c.testBit m && f m))
    rw [dot_and b m]
    cases b <;> cases dot c f m <;> cases c.testBit m <;> cases f m <;> rfl
theorem dot_swap {c d : Nat} {F : Nat → Nat → Bool} (p : Nat) : ∀ q : Nat, dot d (fun j => dot c (fun i => F j i) p) q = dot c (fun i => dot d (fun j => F j i) q) p
  | 0 => (dot_false p).symm
  | q + 1 => by
    show xor (dot d _ q) (d.testBit q && dot c (fun i => F q i) p) = dot c (fun i => xor (dot d (fun j => F j i) q) (d.testBit q && F q i)) p
    rw [dot_swap p q, dot_xor, dot_and]
/-- a rule that holds for ever, and one that holds long enough -/
theorem goes_on {a : Nat → Bool} {c d m0 m L : Nat} (h0 : ∀ t, a (t + m0) = dot c (fun i => a (t + i)) m0) (h : ∀ t, t < L → a (t + m) = dot d (fun j => a (t + j)) m) (hL : m0 ≤ L) : ∀ t, a (t + m) = dot d (fun j => a (t + j)) m := by
  intro t
  have e : xor (a (t + m)) (dot d (fun j => a (t + j)) m) = false := by
    induction t using Nat.strongRecOn with
    | ind t ih =>
      by_cases c1 : t < L
      · rw [h t c1]; simp
      · obtain ⟨u, rfl⟩ : ∃ u, t = u + m0 := ⟨t - m0, by omega⟩
        have e1 : a (u + m0 + m) = dot c (fun i => a (u + i + m)) m0 := by
          rw [show u + m0 + m = (u + m) + m0 by omega, h0]
          exact dot_congr fun i _ => by rw [show u + m + i = u + i + m by omega]
        have e2 : dot d (fun j => a (u + m0 + j)) m = dot c (fun i => dot d (fun j => a (u + i + j)) m) m0 := by
          rw [← dot_swap]
          refine dot_congr fun j _ => ?_
          rw [show u + m0 + j = (u + j) + m0 by omega, h0]
          exact dot_congr fun i _ => by rw [show u + j + i = u + i + j by omega]
        rw [e1, e2, ← dot_xor]
        by_cases z : m0 = 0
        · subst z; rfl
        · rw [← dot_false (c := c) m0]
          exact dot_congr fun i hi => ih (u + i) (by omega)
  revert e
  cases a (t + m) <;> cases dot d (fun j => a (t + j)) m <;> simp
theorem dot_and_l {c : Nat} {f : Nat → Bool} : ∀ {m : Nat}, (∀ j, m ≤ j → f j = false) → ∀ k, dot c f (m + k) = dot c f m
  | m, h, 0 => rfl
  | m, h, k + 1 => by
    show xor (dot c f (m + k)) (c.testBit (m + k) && f (m + k)) = _
    rw [h (m + k) (by omega), dot_and_l h k]; simp
/-- parity as a sum -/
theorem par_dot {s : Nat} : ∀ {m c : Nat}, c < 2 ^ m → par (c &&& s) = dot c s.testBit m
  | 0, c, h => by
    have : c = 0 := by simpa using h
    subst this; rw [Nat.zero_and, par_zero]; rfl
  | m + 1, c, h => by
    have hl : c % 2 ^ m < 2 ^ m := Nat.mod_lt _ (Nat.two_pow_pos m)
    have e : c = (c % 2 ^ m) ^^^ (if c.testBit m = true then 2 ^ m else 0) := Nat.eq_of_testBit_eq fun i => by
      rw [Nat.testBit_xor, Nat.testBit_mod_two_pow]
      by_cases q : c.testBit m = true
      · rw [if_pos q, Nat.testBit_two_pow]
        by_cases o : i = m
        · subst o; rw [q]; simp
        · by_cases o2 : i < m
          · rw [decide_eq_true o2, decide_eq_false (fun z => o z.symm)]; simp
          · rw [decide_eq_false o2, decide_eq_false (fun z => o z.symm), testBit_big h (by omega)]; rfl
      · rw [if_neg q, Nat.zero_testBit]
        by_cases o2 : i < m
        · rw [decide_eq_true o2]; simp
        · rw [decide_eq_false o2]
          by_cases o : i = m
          · subst o; simpa using q
          · rw [testBit_big h (by omega)]; rfl
    have ih := par_dot (s := s) hl
    have e3 : par (c &&& s) = xor (par ((c % 2 ^ m) &&& s)) (c.testBit m && s.testBit m) := by
      conv => lhs; rw [e]
      have ax : ∀ a b c : Nat, (a ^^^ b) &&& c = (a &&& c) ^^^ (b &&& c) := fun a b c => Nat.eq_of_testBit_eq fun i => by
        rw [Nat.testBit_and, Nat.testBit_xor, Nat.testBit_xor, Nat.testBit_and, Nat.testBit_and]
        cases a.testBit i <;> cases b.testBit i <;> cases c.testBit i <;> rfl
      rw [ax, par_xor]
      congr 1
      by_cases q : c.testBit m = true
      · rw [if_pos q, q]
        by_cases r : s.testBit m = true
        · have : 2 ^ m &&& s = 2 ^ m := Nat.eq_of_testBit_eq fun i => by
            rw [Nat.testBit_and, Nat.testBit_two_pow]
            by_cases o : m = i
            · subst o; rw [r]; simp
            · rw [decide_eq_false o]; rfl
          rw [this, par_two_pow, r]; rfl
        · have : 2 ^ m &&& s = 0 := Nat.eq_of_testBit_eq fun i => by
            rw [Nat.testBit_and, Nat.testBit_two_pow, Nat.zero_testBit]
            by_cases o : m = i
            · subst o; rw [decide_eq_true rfl]; simpa using r
            · rw [decide_eq_false o]; rfl
          rw [this, par_zero]; simpa using r
      · rw [if_neg q, Nat.zero_and, par_zero]
        have : c.testBit m = false := by simpa using q
        rw [this]; rfl
    rw [e3, ih]
    show xor (dot (c % 2 ^ m) s.testBit m) _ = xor (dot c s.testBit m) _
    congr 1
    have go : ∀ k, k ≤ m → dot (c % 2 ^ m) s.testBit k = dot c s.testBit k := by
      intro k
      induction k with
      | zero => exact fun _ => rfl
      | succ k ih2 =>
        intro hk
        show xor (dot _ _ k) ((c % 2 ^ m).testBit k && s.testBit k) = xor (dot _ _ k) (c.testBit k && s.testBit k)
        rw [ih2 (by omega), Nat.testBit_mod_two_pow, decide_eq_true (by omega), Bool.true_and]
    exact go m (Nat.le_refl _)
/-- of n + 1 masks below 2 ** n one is a sum of those ahead -/
theorem some_sum {n : Nat} {vs : List Nat} (hl : vs.length = n + 1) (hv : ∀ v ∈ vs, v < 2 ^ n) : ∃ j, j ≤ n ∧ Span (vs.take j) (vs.getD j 0) := by
  refine Classical.byContradiction fun hno => ?_
  have inj : ∀ S, S < 2 ^ (n + 1) → comb vs S = 0 → S = 0 := by
    intro S hS h0
    refine Classical.byContradiction fun z => ?_
    have hp := bits_pos z
    generalize hk : bits S - 1 = k at *
    have kb : S.testBit k = true := by rw [← hk]; exact bits_bit z
    have kn : k ≤ n := by have := bits_le.mpr hS; omega
    refine hno ⟨k, kn, S, ?_⟩
    have e1 : comb vs S = comb (vs.take (k + 1)) S := by
      have : ∀ (vs : List Nat) (k S : Nat), bits S ≤ k → comb vs S = comb (vs.take k) S := by
        intro vs
        induction vs with
        | nil => intro k S _; rw [List.take_nil]
        | cons v vs ih =>
          intro k S hb
          cases k with
          | zero =>
            have : S = 0 := bits_eq_zero.mp (by omega)
            subst this; rw [comb_zero]; rfl
          | succ k =>
            show (if S.testBit 0 = true then v else 0) ^^^ comb vs (S / 2) = (if S.testBit 0 = true then v else 0) ^^^ comb (vs.take k) (S / 2)
            rw [ih k (S / 2) (bits_le.mpr (by have := bits_le.mp hb; rw [Nat.pow_succ] at this; omega))]
      exact this vs (k + 1) S (by omega)
    have lt : k < vs.length := by omega
    have e2 : vs.take (k + 1) = vs.take k ++ [vs[k]] := List.take_succ_eq_append_getElem lt
    rw [e1, e2, comb_snoc, show (vs.take k).length = k by rw [List.length_take]; omega, if_pos kb] at h0
    rw [List.getD_eq_getElem?_getD, List.getElem?_eq_getElem lt]
    exact xor0 h0
  have nd : ((List.range (2 ^ (n + 1))).map (comb vs)).Nodup := by
    refine List.pairwise_map.mpr (List.Pairwise.imp_of_mem (fun {a b} ha hb hne e => hne ?_) List.nodup_range)
    have ha' := List.mem_range.mp ha
    have hb' := List.mem_range.mp hb
    exact xor0 (inj _ (Nat.xor_lt_two_pow ha' hb') (by rw [comb_xor, e, Nat.xor_self]))
  have := nodup_len (k := 2 ^ n) nd fun x hx => by
    obtain ⟨S, _, rfl⟩ := List.mem_map.mp hx
    exact comb_lt hv
  rw [List.length_map, List.length_range, Nat.pow_succ] at this
  have := Nat.two_pow_pos n
  omega
/-- parity of a sum of masks -/
theorem par_comb {s : Nat} : ∀ (vs : List Nat) (S : Nat), par (comb vs S &&& s) = dot S (fun j => par (vs.getD j 0 &&& s)) vs.length := by
  intro vs
  suffices h : ∀ k, k ≤ vs.length → ∀ S, par (comb (vs.take k) S &&& s) = dot S (fun j => par (vs.getD j 0 &&& s)) k by
    intro S
    have := h vs.length (Nat.le_refl _) S
    rwa [List.take_length] at this
  intro k
  induction k with
  | zero => intro _ S; show par (0 &&& s) = false; rw [Nat.zero_and, par_zero]
  | succ k ih =>
    intro hk S
    have e2 : vs.take (k + 1) = vs.take k ++ [vs[k]'(by omega)] := List.take_succ_eq_append_getElem (by omega)
    have el : (vs.take k).length = k := by rw [List.length_take]; omega
    have eg : vs.getD k 0 = vs[k]'(by omega) := by rw [List.getD_eq_getElem?_getD, List.getElem?_eq_getElem (by omega)]; rfl
    have ax : ∀ a b c : Nat, (a ^^^ b) &&& c = (a &&& c) ^^^ (b &&& c) := fun a b c => Nat.eq_of_testBit_eq fun i => by
      rw [Nat.testBit_and, Nat.testBit_xor, Nat.testBit_xor, Nat.testBit_and, Nat.testBit_and]
      cases a.testBit i <;> cases b.testBit i <;> cases c.testBit i <;> rfl
    rw [e2, comb_snoc, el, ax, par_xor, ih (by omega)]
    show _ = xor (dot S _ k) (S.testBit k && par (vs.getD k 0 &&& s))
    congr 1
    rw [eg]
    by_cases q : S.testBit k = true
    · rw [if_pos q, q]; simp
    · rw [if_neg q, Nat.zero_and, par_zero]
      have : S.testBit k = false := by simpa using q
      rw [this]; rfl
end Wk
/-! LZip: list(zip(a, b)) of two lists. -/
namespace Wk.LZ
open PySem PyProof.Rows L2
theorem zip_no_len : typeLookup (.type "zip") "__len__" = pure none := am_miss_of_fast (by decide +kernel)
theorem zip_no_hint : typeLookup (.type "zip") "__length_hint__" = pure none := am_miss_of_fast (by decide +kernel)
/-- the zip's own things at turn i; S: a list that is none of them -/
structure ZS (h : Heap) (z TI TO i1 i2 l1 l2 S : Addr) (i : Nat) (xs ys : Array Value) : Prop where
  ti : IsPair h TI (.ref i1) (.ref i2)
  to : ∃ x y, IsPair h TO x y
  h1 : h.IsListIter i1 l1 i
  h2 : h.IsListIter i2 l2 i
  a1 : h.IsList l1 xs
  a2 : h.IsList l2 ys
  zz : IsZip h z TI TO .none ∨ ∃ T f oT, IsZipHeld h z TI TO T f ∧ h.get? T = some oT ∧ T ≠ S ∧ T ≠ z ∧ T ≠ i1 ∧ T ≠ i2
section
variable {prog : Program} {w : World} {A : Around} {E : Value → Shared → Prop} {s : Shared} {z TI TO i1 i2 l1 l2 S : Addr} {i : Nat} {xs ys : Array Value}
theorem ZS.ty (h : ZS s.heap z TI TO i1 i2 l1 l2 S i xs ys) : s.TypeIs (.ref z) "zip" := by
  rcases h.zz with q | ⟨T, f, oT, q, _⟩
  · exact ⟨_, q, rfl⟩
  · exact ⟨_, q, rfl⟩
theorem ZS.frame {h h' : Heap} (q : ZS h z TI TO i1 i2 l1 l2 S i xs ys) (n : ∀ b ∈ [z, TI, TO, i1, i2, l1, l2], b ≠ S) (k : ∀ b o, b ≠ S → h.get? b = some o → h'.get? b = some o) : ZS h' z TI TO i1 i2 l1 l2 S i xs ys := by
  refine ⟨k _ _ (n _ (by simp)) q.ti, ?_, q.h1.at fun o e => k _ o (n _ (by simp)) e, q.h2.at fun o e => k _ o (n _ (by simp)) e, q.a1.at fun o e => k _ o (n _ (by simp)) e, q.a2.at fun o e => k _ o (n _ (by simp)) e, ?_⟩
  · obtain ⟨x, y, e⟩ := q.to; exact ⟨x, y, k _ _ (n _ (by simp)) e⟩
  · rcases q.zz with e | ⟨T, f, oT, e1, e2, e3⟩
    · exact .inl (k _ _ (n _ (by simp)) e)
    · exact .inr ⟨T, f, oT, k _ _ (n _ (by simp)) e1, k _ _ e3.1 e2, e3⟩
theorem next_item {Q : Option Value → Shared → Prop} {x y : Value} (D : ZipApart z TI TO i1 i2 l1 l2) (q : ZS s.heap z TI TO i1 i2 l1 l2 S i xs ys) (hS : S < s.heap.objs.size) (hx : xs[i]? = some x) (hy : ys[i]? = some y)
    (hQ : ∀ h', ZS h' z TI TO i1 i2 l1 l2 S (i + 1) xs ys → IsPair h' s.heap.objs.size x y → h'.objs.size = s.heap.objs.size + 1 →
      (∀ c o, c ≠ z → c ≠ TO → c ≠ i1 → c ≠ i2 → s.heap.get? c = some o → h'.get? c = some o) → Q (some (.ref s.heap.objs.size)) { s with heap := h' }) :
    wpAny (model prog w) A (pyNext (.ref z)) Q E s := by
  obtain ⟨ti, ⟨x0, y0, to⟩, h1, h2, a1, a2, zz⟩ := q
  rcases zz with e | ⟨T, f, oT, e1, e2, e3⟩
  · refine wpAny_pyNext_zip_item D e ti to h1 h2 a1 a2 hx hy fun h' z' TO' h1' h2' hT hsz hk => ?_
    exact hQ h' ⟨hk _ _ D.TIz D.TITO D.TIi1 D.TIi2 ti, ⟨_, _, TO'⟩, h1', h2', a1.at fun o e => hk _ o D.l1z D.l1TO D.l1i1 D.l1i2 e, a2.at fun o e => hk _ o D.l2z D.l2TO D.l2i1 D.l2i2 e, .inr ⟨_, false, _, z', hT, Nat.ne_of_gt hS, Nat.ne_of_gt (Heap.lt_size e), (by obtain ⟨_, q, _⟩ := h1; exact Nat.ne_of_gt (Heap.lt_size q)), (by obtain ⟨_, q, _⟩ := h2; exact Nat.ne_of_gt (Heap.lt_size q))⟩⟩ hT hsz hk
  · refine wpAny_pyNext_zip_item_held D e1 e2 ti h1 h2 a1 a2 hx hy fun h' z' h1' h2' hT hsz hk => ?_
    exact hQ h' ⟨hk _ _ D.TIz D.TIi1 D.TIi2 ti, ⟨_, _, hk _ _ D.TOz D.TOi1 D.TOi2 to⟩, h1', h2', a1.at fun o e => hk _ o D.l1z D.l1i1 D.l1i2 e, a2.at fun o e => hk _ o D.l2z D.l2i1 D.l2i2 e, .inr ⟨T, true, oT, z', hk _ _ e3.2.1 e3.2.2.1 e3.2.2.2 e2, e3⟩⟩ hT hsz fun c o c1 _ c3 c4 e => hk c o c1 c3 c4 e
theorem next_end {Q : Option Value → Shared → Prop} (hh : A.handled = none) (D : ZipApart z TI TO i1 i2 l1 l2) (q : ZS s.heap z TI TO i1 i2 l1 l2 S i xs ys) (he : xs[i]? = none ∨ ys[i]? = none)
    (hQ : ∀ h', (∀ c o, c ≠ z → c ≠ TO → c ≠ i1 → c ≠ i2 → s.heap.get? c = some o → h'.get? c = some o) → Q none { s with heap := h' }) : wpAny (model prog w) A (pyNext (.ref z)) Q E s := by
  obtain ⟨ti, ⟨x0, y0, to⟩, h1, h2, a1, a2, zz⟩ := q
  rcases zz with e | ⟨T, f, oT, e1, e2, e3⟩
  · exact wpAny_pyNext_zip_end hh D e ti to h1 h2 a1 a2 he fun h' hk => hQ h' fun c o c1 c2 c3 c4 e => hk c o c1 c2 c3 c4 e
  · exact wpAny_pyNext_zip_end_held hh D e1 e2 ti h1 h2 a1 a2 he fun h' hk => hQ h' fun c o c1 _ c3 c4 e => hk c o c1 c3 c4 e
end
/-- one tuple after the other is made -/
def NewT : Hp → List (V × V) → List V → Hp → Prop
  | H, [], ts, H' => ts = [] ∧ H' = H
  | H, (x, y) :: r, ts, H' => ∃ T ts', ts = .ref T :: ts' ∧ H T = none ∧ NewT (upd H T (.tup [x, y])) r ts' H'
theorem lst_get {S : Addr} {h : Heap} {acc : Array Value} {c : Nat} {f : Array Value → Array Value} (e : h.get? S = some { cls := .type "list", dict := none, data := .seq acc c, slots := #[] }) : ∃ c', (h.update S (Obj.mapSeq f)).get? S = some { cls := .type "list", dict := none, data := .seq (f acc) c', slots := #[] } :=
  ⟨_, Heap.get?_update_self (Obj.mapSeq f) e rfl⟩
section
variable {X : Cx} {pins : List (Addr × Obj)} {σ : L2.St} {z TI TO i1 i2 l1 l2 S : Addr} {vx vy : List V} {ix iy : List Value}
theorem loop {R : Result → Shared → Prop} {A : Around} (hh : A.handled = none) (D : ZipApart z TI TO i1 i2 l1 l2) (hS : ∀ b ∈ [z, TI, TO, i1, i2, l1, l2], b ≠ S) (rx : Vals vx ix) (ry : Vals vy iy) (hx : vx.length ≤ sizeLine) (res : Value) :
    ∀ (rest : List (V × V)) (i : Nat) (s : Shared) (H : Hp) (acc : Array Value) (c : Nat) (outs : List V), (vx.zip vy).drop i = rest → i ≤ (vx.zip vy).length → Inv X pins σ H s → (∀ b ∈ [S, z, TO, i1, i2], FpOk X pins H b) → ZS s.heap z TI TO i1 i2 l1 l2 S i ix.toArray iy.toArray →
    s.heap.get? S = some { cls := .type "list", dict := none, data := .seq acc c, slots := #[] } → Vals outs acc.toList → outs.length = i →
    (∀ s' H' acc' c' ts, Inv X pins σ H' s' → (∀ b ∈ [S, z, TO, i1, i2], FpOk X pins H' b) → s'.heap.get? S = some { cls := .type "list", dict := none, data := .seq acc' c', slots := #[] } → NewT H rest ts H' → Vals (outs ++ ts) acc'.toList → R (.ok (.ret res)) s') →
    codeAny (model X.prog X.w) A (.builtin "list.extend.loop" ⟨[.ref S, .ref z, res], []⟩) R s := by
  intro rest
  induction rest with
  | nil =>
    intro i s H acc c outs hd hi I hf q hL r hl hR
    have hin : (vx.zip vy).length ≤ i := List.drop_eq_nil_iff.mp hd
    rw [List.length_zip] at hin
    have he : ix.toArray[i]? = none ∨ iy.toArray[i]? = none := by
      have l1 := rx.length
      have l2 := ry.length
      rcases Nat.le_total vx.length vy.length with h | h
      · rw [Nat.min_eq_left h] at hin; exact .inl (by simp; omega)
      · rw [Nat.min_eq_right h] at hin; exact .inr (by simp; omega)
    refine codeAny_builtin F.entry_extend_loop ?_
    rw [Around.under_plainId F.plain_extend_loop _]
    show wpAny _ A.in1 (pyNext (.ref z) >>= _) _ _ s
    refine wpAny_bind (next_end hh D q he fun h' hk => ?_)
    have I' : Inv X pins σ H { s with heap := h' } := I.turnedL (t' := s.toks) (ch := [S, z, TO, i1, i2]) (fun b o hb e => hk b o (fun q => hb (by simp [q])) (fun q => hb (by simp [q])) (fun q => hb (by simp [q])) (fun q => hb (by simp [q])) e) hf
    exact wpAny_pure (hR _ H acc c [] I' hf (hk S _ (hS _ (by simp)).symm (hS _ (by simp)).symm (hS _ (by simp)).symm (hS _ (by simp)).symm hL) ⟨rfl, rfl⟩ (by rw [List.append_nil]; exact r))
  | cons p rest ih =>
    obtain ⟨x, y⟩ := p
    intro i s H acc c outs hd hi I hf q hL r hl hR
    have hget : (vx.zip vy)[i]? = some (x, y) := by
      have e : ((vx.zip vy).drop i)[0]? = some (x, y) := by rw [hd]; rfl
      rw [List.getElem?_drop] at e; exact e
    have hlt : i < (vx.zip vy).length := (List.getElem?_eq_some_iff.mp hget).1
    obtain ⟨ex, ey⟩ := List.getElem?_zip_eq_some.mp hget
    obtain ⟨u, hu, ru⟩ := rx.get ex
    obtain ⟨u2, hu2, ru2⟩ := ry.get ey
    have hmin : (vx.zip vy).length ≤ vx.length := by rw [List.length_zip]; exact Nat.min_le_left _ _
    have hacc : acc.size = i := by rw [← Array.length_toList, ← r.length]; exact hl
    refine codeAny_builtin F.entry_extend_loop ?_
    rw [Around.under_plainId F.plain_extend_loop _]
    show wpAny _ A.in1 (pyNext (.ref z) >>= _) _ _ s
    have hSl : S < s.heap.objs.size := Heap.lt_size hL
    refine wpAny_bind (next_item D q hSl (x := u) (y := u2) (by simpa using hu) (by simpa using hu2) fun h' q' hT hsz hk => ?_)
    have new : ObjOk X.prog X.w (upd H s.heap.objs.size (.tup [x, y])) h' s.heap.objs.size (.tup [x, y]) :=
      ⟨by show 2 ≤ sizeLine; decide, [u, u2], .cons ru (.cons ru2 .nil), ⟨_, hT, rfl, _, rfl⟩⟩
    have hfr : H s.heap.objs.size = none := I.hok.fresh (Nat.le_refl _)
    have I1 : Inv X pins σ (upd H s.heap.objs.size (.tup [x, y])) { s with heap := h' } :=
      I.turnedNew (t' := s.toks) (ch := [S, z, TO, i1, i2]) (fun b o hb e => hk b o (fun q => hb (by simp [q])) (fun q => hb (by simp [q])) (fun q => hb (by simp [q])) (fun q => hb (by simp [q])) e) hf (Nat.le_refl _) new
    have hlts : ∀ b ∈ [S, z, TO, i1, i2], b < s.heap.objs.size := by
      intro b hb
      have e' : b = S ∨ b = z ∨ b = TO ∨ b = i1 ∨ b = i2 := by simpa using hb
      rcases e' with e | e | e | e | e
      · rw [e]; exact hSl
      · rw [e]; rcases q.zz with e1 | ⟨_, _, _, e1, _⟩
        · exact Heap.lt_size e1
        · exact Heap.lt_size e1
      · rw [e]; obtain ⟨_, _, e1⟩ := q.to; exact Heap.lt_size e1
      · rw [e]; obtain ⟨_, e1, _⟩ := q.h1; exact Heap.lt_size e1
      · rw [e]; obtain ⟨_, e1, _⟩ := q.h2; exact Heap.lt_size e1
    have hf1 : ∀ b ∈ [S, z, TO, i1, i2], FpOk X pins (upd H s.heap.objs.size (.tup [x, y])) b := fun b hb => by
      obtain ⟨n1, rest⟩ := hf b hb
      exact ⟨by rw [upd_ne (Nat.ne_of_lt (hlts b hb))]; exact n1, rest⟩
    have hL' := hk S _ (hS _ (by simp)).symm (hS _ (by simp)).symm (hS _ (by simp)).symm (hS _ (by simp)).symm hL
    show wpAny _ A.in1 (updateSeq S (·.push (.ref s.heap.objs.size)) >>= _) _ _ _
    refine wpAny_bind ?_
    refine wpAny_updateSeq hL' rfl (wpAny_pure ⟨plainId_quiet F.plain_extend_loop _, ?_⟩) (by rw [hacc]; omega) (by show (acc.push _).size ≤ sizeLine + 1; rw [Array.size_push, hacc]; omega)
    obtain ⟨c2, hL2⟩ := lst_get (f := (·.push (.ref s.heap.objs.size))) hL'
    have oth : ∀ b o, b ≠ S → h'.get? b = some o → (h'.update S (Obj.mapSeq (·.push (.ref s.heap.objs.size)))).get? b = some o := fun b o hb e => (Heap.get?_update_other _ _ (Ne.symm hb)).trans e
    have I2 : Inv X pins σ (upd H s.heap.objs.size (.tup [x, y])) { s with heap := h'.update S (Obj.mapSeq (·.push (.ref s.heap.objs.size))) } :=
      Inv.turnedL (s := { s with heap := h' }) I1 (t' := s.toks) (ch := [S]) (fun b o hb e => oth b o (fun q => hb (by simp [q])) e) (fun b hb => hf1 b (by rw [List.mem_singleton.mp hb]; simp))
    refine ih (i + 1) _ _ (acc.push (.ref s.heap.objs.size)) c2 (outs ++ [.ref s.heap.objs.size]) (by rw [← List.drop_drop, hd]; rfl) hlt I2 hf1 (q'.frame hS oth) hL2 (by rw [Array.toList_push]; exact r.append (.cons rfl .nil)) (by rw [List.length_append, hl]; rfl) fun s' H' acc' c' ts I' hf' hL' hn hv => ?_
    exact hR s' H' acc' c' (.ref s.heap.objs.size :: ts) I' hf' hL' ⟨_, _, rfl, hfr, hn⟩ (by rw [List.append_assoc] at hv; exact hv)
end
section
variable {X : Cx} {pins : List (Addr × Obj)} {σ : L2.St} {z TI TO i1 i2 l1 l2 : Addr} {vx vy : List V} {ix iy : List Value}
/-- extend by a zip -/
theorem extend_zip {R : Result → Shared → Prop} {A : Around} {s : Shared} {H : Hp} {S : Addr} {c₀ : Nat} (hh : A.handled = none) (D : ZipApart z TI TO i1 i2 l1 l2) (hS : ∀ b ∈ [z, TI, TO, i1, i2, l1, l2], b ≠ S) (rx : Vals vx ix) (ry : Vals vy iy) (hx : vx.length ≤ sizeLine) (res : Value)
    (I : Inv X pins σ H s) (hf : ∀ b ∈ [S, z, TO, i1, i2], FpOk X pins H b) (q : ZS s.heap z TI TO i1 i2 l1 l2 S 0 ix.toArray iy.toArray) (hL : s.heap.get? S = some { cls := .type "list", data := .seq #[] c₀ })
    (hR : ∀ s' H' acc' c' ts, Inv X pins σ H' s' → (∀ b ∈ [S, z, TO, i1, i2], FpOk X pins H' b) → s'.heap.get? S = some { cls := .type "list", dict := none, data := .seq acc' c', slots := #[] } → NewT H (vx.zip vy) ts H' → Vals ts acc'.toList → R (.ok (.ret res)) s') :
    wpAny (model X.prog X.w) A.in1 (Builtin.List.listExtendWith (.ref S) (.ref z) res)
      (fun fin s' => match fin with | .done f => R (.ok f) s' | .again c' => c'.quiet = true ∧ codeAny (model X.prog X.w) A c' R s') (fun e s' => R (.error e) s') s := by
  have hSz : S ≠ z := (hS z (by simp)).symm
  have h1 : Builtin.List.listSameRef (.ref S) (.ref z) = false := by simp [Builtin.List.listSameRef, hSz]
  have h2 : (Value.type "zip" == Value.type "list") = false := by decide
  have h3 : (Value.type "zip" == Value.type "tuple") = false := by decide
  unfold Builtin.List.listExtendWith
  refine wpAny_bind (wpAny_typeOf q.ty ?_)
  simp only [h1, h2, h3, Bool.or_false, Bool.false_eq_true, if_false]
  have hit : ∀ {Q : Value → Shared → Prop} {E : Value → Shared → Prop}, Q (.ref z) s → wpAny (model X.prog X.w) A.in1 (pyIter (.ref z)) Q E s := fun h => by
    rcases q.zz with e | ⟨T, f, oT, e, _⟩
    · exact wpAny_pyIter_zip e h
    · have hT : s.TypeIs (.ref z) "zip" := ⟨_, e, rfl⟩
      refine wpAny_pyIter_slot hT F.slot_zip_iter (wpAny_call_entry F.slot_zip_iter hT F.entry_zip_iter ?_ (F.args_zip_iter_1 _))
      show wpAny _ _ (ret (.ref z)) _ _ s
      exact wpAny_pure ⟨_, rfl, "zip", _, hT, F.slot_zip_next.lookup, h⟩
  refine wpAny_bind (hit ?_)
  refine wpAny_bind (wpAny_holding ?_)
  unfold Builtin.List.listLengthHint
  refine wpAny_bind (wpAny_specialOf q.ty zip_no_len ?_)
  show wpAny _ A.in1 (specialOf (Value.ref z) (Str.ofString "__length_hint__") >>= _) _ _ _
  refine wpAny_bind (wpAny_specialOf q.ty zip_no_hint ?_)
  refine wpAny_pure ?_
  show wpAny _ A.in1 (rule "list.extend.makes-room" >>= fun _ => Builtin.List.listTouch (.ref S) >>= fun _ =>
    again (.builtin "list.extend.loop" ⟨[.ref S, .ref z, res], []⟩)) _ _ _
  refine wpAny_bind (wpAny_rule ?_)
  refine wpAny_bind ?_
  show wpAny _ A.in1 (updateSeq S (·.push .none) >>= fun _ => updateSeq S (·.pop)) _ _ _
  refine wpAny_bind (wpAny_updateSeq hL rfl ?_)
  obtain ⟨c1, hL1⟩ := lst_get (f := (·.push Value.none)) hL
  refine wpAny_updateSeq hL1 rfl ?_
  obtain ⟨c2, hL2⟩ := lst_get (f := (·.pop)) hL1
  have oth : ∀ b o, b ≠ S → s.heap.get? b = some o → ((s.heap.update S (Obj.mapSeq (·.push Value.none))).update S (Obj.mapSeq (·.pop))).get? b = some o :=
    fun b o hb e => (Heap.get?_update_other _ _ (Ne.symm hb)).trans ((Heap.get?_update_other _ _ (Ne.symm hb)).trans e)
  have I2 : Inv X pins σ H { s with heap := (s.heap.update S (Obj.mapSeq (·.push Value.none))).update S (Obj.mapSeq (·.pop)) } :=
    I.turnedL (t' := s.toks) (ch := [S]) (fun b o hb e => oth b o (fun q => hb (by simp [q])) e) (fun b hb => hf b (by rw [List.mem_singleton.mp hb]; simp))
  refine wpAny_pure ⟨plainId_quiet F.plain_extend_loop _, loop hh D hS rx ry hx res (vx.zip vy) 0 _ H #[] c2 [] rfl (Nat.zero_le _) I2 hf (q.frame hS oth) hL2 .nil rfl fun s' H' acc' c' ts I' hf' hL' hn hv => ?_⟩
  exact hR s' H' acc' c' ts I' hf' hL' hn hv
end
end Wk.LZ
namespace Wk
open PySem L2 PyProof.Rows
def rLstZip (K : PySem.W.Frag) (Q : VK) (vs : List V) (H1 : Hp) : Prop := ∃ (a b : Addr) (xs ys : List V), vs = [.ref a, .ref b] ∧ SqL K H1 a xs ∧ SqL K H1 b ys ∧ ∀ ts H2, LZ.NewT H1 (xs.zip ys) ts H2 → ∀ q, H2 q = none → Q (.ref q) (upd H2 q (.lst ts))
def tLstZip (K : PySem.W.Frag) (ta : TA) : TE := fun σ H Q => ta σ H (rLstZip K Q)
theorem e_lzip {K : PySem.W.Frag} {ta : TA} {σ : L2.St} {H : Hp} {Q : VK} (h : ta σ H (rLstZip K Q)) : tLstZip K ta σ H Q := h
theorem LZ.len : ∀ {r : List (V × V)} {H : Hp} {ts : List V} {H2 : Hp}, LZ.NewT H r ts H2 → ts.length = r.length
  | [], _, _, _, ⟨a, _⟩ => by rw [a]; rfl
  | (x, y) :: r, _, _, _, ⟨T, ts', a, _, c⟩ => by rw [a, List.length_cons, List.length_cons, LZ.len c]
section
variable {X : Cx}
theorem pe_lstZip {e e2 : Expr} {ta : TA} {p p2 pos pos2 : Pos} (hc : X.calm = true) (hg : Gl X "list") (hm : X.mg "list" = none) (hg2 : Gl X "zip") (hm2 : X.mg "zip" = none) (ha : PA X [e, e2] ta)
    (hs : starEach [e, e2] X.env = (false, eval e X.env) :: starEach [e2] X.env := by rfl) (hpl : (backTo pos2 (starEach [e2] X.env)).any (·.1) = false := by rfl)
    (hs2 : starEach [.Call (.Name "zip" p2) [e, e2] [] pos2] X.env = (false, eval (.Call (.Name "zip" p2) [e, e2] [] pos2) X.env) :: starEach [] X.env := by rfl) :
    PE X (.Call (.Name "list" p) [.Call (.Name "zip" p2) [e, e2] [] pos2] [] pos) (tLstZip X.K ta) := by
  refine ⟨fun pins s σ H Q I h => ?_⟩
  refine Call_ (ld_blt I hg hm PyProof.Rows.boot_list (PyProof.Rows.callWith_type1 (args_cons (Call_ (ld_blt I hg2 hm2 PyProof.Rows.boot_zip (PyProof.Rows.callWith_type1 (thn (ha.run pos2 pins s σ H _ I h) fun us s1 ⟨vs, H1, I1, r1, q1⟩ => ?_) hs hpl))) hs2) hs2 rfl))
  obtain ⟨a, b, xs, ys, ex, hqx, hqy, q⟩ := q1
  subst ex
  cases r1 with
  | cons r rr =>
    cases rr with
    | cons r' rr =>
      cases rr
      cases r
      cases r'
      obtain ⟨its, rv, p1, hz1⟩ := I1.list hqx
      obtain ⟨its2, rv2, p2', _⟩ := I1.list hqy
      have la : a < s1.heap.objs.size := p1.lt
      have lb : b < s1.heap.objs.size := p2'.lt
      refine call_zip_2 p1.isList p2'.isList fun h' hz hTI hTO h1 h2 hsz hk => args_nil ?_
      have D := PySem.W.ktu_apart s1.heap.objs.size a b la lb
      have I2 : Inv X pins σ H1 { s1 with heap := h' } := I1.kept (t' := s1.toks) hk
      -- the list
      refine callType_codes (Q₁ := fun obj s₁ => obj = .ref h'.objs.size ∧ s₁ = { s1 with heap := h'.push { cls := .type "list", data := .seq #[] } }) F.called_list (F.typeCall_list_1 _) F.entry_list_init
        (code_list_new _ ⟨rfl, rfl⟩) fun obj s₁ h₁ => ?_
      obtain ⟨rfl, rfl⟩ := h₁
      have hS : (h'.push { cls := .type "list", data := .seq #[] }).get? h'.objs.size = some { cls := .type "list", data := .seq #[] } := Heap.get?_push_size _ rfl
      refine ⟨⟨_, hS, rfl⟩, F.args_list_init_2 _ _, ?_⟩
      show wpAny _ _ (do let old ← Builtin.List.listItems (.ref h'.objs.size); Builtin.List.listUpdate (.ref h'.objs.size) (fun _ => #[]); letGo old.toList.reverse; Builtin.List.listExtendWith (.ref h'.objs.size) (.ref (s1.heap.objs.size + 4)) .none) _ _ _
      refine wpAny_bind ?_
      unfold Builtin.List.listItems
      refine wpAny_bind (wpAny_seqItems hS rfl (wpAny_pure ?_))
      show wpAny _ _ (updateSeq h'.objs.size (fun _ => #[]) >>= fun _ => letGo (#[] : Array Value).toList.reverse >>= fun _ => Builtin.List.listExtendWith (.ref h'.objs.size) (.ref (s1.heap.objs.size + 4)) .none) _ _ _
      refine wpAny_bind (wpAny_updateSeq hS rfl ?_)
      obtain ⟨c₂, hS₂⟩ : ∃ c, ((h'.push { cls := .type "list", data := .seq #[] }).update h'.objs.size (Obj.mapSeq (fun _ => (#[] : Array Value)))).get? h'.objs.size = some { cls := .type "list", data := .seq #[] c } := ⟨_, Heap.get?_update_self (Obj.mapSeq (fun _ => (#[] : Array Value))) hS rfl⟩
      have oth : ∀ b o, h'.get? b = some o → ((h'.push { cls := .type "list", data := .seq #[] }).update h'.objs.size (Obj.mapSeq (fun _ => (#[] : Array Value)))).get? b = some o :=
        fun b o e => (Heap.get?_update_other _ _ (Nat.ne_of_gt (Heap.lt_size e))).trans (Heap.get?_push_of_some _ e)
      refine wpAny_bind (wpAny_letGo ?_)
      have I3 : Inv X pins σ H1 { s1 with heap := (h'.push { cls := .type "list", data := .seq #[] }).update h'.objs.size (Obj.mapSeq (fun _ => (#[] : Array Value))) } := I1.kept (t' := s1.toks) fun b u e => oth b u (hk b u e)
      have hlt : ∀ {b o}, h'.get? b = some o → b ≠ h'.objs.size := fun e => Nat.ne_of_lt (Heap.lt_size e)
      have hSs : ∀ c ∈ [s1.heap.objs.size + 4, s1.heap.objs.size + 2, s1.heap.objs.size + 3, s1.heap.objs.size, s1.heap.objs.size + 1, a, b], c ≠ h'.objs.size := by
        intro c hc
        rw [hsz]
        have e' : c = s1.heap.objs.size + 4 ∨ c = s1.heap.objs.size + 2 ∨ c = s1.heap.objs.size + 3 ∨ c = s1.heap.objs.size ∨ c = s1.heap.objs.size + 1 ∨ c = a ∨ c = b := by simpa using hc
        refine Nat.ne_of_lt ?_
        rcases e' with e | e | e | e | e | e | e
        · rw [e]; exact Nat.lt_succ_self _
        · rw [e]; exact Nat.add_lt_add_left (by decide) _
        · rw [e]; exact Nat.add_lt_add_left (by decide) _
        · rw [e]; exact Nat.lt_add_of_pos_right (by decide)
        · rw [e]; exact Nat.add_lt_add_left (by decide) _
        · rw [e]; exact Nat.lt_of_lt_of_le la (Nat.le_add_right _ _)
        · rw [e]; exact Nat.lt_of_lt_of_le lb (Nat.le_add_right _ _)
      have hf : ∀ c ∈ [h'.objs.size, s1.heap.objs.size + 4, s1.heap.objs.size + 3, s1.heap.objs.size, s1.heap.objs.size + 1], FpOk X pins H1 c := by
        intro c hc
        have e' : c = h'.objs.size ∨ c = s1.heap.objs.size + 4 ∨ c = s1.heap.objs.size + 3 ∨ c = s1.heap.objs.size ∨ c = s1.heap.objs.size + 1 := by simpa using hc
        have hle : s1.heap.objs.size ≤ c := by
          rw [hsz] at e'
          rcases e' with e | e | e | e | e
          · rw [e]; exact Nat.le_add_right _ _
          · rw [e]; exact Nat.le_add_right _ _
          · rw [e]; exact Nat.le_add_right _ _
          · rw [e]; exact Nat.le_refl _
          · rw [e]; exact Nat.le_add_right _ _
        exact I1.fpOk hle (I1.hok.fresh hle)
      refine LZ.extend_zip (X := X) (pins := pins) (σ := σ) (H := H1) (A := X.A.in1) (R := wants (fun r s₂ => r = Value.none ∧ _) _) (I1.ok.hd hc) D hSs rv rv2 hz1 .none I3 hf ⟨oth _ _ hTI, ⟨_, _, oth _ _ hTO⟩, h1.at fun o e => oth _ o e, h2.at fun o e => oth _ o e, (p1.isList.at fun o e => oth _ o (hk _ o e)), (p2'.isList.at fun o e => oth _ o (hk _ o e)), .inl (oth _ _ hz)⟩ hS₂ fun s' H' acc' c' ts I' hf' hL' hn hv => ?_
      refine ⟨rfl, ?_⟩
      have hl : ts.length ≤ sizeLine := by rw [LZ.len hn, List.length_zip]; exact Nat.le_trans (Nat.min_le_left _ _) hz1
      have hnew : ObjOk X.prog X.w (upd H' h'.objs.size (.lst ts)) s'.heap h'.objs.size (.lst ts) := ⟨hl, acc'.toList, c', hv, by rw [Array.toArray_toList]; exact hL'⟩
      have hfS := hf' h'.objs.size (by simp)
      exact ⟨.ref h'.objs.size, upd H' h'.objs.size (.lst ts), I'.take (t' := s'.toks) (fun _ _ _ e => e) hfS hnew, rfl, q ts H' hn _ hfS.1⟩
end
section
variable {α β : Type} {e : Rep α} {f : Rep β} {K : PySem.W.Frag} {F0 H0 F H H2 : Hp} {p q : Addr} {xs : List α} {ys : List β} {Q : VK}
/-- the new tuples -/
theorem newT_all : ∀ {us vs : List V} {xs : List α} {ys : List β} {F H : Hp} {ts : List V}, Ex F H → All e F us xs → All f F vs ys → LZ.NewT H (us.zip vs) ts H2 →
    ∃ F2, Wf F H F2 H2 ∧ All (pT2 e f) F2 ts (xs.zip ys)
  | [], _, [], _, F, H, ts, hf, _, _, ⟨a, b⟩ => by subst a b; exact ⟨F, Wf.id hf, trivial⟩
  | _ :: _, [], _ :: _, [], F, H, ts, hf, _, _, ⟨a, b⟩ => by subst a b; exact ⟨F, Wf.id hf, trivial⟩
  | u :: us, v :: vs, x :: xs, y :: ys, F, H, ts, hf, ⟨a1, a2⟩, ⟨b1, b2⟩, ⟨T, ts', hts, hT, hn⟩ => by
    subst hts
    have w := Wf.new (o := .tup [u, v]) hf hT
    have g := w.g
    obtain ⟨F2, w2, a⟩ := newT_all w.f (a2.mono g) (b2.mono g) hn
    refine ⟨F2, w.tr w2, ⟨⟨T, u, v, rfl, w2.g _ _ upd_same, e.mono w2.g (e.mono g a1), f.mono w2.g (f.mono g b1)⟩, a⟩⟩
  | [], _, _ :: _, _, _, _, _, _, q, _, _ => q.elim
  | _ :: _, _, [], _, _, _, _, _, q, _, _ => q.elim
  | _ :: _, [], _ :: _, _ :: _, _, _, _, _, _, q, _ => q.elim
  | _ :: _, _ :: _, _ :: _, [], _, _, _, _, _, q, _ => q.elim
theorem n_lzip {v1 v2 : V} (r1 : (pL e).r F v1 xs) (r2 : (pL f).r F v2 ys) (w : Wf F0 H0 F H) (k : ∀ p F' H', H p = none → Wf F H F' H' → XL (pT2 e f) H0 F' H' p (xs.zip ys) → Q (.ref p) H') : rLstZip K Q [v1, v2] H := by
  obtain ⟨p1, us, rfl, h1, a1⟩ := r1
  obtain ⟨p2, vs, rfl, h2, a2⟩ := r2
  refine ⟨p1, p2, us, vs, rfl, SqL.of (w.f _ _ h1), SqL.of (w.f _ _ h2), fun ts H2 hn l hl => ?_⟩
  obtain ⟨F2, w2, a⟩ := newT_all w.f a1 a2 hn
  exact k l F2 _ (w2.h.non hl) (w2.tr (Wf.newX w2.f hl)) ⟨ts, Xc.mk' (w.tr w2) hl, a⟩
end
end Wk
/-! Df: methods with a default, lists that are told inside a tuple, lists of any kind. -/
namespace Wk
open PySem L2
/-- a raw value -/
def pV : Rep V := ⟨fun _ v x => v = x, fun _ h => h⟩
abbrev anN (n : Nat) : An := .i (n : Int)
section
variable {α : Type} {e : Rep α} {F : Hp} {v : V} {xs : List Nat} {ys : List Int}
theorem all_any : ∀ {vs : List V} {xs : List Nat}, All pN F vs xs → All pA F vs (xs.map anN)
  | [], [], _ => trivial
  | _ :: _, _ :: _, ⟨a, b⟩ => ⟨a, all_any b⟩
  | [], _ :: _, q => q.elim
  | _ :: _, [], q => q.elim
theorem L_any (r : (pL pN).r F v xs) : (pL pA).r F v (xs.map anN) := let ⟨p, vs, a, b, c⟩ := r; ⟨p, vs, a, b, all_any c⟩
theorem all_anyI : ∀ {vs : List V} {xs : List Int}, All pI F vs xs → All pA F vs (xs.map An.i)
  | [], [], _ => trivial
  | _ :: _, _ :: _, ⟨a, b⟩ => ⟨a, all_anyI b⟩
  | [], _ :: _, q => q.elim
  | _ :: _, [], q => q.elim
theorem L_anyI (r : (pL pI).r F v ys) : (pL pA).r F v (ys.map An.i) := let ⟨p, vs, a, b, c⟩ := r; ⟨p, vs, a, b, all_anyI c⟩
theorem an_T3 {α β γ : Type} {e : Rep α} {f : Rep β} {g : Rep γ} {y : α × β × γ} (r : (pT3 e f g).r F v y) : pA.r F v (.o "tuple") := let ⟨p, u, w, z, a, b, _⟩ := r; ⟨p, a, .inr (.inl ⟨rfl, _, b⟩)⟩
end
section
variable {α β γ : Type} {e : Rep α} {f : Rep β} {g : Rep γ} {K : PySem.W.Frag} {F H : Hp} {v : V} {x : α × β × γ}
theorem ix_3b (r : (pT3 e f g).r F v x) (h : Ex F H) : ∃ w, f.r F w x.2.1 ∧ ∀ ⦃σ ta tb⦄, Val ta σ H v → Val tb σ H (.int 1) → Val (tOp (rIxT K) ta tb) σ H w := by
  obtain ⟨p, u, w, y, rfl, hp, a, b, c⟩ := r
  exact ⟨w, b, fun _ _ _ ha hb => v2 ha hb fun Q k => ⟨p, _, _, w, rfl, rfl, SqT.of (h _ _ hp), rfl, k⟩⟩
theorem ix_3c (r : (pT3 e f g).r F v x) (h : Ex F H) : ∃ w, g.r F w x.2.2 ∧ ∀ ⦃σ ta tb⦄, Val ta σ H v → Val tb σ H (.int 2) → Val (tOp (rIxT K) ta tb) σ H w := by
  obtain ⟨p, u, w, y, rfl, hp, a, b, c⟩ := r
  exact ⟨y, c, fun _ _ _ ha hb => v2 ha hb fun Q k => ⟨p, _, _, y, rfl, rfl, SqT.of (h _ _ hp), rfl, k⟩⟩
theorem ix_3a (r : (pT3 e f g).r F v x) (h : Ex F H) : ∃ w, e.r F w x.1 ∧ ∀ ⦃σ ta tb⦄, Val ta σ H v → Val tb σ H (.int 0) → Val (tOp (rIxT K) ta tb) σ H w := by
  obtain ⟨p, u, w, y, rfl, hp, a, b, c⟩ := r
  exact ⟨u, a, fun _ _ _ ha hb => v2 ha hb fun Q k => ⟨p, _, _, u, rfl, rfl, SqT.of (h _ _ hp), rfl, k⟩⟩
theorem e_sl {r : V → Option Int → Option Int → Hp → VK → Prop} {te : TE} {tl th : TO} {σ : L2.St} {Q : VK} (h : te σ H fun v H1 => L2.tSl r (tC v) tl th σ H1 Q) : L2.tSl r te tl th σ H Q := h
instance {n m k : Nat} [Dat e n] [Dat f m] [Dat g k] : Dat (pT3 e f g) (max n (max m k) + 1) := ⟨fun x => .tuple [Dat.d e x.1, Dat.d f x.2.1, Dat.d g x.2.2], fun {K F v x} h => by
    obtain ⟨p, u, w, y, rfl, hp, a, b, c⟩ := h
    exact .tup (SqT.of hp) (.cons (Dat.dp a) (.cons (Dat.dp b) (.cons (Dat.dp c) .nil))), fun x => by
    show (PyData.canLay0 (Dat.d e x.1) && (PyData.canLay0 (Dat.d f x.2.1) && (PyData.canLay0 (Dat.d g x.2.2) && PyData.canLayAll0 []))) = true
    rw [Dat.lay, Dat.lay, Dat.lay]; rfl, fun x => by
    have a := Dat.dep (e := e) x.1
    have b := Dat.dep (e := f) x.2.1
    have c := Dat.dep (e := g) x.2.2
    simp only [PyData.depth, PyData.depthAll]
    omega, fun x y => by
    show (PyData.eqv (Dat.d e x.1) (Dat.d e y.1) && (PyData.eqv (Dat.d f x.2.1) (Dat.d f y.2.1) && (PyData.eqv (Dat.d g x.2.2) (Dat.d g y.2.2) && PyData.eqvAll [] []))) = true ↔ _
    have z : PyData.eqvAll [] [] = true := rfl
    rw [z, Bool.and_true, Bool.and_eq_true, Bool.and_eq_true, Dat.inj, Dat.inj, Dat.inj, Prod.ext_iff, Prod.ext_iff]⟩
end
/-- a method with a default -/
structure MdD (P : Program) (w : World) (K : PySem.W.Frag) (mg : Str → Option Value) (base : Heap) (CX : CXT) (k : Nat) (C : Addr) (m : Str) (ps : List Str) (sp : Sp) (dvs : List V) : Prop where
  ex : ∃ f fd, FnOk P w K mg base CX k f fd ps sp ∧ Meth K C m f ∧ Binds K fd ps [] ∧ ∃ ds, Vals dvs ds ∧ Binds K fd ps ds
theorem MdD.full {P : Program} {w : World} {K : PySem.W.Frag} {mg : Str → Option Value} {base : Heap} {CX : CXT} {k : Nat} {C : Addr} {m : Str} {ps : List Str} {sp : Sp} {dvs : List V} (M : MdD P w K mg base CX k C m ps sp dvs) : Md P w K mg base CX k C m ps sp :=
  let ⟨f, fd, a, b, c, _⟩ := M.ex; ⟨f, fd, a, b, c⟩
theorem funD_mk {K : PySem.W.Frag} {x qual : Str} {st : Stmt} {f T : Addr} {oc aT : Value} {od an bT : Option Addr} {osl sT : Array (Option Value)} {kV doc pm cdv ct : Value} {its : Array Value} {n : Nat} {dvs : List V}
    (l : K.lookup f = some ⟨oc, od, .func (PySem.W.fnOf x qual (defArgs st) (defBody st) (defScope st) (.ref T) kV doc pm an cdv ct), osl⟩) (c : PySem.W.codeIn K cdv qual = true) (k : PySem.W.keepIn K (.ref f) = true)
    (lT : K.lookup T = some ⟨aT, bT, .seq its n, sT⟩) (r : Vals dvs its.toList) (hne : dvs ≠ []) : FunD K x qual (defArgs st) (defBody st) (defScope st) dvs [] f (PySem.W.fnOf x qual (defArgs st) (defBody st) (defScope st) (.ref T) kV doc pm an cdv ct) :=
  ⟨⟨oc, od, _, kV, doc, pm, an, cdv, ct, osl, rfl, l, c, .inr ⟨hne, T, _, its.toList, n, rfl, lT, by rw [Array.toArray_toList], r⟩, .inl rfl⟩, k⟩
theorem FunD.full {K : PySem.W.Frag} {x qual : Str} {params : Arguments} {body : List Stmt} {scope : Scope} {dvs : List V} {f : Addr} {fd : FuncData} {ps : List Str} (F : FunD K x qual params body scope dvs [] f fd) (hd : dvs ≠ [])
    (h : ∀ (T : Addr) (kV doc pm : Value) (an : Option Addr) (cdv ct : Value) (us its : List Value), us.length = ps.length → its.length = dvs.length →
      ∃ k, bindArgs (PySem.W.fnOf x qual params body scope (.ref T) kV doc pm an cdv ct) ⟨us, []⟩ = seqItems? (.ref T) >>= k ∧ k (some its.toArray) = pure (ps.zip (us ++ its.drop dvs.length))) : Binds K fd ps [] := by
  obtain ⟨ds, r, b⟩ := F.binds1 (ps := ps) ps.length dvs.length hd (by rw [Nat.sub_self]; rfl) h
  rw [List.drop_length] at r
  cases r
  exact b
section
variable {X : Cx} {k : Nat} {C : Addr} {x m : Str} {ps : List Str} {sp : Sp} {W : WX} {o e : Expr} {es : List Expr} {p pos apos : Pos} {ta : TE} {t : TA} {pl : Sem Bool} {dvs : List V}
theorem run_fnSD {CX : CXT} {f : Addr} {fd : FuncData} {ds : List Value} {E : L2.St → XK} {pins : List (Addr × Obj)} {σ : L2.St} {H : Hp} {s : Shared} {Q : VK} {us : List Value} {vs : List V} (F : FnOk X.prog X.w X.K X.mg X.base CX k f fd ps sp) (hr : Room k X.A) (hb : Binds X.K fd ps ds) (hd : Vals dvs ds) (hx : PassesAt CX X σ (E σ))
    (I : Inv X pins σ H s) (r : Vals vs us) (h : sp (vs ++ dvs) H Q (E σ)) : wpAny (model X.prog X.w) X.A (call (.ref f) us) (EP X pins σ Q) X.xe s := by
  have r2 : Vals (vs ++ dvs) (us ++ ds) := r.append hd
  have hl : (us ++ ds).length = ps.length := by rw [← r2.length]; exact F.len _ _ _ _ h
  refine wpAny_call (codeAny_mono (F.run X.A X.stack s H ⟨us, []⟩ (us ++ ds) (vs ++ dvs) Q (E σ) hr I.env0 (hb s us I.kIn hl) r2 h) fun r s' hq => ?_)
  cases r with
  | error e => exact hx pins H s e s' I hq
  | ok fl =>
    cases fl with
    | ret u => exact I.after hq
    | next => exact False.elim hq
    | brk => exact False.elim hq
    | cont => exact False.elim hq
def tMdD (C : Addr) (m : Str) (sp : Sp) (dvs : List V) (E : L2.St → XK) (ta : TE) (t : TA) : TE := fun σ H Q => ta σ H fun x H1 => ∃ a dx fs, x = .ref a ∧ H1 a = some (.ins C dx fs) ∧ fs.lookup m = none ∧ t σ H1 fun vs H2 => sp (x :: (vs ++ dvs)) H2 Q (E σ)
theorem e_mdD {E : L2.St → XK} {σ : L2.St} {H : Hp} {Q : VK} (h : ta σ H fun x H1 => ∃ a dx fs, x = .ref a ∧ H1 a = some (.ins C dx fs) ∧ fs.lookup m = none ∧ t σ H1 fun vs H2 => sp (x :: (vs ++ dvs)) H2 Q (E σ)) : tMdD C m sp dvs E ta t σ H Q := h
theorem pe_mdD {E : L2.St → XK} (M : MdD X.prog X.w X.K X.mg X.base (L2.CX X.prog X.w) k C m ps sp dvs) (hx : ∀ σ, PassesAt (L2.CX X.prog X.w) X σ (E σ)) (cl : Cls X.K C) (hr : Room k X.A) (he : PE X o ta) (ha : PA X (e :: es) t)
    (hst : starEach (e :: es) X.env = (false, eval e X.env) :: starEach es X.env := by rfl) (hpl : (backTo pos (starEach es X.env)).any (·.1) = false := by rfl)
    (ht : eval (.Call (.Attribute o m apos) (e :: es) [] pos) X.env = (do
      let ov ← eval o X.env
      standAt apos.atName
      let (f, first) ← holding [ov] (getMethod ov m pl)
      callWith pos f first (backTo pos (starEach (e :: es) X.env)) (backToKw pos (keywordEach [] X.env))) := by rfl) :
    PE X (.Call (.Attribute o m apos) (e :: es) [] pos) (tMdD C m sp dvs E ta t) := by
  obtain ⟨f, fd, F, hm, _, ds, hd, hb⟩ := M.ex
  refine ⟨fun pins s σ H Q Iv hh => ?_⟩
  refine PySem.W.methodCall_KW (pl := pl) (thn (he.run pins s σ H _ Iv hh) fun u s1 ⟨x, H1, Iv1, rx, a, dx, fs, ex, ea, lk, qq⟩ => ?_) ht
  subst ex
  obtain rfl : u = Value.ref a := rx
  refine getmeth_ok Iv1 ea cl hm lk ?_
  refine PySem.W.callWith_K (first := [.ref a]) (h₀ := X.base) Iv1.ok.mod.kin hm.kp (thn (ha.run pos pins s1 σ H1 _ Iv1 qq) fun us s2 ⟨vs, H2, Iv2, rv, q2⟩ => ⟨Iv2.kIn, ?_⟩) hst hpl
  exact run_fnSD (us := .ref a :: us) (vs := .ref a :: vs) F hr hb hd (hx σ) Iv2 (.cons rfl rv) q2
end
theorem passAtL {X : Cx} (σ : L2.St) : PassesAt (L2.CX X.prog X.w) X σ E0 := fun pins H s e s' I h => passL pins σ H s e s' I h
/-- xs[:-n] -/
theorem n_cutNeg {α : Type} {e : Rep α} {K : PySem.W.Frag} {σ : L2.St} {F0 H0 F H : Hp} {te th : TE} {v : V} {xs : List α} {Q : VK} {n : Nat} (hn : 0 < n) (r : (pL e).r F v xs) (hv : Val te σ H v) (h2 : Val th σ H (.int (-(n : Int)))) (w : Wf F0 H0 F H)
    (k : ∀ p H', H p = none → Wf F H F H' → XL e H0 F H' p (xs.take (xs.length - n)) → Q (.ref p) H') : L2.tSl (rSlL K) te tNoPart (tPart th) σ H Q := by
  obtain ⟨p, vs, rfl, hp, a⟩ := r
  refine hv _ (h2 _ ⟨_, rfl, p, vs, rfl, SqL.of (w.f _ _ hp), fun l hl => ?_⟩)
  have e1 : cutV vs none (some (-(n : Int))) = vs.take (vs.length - n) := by
    unfold cutV
    have e2 : HT.sIx vs.length vs.length (some (-(n : Int))) = vs.length - n := by
      show (if (-(n : Int)) < 0 then ((-(n : Int)) + (vs.length : Int)).toNat else _) = _
      rw [if_pos (by omega)]; omega
    rw [e2, HT.sIx_none, List.drop_zero, Nat.sub_zero]
  rw [e1, a.len]
  exact k l _ hl (Wf.newX w.f hl) ⟨_, Xc.mk' w hl, a.take _⟩
/-! things that hold nothing of what was there at H -/
def nw (H F : Hp) : Hp := fun a => if H a = none then F a else none
theorem nw_ex {H F F' : Hp} (h : Ex F F') : Ex (nw H F) (nw H F') := fun a o e => by
  unfold nw at e ⊢
  by_cases q : H a = none
  · rw [if_pos q] at e ⊢; exact h a o e
  · rw [if_neg q] at e; cases e
theorem nw_sub {H F : Hp} : Ex (nw H F) F := fun a o e => by
  unfold nw at e
  by_cases q : H a = none
  · rw [if_pos q] at e; exact e
  · rw [if_neg q] at e; cases e
theorem nw_at {H F : Hp} {a : Addr} {o : HO} (h : H a = none) (e : F a = some o) : nw H F a = some o := by unfold nw; rw [if_pos h]; exact e
def Fre {α : Type} (H : Hp) (e : Rep α) (F : Hp) (v : V) (x : α) : Prop := e.r (nw H F) v x
section
variable {α β : Type} {e : Rep α} {f : Rep β} {F0 H0 F F' Fl H H2 F2 : Hp} {v u : V} {x : α} {y : β} {p : Addr} {Q : VK}
theorem Fre.r (h : Fre H e F v x) : e.r F v x := e.mono nw_sub h
theorem Fre.mono (g : Ex F F') (h : Fre H e F v x) : Fre H e F' v x := e.mono (nw_ex g) h
/-- behind a call to which one's own list was lent -/
theorem Fre.back (ex : Ex F H) (hx : Ex F Fl) (s : Wf Fl H F2 H2) (h : Fre H e F2 v x) : ∃ F3, Wf F H F3 H2 ∧ e.r F3 v x := by
  refine ⟨fun a => match nw H F2 a with | some o => some o | none => F a, ⟨s.h, fun a o q => ?_, fun a o q => ?_, fun a o q q0 => ?_⟩, e.mono (fun a o q => ?_) h⟩
  · cases z : nw H F2 a with
    | some o' =>
      have q' : (match nw H F2 a with | some o => some o | none => F a) = some o := q
      rw [z] at q'; cases q'
      exact s.f a _ (nw_sub a _ z)
    | none =>
      have q' : (match nw H F2 a with | some o => some o | none => F a) = some o := q
      rw [z] at q'
      exact s.h a o (ex a o q')
  · show (match nw H F2 a with | some o => some o | none => F a) = some o
    have : nw H F2 a = none := by unfold nw; rw [if_neg (by rw [ex a o q]; simp)]
    rw [this]; exact q
  · cases z : nw H F2 a with
    | some o' =>
      unfold nw at z
      by_cases c : H a = none
      · exact c
      · rw [if_neg c] at z; cases z
    | none =>
      have q' : (match nw H F2 a with | some o => some o | none => F a) = some o := q
      rw [z] at q'
      have q2 : F a = some o := q'
      rw [q0] at q2; cases q2
  · show (match nw H F2 a with | some o => some o | none => F a) = some o
    rw [q]
theorem all_sc {xs : List Nat} {F G : Hp} : ∀ {vs : List V} {xs : List Nat}, All pN F vs xs → All pN G vs xs
  | [], [], _ => trivial
  | _ :: _, _ :: _, ⟨a, b⟩ => ⟨a, all_sc (xs := xs) b⟩
  | [], _ :: _, q => q.elim
  | _ :: _, [], q => q.elim
/-- one's own list of numbers is changed no more, and is new -/
theorem XL.frzN {xs : List Nat} (x : XL pN H0 F H p xs) (w : Wf F0 H0 F H) : ∃ F', Wf F0 H0 F' H ∧ Ex F F' ∧ Fre H0 (pL pN) F' (.ref p) xs ∧ Fz F F' p := by
  obtain ⟨vs, a, b⟩ := x.x
  exact ⟨_, w.freeze a, Ex.new a.n, ⟨p, vs, rfl, nw_at a.z upd_same, all_sc (xs := xs) b⟩, fun q h z => by rw [upd_ne h]; exact z⟩
theorem n_fre2 (w : Wf F0 H0 F H) (a : Fre H0 e F v x) (b : Fre H0 f F u y) (k : ∀ p F' H', Wf F H F' H' → Fre H0 (pT2 e f) F' (.ref p) (x, y) → Q (.ref p) H') : kTup Q [v, u] H :=
  ⟨Nat.le_of_lt (small_len (n := 2) (by decide)), fun p hp => k p _ _ (Wf.new w.f hp) ⟨p, v, u, rfl, nw_at (w.h.non hp) upd_same, Fre.mono (Ex.new (w.f.non hp)) a, Fre.mono (Ex.new (w.f.non hp)) b⟩⟩
theorem T2_TL {z : α × α} (r : (pT2 e e).r F v z) : (pTL e).r F v [z.1, z.2] := let ⟨p, u, w, a, b, c, d⟩ := r; ⟨p, [u, w], a, b, c, d, trivial⟩
end
end Wk
/-! Mm: bits as masks, machines by tables. -/
namespace Wk
/-- the mask of a row of bits -/
def maskB : List Bool → Nat
  | [] => 0
  | b :: bs => b.toNat + 2 * maskB bs
theorem maskB_lt : ∀ bs : List Bool, maskB bs < 2 ^ bs.length
  | [] => by decide
  | b :: bs => by
    have := maskB_lt bs
    have hb : b.toNat ≤ 1 := by cases b <;> decide
    show b.toNat + 2 * maskB bs < 2 ^ (bs.length + 1)
    rw [Nat.pow_succ]; omega
theorem maskB_bit : ∀ (bs : List Bool) (j : Nat), (maskB bs).testBit j = bs.getD j false
  | [], j => by show (0 : Nat).testBit j = _; rw [Nat.zero_testBit]; rfl
  | b :: bs, 0 => by
    show (b.toNat + 2 * maskB bs).testBit 0 = b
    rw [Nat.testBit_zero]
    cases b
    · exact decide_eq_false (by show ¬ (0 + 2 * maskB bs) % 2 = 1; omega)
    · exact decide_eq_true (by show (1 + 2 * maskB bs) % 2 = 1; omega)
  | b :: bs, j + 1 => by
    show (b.toNat + 2 * maskB bs).testBit (j + 1) = bs.getD j false
    have e : (b.toNat + 2 * maskB bs) / 2 = maskB bs := by
      have hb : b.toNat ≤ 1 := by cases b <;> decide
      omega
    rw [← halfBit, e, maskB_bit bs j]
theorem maskB_snoc : ∀ (bs : List Bool) (b : Bool), maskB (bs ++ [b]) = maskB bs + b.toNat <<< bs.length
  | [], b => by show b.toNat + 2 * 0 = 0 + b.toNat <<< 0; rw [Nat.shiftLeft_eq]; omega
  | a :: bs, b => by
    show a.toNat + 2 * maskB (bs ++ [b]) = a.toNat + 2 * maskB bs + b.toNat <<< (bs.length + 1)
    rw [maskB_snoc bs b, Nat.shiftLeft_eq, Nat.shiftLeft_eq, Nat.pow_succ, ← Nat.mul_assoc]; omega
theorem maskB_or (bs : List Bool) (b : Bool) : maskB bs ||| b.toNat <<< bs.length = maskB (bs ++ [b]) := Nat.eq_of_testBit_eq fun j => by
  rw [Nat.testBit_or, maskB_bit, maskB_bit, Nat.testBit_shiftLeft, List.getD_eq_getElem?_getD, List.getD_eq_getElem?_getD]
  by_cases h : j < bs.length
  · rw [List.getElem?_append_left h, decide_eq_false (by omega)]; simp
  · rw [List.getElem?_append_right (by omega), List.getElem?_eq_none (by omega)]
    by_cases e : j = bs.length
    · subst e; rw [Nat.sub_self]; cases b <;> simp
    · rw [List.getElem?_eq_none (by rw [List.length_singleton]; omega)]
      have : b.toNat.testBit (j - bs.length) = false := by
        obtain ⟨k, hk⟩ : ∃ k, j - bs.length = k + 1 := ⟨j - bs.length - 1, by omega⟩
        rw [hk, ← halfBit]
        cases b
        · show (0 / 2 : Nat).testBit k = false; rw [Nat.zero_div, Nat.zero_testBit]
        · show (1 / 2 : Nat).testBit k = false; rw [show (1 / 2 : Nat) = 0 by decide, Nat.zero_testBit]
      rw [this]; simp
theorem NShl_bit {b : Bool} {k : Nat} (h : k < 1000000) : NShl b.toNat k := by
  unfold NShl
  have : b.toNat.log2 = 0 := by cases b <;> decide
  omega
/-- bits below w, all together -/
def px (f : Nat → Bool) : Nat → Bool
  | 0 => false
  | m + 1 => xor (px f m) (f m)
theorem px_congr {f g : Nat → Bool} : ∀ {m : Nat}, (∀ j, j < m → f j = g j) → px f m = px g m
  | 0, _ => rfl
  | m + 1, h => by show xor _ _ = xor _ _; rw [px_congr (m := m) fun j hj => h j (by omega), h m (by omega)]
theorem px_add (f : Nat → Bool) (m : Nat) : ∀ k, px f (m + k) = xor (px f m) (px (fun i => f (m + i)) k)
  | 0 => by show px f m = xor (px f m) false; simp
  | k + 1 => by show xor (px f (m + k)) (f (m + k)) = xor (px f m) (xor _ (f (m + k))); rw [px_add f m k]; simp
theorem px_xor (f g : Nat → Bool) : ∀ k, px (fun i => xor (f i) (g i)) k = xor (px f k) (px g k)
  | 0 => rfl
  | k + 1 => by
    show xor (px _ k) (xor (f k) (g k)) = xor (xor (px f k) (f k)) (xor (px g k) (g k))
    rw [px_xor f g k]; cases px f k <;> cases px g k <;> cases f k <;> cases g k <;> rfl
theorem par_px : ∀ {w n : Nat}, n < 2 ^ w → par n = px n.testBit w
  | 0, n, h => by
    have : n = 0 := by simpa using h
    subst this; rw [par_zero]; rfl
  | w + 1, n, h => by
    rw [par_step, par_px (w := w) (n := n / 2) (by rw [Nat.pow_succ] at h; omega), Nat.add_comm w 1, px_add]
    have e : px n.testBit 1 = n.testBit 0 := by show xor false _ = _; simp
    rw [e, px_congr (f := (n / 2).testBit) (g := fun i => n.testBit (1 + i)) fun j _ => by rw [halfBit, Nat.add_comm]]
theorem px_fold (n k : Nat) : px (n ^^^ n >>> k).testBit k = px n.testBit (k + k) := by
  rw [px_add, ← px_xor]
  exact px_congr fun j _ => by rw [Nat.testBit_xor, Nat.testBit_shiftRight]
def xfold (n : Nat) : Nat := [64, 32, 16, 8, 4, 2, 1].foldl (fun n k => n ^^^ n >>> k) n
theorem par_fold {n : Nat} (h : n < 2 ^ 128) : xfold n &&& 1 = (par n).toNat := by
  have e : par n = px (xfold n).testBit 1 := by
    rw [par_px h]
    show px n.testBit (64 + 64) = _
    rw [← px_fold n 64]
    show px _ (32 + 32) = _
    rw [← px_fold _ 32]
    show px _ (16 + 16) = _
    rw [← px_fold _ 16]
    show px _ (8 + 8) = _
    rw [← px_fold _ 8]
    show px _ (4 + 4) = _
    rw [← px_fold _ 4]
    show px _ (2 + 2) = _
    rw [← px_fold _ 2]
    show px _ (1 + 1) = _
    rw [← px_fold _ 1]
    rfl
  rw [e, Nat.and_one_is_mod]
  show _ = (xor false ((xfold n).testBit 0)).toNat
  rw [Nat.testBit_zero]
  rcases Nat.mod_two_eq_zero_or_one (xfold n) with q | q <;> rw [q] <;> rfl
/-! machines: inputs, pairs of the stores, pairs of the outs -/
abbrev Mach := Nat × List (Nat × Nat) × List (Nat × Nat)
def bitf (p : Nat × Nat) (s r : Nat) : Bool := xor (par (p.1 &&& s)) (par (p.2 &&& r))
def bitsV (ps : List (Nat × Nat)) (s r : Nat) : Nat := maskB (ps.map fun p => bitf p s r)
theorem bitsV_lt (ps : List (Nat × Nat)) (s r : Nat) : bitsV ps s r < 2 ^ ps.length := by
  have := maskB_lt (ps.map fun p => bitf p s r)
  rwa [List.length_map] at this
theorem bitsV_bit (ps : List (Nat × Nat)) (s r j : Nat) : (bitsV ps s r).testBit j = (decide (j < ps.length) && bitf (ps.getD j (0, 0)) s r) := by
  unfold bitsV
  rw [maskB_bit, List.getD_eq_getElem?_getD, List.getD_eq_getElem?_getD, List.getElem?_map]
  by_cases h : j < ps.length
  · rw [List.getElem?_eq_getElem h, decide_eq_true h]; simp
  · rw [List.getElem?_eq_none (by omega), decide_eq_false h]; rfl
structure MOk (M : Mach) : Prop where
  i : M.1 ≤ 6
  n : M.2.1.length ≤ 120
  o : M.2.2.length ≤ 6
  mn : ∀ p ∈ M.2.1, p.1 < 2 ^ M.2.1.length ∧ p.2 < 2 ^ M.1
  mo : ∀ p ∈ M.2.2, p.1 < 2 ^ M.2.1.length ∧ p.2 < 2 ^ M.1
def nextV (M : Mach) (s r : Nat) : Nat := bitsV M.2.1 s r
def outV (M : Mach) (s r : Nat) : Nat := bitsV M.2.2 s r
def walkV (M : Mach) (rows : List Nat) (s : Nat) : List Nat × Nat := rows.foldl (fun t r => (t.1 ++ [outV M t.2 r], nextV M t.2 r)) ([], s)
theorem walkF_len (M : Mach) : ∀ (rows : List Nat) (t : List Nat × Nat), (rows.foldl (fun t r => (t.1 ++ [outV M t.2 r], nextV M t.2 r)) t).1.length = t.1.length + rows.length
  | [], t => rfl
  | r :: rows, t => by
    rw [List.foldl_cons, walkF_len M rows, List.length_append]
    show t.1.length + 1 + rows.length = t.1.length + (rows.length + 1)
    omega
theorem walkV_len (M : Mach) (rows : List Nat) (s : Nat) : (walkV M rows s).1.length = rows.length := by
  unfold walkV; rw [walkF_len]; exact Nat.zero_add _
theorem walkF_lt {M : Mach} : ∀ (rows : List Nat) (t : List Nat × Nat), t.2 < 2 ^ M.2.1.length → (rows.foldl (fun t r => (t.1 ++ [outV M t.2 r], nextV M t.2 r)) t).2 < 2 ^ M.2.1.length
  | [], t, h => h
  | r :: rows, t, h => walkF_lt rows _ (bitsV_lt ..)
theorem walkV_lt {M : Mach} {rows : List Nat} {s : Nat} (h : s < 2 ^ M.2.1.length) : (walkV M rows s).2 < 2 ^ M.2.1.length := walkF_lt rows ([], s) h
theorem walkV_snoc (M : Mach) (rows : List Nat) (r s : Nat) : walkV M (rows ++ [r]) s = ((walkV M rows s).1 ++ [outV M (walkV M rows s).2 r], nextV M (walkV M rows s).2 r) := by
  unfold walkV; rw [List.foldl_append]; rfl
/-! things of any kind -/
def okA (x : An) (w : Nat) : Prop := ∃ n : Nat, x = An.i (n : Int) ∧ n < 2 ^ w
def fineA : An → Prop
  | .o T => T ≠ "int" ∧ T ≠ "bool"
  | _ => True
theorem isA_int (x : An) (h : fineA x) : (isA "int" x = true ∧ ¬ isA "bool" x = true) ↔ ∃ z : Int, x = An.i z := by
  cases x with
  | i z => exact ⟨fun _ => ⟨z, rfl⟩, fun _ => by simp [isA, An.ty]⟩
  | b b => exact ⟨fun q => absurd (by simp [isA, An.ty]) q.2, fun ⟨z, e⟩ => by cases e⟩
  | n => exact ⟨fun q => absurd q.1 (by simp [isA, An.ty]), fun ⟨z, e⟩ => by cases e⟩
  | s t => exact ⟨fun q => absurd q.1 (by simp [isA, An.ty]), fun ⟨z, e⟩ => by cases e⟩
  | l t => exact ⟨fun q => absurd q.1 (by simp [isA, An.ty]), fun ⟨z, e⟩ => by cases e⟩
  | t t => exact ⟨fun q => absurd q.1 (by simp [isA, An.ty]), fun ⟨z, e⟩ => by cases e⟩
  | o T =>
    refine ⟨fun q => absurd q.1 ?_, fun ⟨z, e⟩ => by cases e⟩
    obtain ⟨h1, h2⟩ := h
    unfold isA An.ty
    simp [h1, h2]
section
variable {α : Type}
theorem enumT_snd (xs : List α) : (enumT xs).map (·.2) = xs := by
  unfold enumT
  exact List.map_snd_zip (by rw [List.length_range]; exact Nat.le_refl _)
theorem enumT_split {xs : List α} {pre post : List (Nat × α)} {x : Nat × α} (h : enumT xs = pre ++ x :: post) : x.1 = pre.length ∧ xs = pre.map (·.2) ++ x.2 :: post.map (·.2) := by
  constructor
  · have e := enumT_get xs pre.length
    rw [h, List.getElem?_append_right (Nat.le_refl _), Nat.sub_self] at e
    have e' : some x = xs[pre.length]?.map fun y => (pre.length, y) := e
    cases q : xs[pre.length]? with
    | none => rw [q] at e'; cases e'
    | some y => rw [q] at e'; cases e'; rfl
  · have e := enumT_snd xs
    rw [h, List.map_append, List.map_cons] at e
    exact e.symm
theorem w_bits {ps : List α} {body : Nat × α → Nat → (Nat → Prop) → (Nat → Prop) → Prop} {k : Nat → Prop} (f : α → Bool) (hb : ∀ pre p post nx bk, ps = pre ++ p :: post → nx (maskB ((pre ++ [p]).map f)) → body (pre.length, p) (maskB (pre.map f)) nx bk) (hk : k (maskB (ps.map f))) : forW (enumT ps) 0 body k := by
  refine forW_ind (fun pre s => s = maskB ((pre.map (·.2)).map f)) rfl (fun pre x post s nx bk e hs hn _ => ?_) fun s hs => ?_
  · obtain ⟨e1, e2⟩ := enumT_split e
    obtain ⟨i, p⟩ := x
    have e1' : i = pre.length := e1
    subst hs e1'
    have := hb (pre.map (·.2)) p (post.map (·.2)) nx bk e2 (hn _ (by rw [List.map_append, List.map_append, List.map_append]; rfl))
    rwa [List.length_map] at this
  · rw [hs, enumT_snd]; exact hk
theorem forW_enum {S : Type} {ps : List α} {s : S} {body : Nat × α → S → (S → Prop) → (S → Prop) → Prop} {k : S → Prop} (P : List α → S → Prop) (h0 : P [] s)
    (hb : ∀ pre p post s nx bk, ps = pre ++ p :: post → P pre s → (∀ s', P (pre ++ [p]) s' → nx s') → body (pre.length, p) s nx bk) (hk : ∀ s, P ps s → k s) : forW (enumT ps) s body k := by
  refine forW_ind (fun pre s => P (pre.map (·.2)) s) h0 (fun pre x post s nx bk e hs hn _ => ?_) fun s hs => ?_
  · obtain ⟨e1, e2⟩ := enumT_split e
    obtain ⟨i, p⟩ := x
    have e1' : i = pre.length := e1
    subst e1'
    have := hb (pre.map (·.2)) p (post.map (·.2)) s nx bk e2 hs (fun s' h => hn s' (by rw [List.map_append]; exact h))
    rwa [List.length_map] at this
  · rw [enumT_snd] at hs; exact hk s hs
end
/-! what a mask over the next bits hangs on -/
def fsts (ps : List (Nat × Nat)) : List Nat := ps.map (·.1)
def snds (ps : List (Nat × Nat)) : List Nat := ps.map (·.2)
def backV (M : Mach) (m : Nat) : Nat × Nat := (comb (fsts M.2.1) m, comb (snds M.2.1) m)
theorem fsts_getD (ps : List (Nat × Nat)) (j : Nat) : (fsts ps).getD j 0 = (ps.getD j (0, 0)).1 := by
  unfold fsts
  rw [List.getD_eq_getElem?_getD, List.getD_eq_getElem?_getD, List.getElem?_map]
  cases ps[j]? <;> rfl
theorem snds_getD (ps : List (Nat × Nat)) (j : Nat) : (snds ps).getD j 0 = (ps.getD j (0, 0)).2 := by
  unfold snds
  rw [List.getD_eq_getElem?_getD, List.getD_eq_getElem?_getD, List.getElem?_map]
  cases ps[j]? <;> rfl
theorem back_law (ps : List (Nat × Nat)) {m s r : Nat} (hm : m < 2 ^ ps.length) : par (m &&& bitsV ps s r) = xor (par (comb (fsts ps) m &&& s)) (par (comb (snds ps) m &&& r)) := by
  have l1 : (fsts ps).length = ps.length := by unfold fsts; rw [List.length_map]
  have l2 : (snds ps).length = ps.length := by unfold snds; rw [List.length_map]
  rw [par_dot hm, par_comb, par_comb, l1, l2, ← dot_xor]
  exact dot_congr fun j hj => by rw [bitsV_bit, decide_eq_true hj, fsts_getD, snds_getD]; rfl
theorem back_lt {M : Mach} (h : MOk M) (m : Nat) : (backV M m).1 < 2 ^ M.2.1.length ∧ (backV M m).2 < 2 ^ M.1 := by
  constructor
  · refine comb_lt fun r hr => ?_
    obtain ⟨p, hp, e⟩ := List.mem_map.mp (show r ∈ List.map _ _ from hr)
    rw [← e]; exact (h.mn p hp).1
  · refine comb_lt fun r hr => ?_
    obtain ⟨p, hp, e⟩ := List.mem_map.mp (show r ∈ List.map _ _ from hr)
    rw [← e]; exact (h.mn p hp).2
theorem back_fold (ps : List (Nat × Nat)) (m : Nat) : ∀ k, k ≤ ps.length → (bl k m).foldl (fun (t : Nat × Nat) p => (t.1 ^^^ (ps.getD p (0, 0)).1, t.2 ^^^ (ps.getD p (0, 0)).2)) (0, 0) = (comb (fsts (ps.take k)) m, comb (snds (ps.take k)) m)
  | 0, _ => rfl
  | k + 1, hk => by
    have e2 : ps.take (k + 1) = ps.take k ++ [ps[k]'(by omega)] := List.take_succ_eq_append_getElem (by omega)
    have eg : ps.getD k (0, 0) = ps[k]'(by omega) := by rw [List.getD_eq_getElem?_getD, List.getElem?_eq_getElem (by omega)]; rfl
    have el : (ps.take k).length = k := by rw [List.length_take]; omega
    have f1 : fsts (ps.take (k + 1)) = fsts (ps.take k) ++ [(ps[k]'(by omega)).1] := by unfold fsts; rw [e2, List.map_append]; rfl
    have f2 : snds (ps.take (k + 1)) = snds (ps.take k) ++ [(ps[k]'(by omega)).2] := by unfold snds; rw [e2, List.map_append]; rfl
    have n1 : (fsts (ps.take k)).length = k := by unfold fsts; rw [List.length_map, el]
    have n2 : (snds (ps.take k)).length = k := by unfold snds; rw [List.length_map, el]
    rw [bl_snoc, List.foldl_append, back_fold ps m k (by omega), f1, f2, comb_snoc, comb_snoc, n1, n2]
    by_cases q : m.testBit k = true
    · rw [if_pos q, if_pos q, if_pos q, ← eg]; rfl
    · rw [if_neg q, if_neg q, if_neg q, Nat.xor_zero, Nat.xor_zero]; rfl
/-- the rows that hand one sign in -/
def signAt (which t : Nat) : Nat := if t = 0 then 2 ^ which else 0
def signRows (which turns : Nat) : List Nat := (List.range turns).map (signAt which)
theorem signRows_eq (which turns : Nat) : cutT ([2 ^ which] ++ (List.replicate turns [0]).flatten) none (some turns) = signRows which turns := by
  have e0 : ∀ n : Nat, (List.replicate n [0]).flatten = List.replicate n (0 : Nat) := fun n => by
    induction n with
    | zero => rfl
    | succ n ih => rw [List.replicate_succ, List.flatten_cons, ih, List.replicate_succ]; rfl
  show List.take turns _ = _
  rw [e0]
  cases turns with
  | zero => rfl
  | succ k =>
    unfold signRows
    rw [List.range_succ_eq_map, List.map_cons, List.map_map]
    show List.take (k + 1) (2 ^ which :: List.replicate (k + 1) 0) = _
    rw [List.take_succ_cons, List.take_replicate, Nat.min_eq_left (Nat.le_succ k)]
    show _ = 2 ^ which :: _
    congr 1
    refine List.ext_getElem (by simp) fun i h1 h2 => ?_
    simp [signAt]
theorem signRows_lt {which turns i : Nat} (h : which < i) : ∀ r ∈ signRows which turns, r < 2 ^ i := fun r hr => by
  obtain ⟨t, _, e⟩ := List.mem_map.mp (show r ∈ List.map _ _ from hr)
  rw [← e]; unfold signAt
  by_cases q : t = 0
  · rw [if_pos q]; exact Nat.pow_lt_pow_right (by decide) h
  · rw [if_neg q]; exact Nat.two_pow_pos _
theorem signRows_len (which turns : Nat) : (signRows which turns).length = turns := by unfold signRows; rw [List.length_map, List.length_range]
end Wk
/-! Rg: a linear turn over and over, polynomials of it. -/
namespace Wk
/-- v behind i turns -/
def itV (f : Nat → Nat) (v : Nat) : Nat → Nat
  | 0 => v
  | i + 1 => f (itV f v i)
theorem itV_add (f : Nat → Nat) (v a : Nat) : ∀ b, itV f v (a + b) = itV f (itV f v a) b
  | 0 => rfl
  | b + 1 => by show f (itV f v (a + b)) = f (itV f (itV f v a) b); rw [itV_add f v a b]
theorem itV_succ (f : Nat → Nat) (v : Nat) (b : Nat) : itV f v (b + 1) = itV f (f v) b := by rw [Nat.add_comm, itV_add]; rfl
structure Lin (f : Nat → Nat) : Prop where
  z : f 0 = 0
  x : ∀ a b, f (a ^^^ b) = f a ^^^ f b
theorem Lin.it {f : Nat → Nat} (h : Lin f) (i : Nat) : Lin (fun v => itV f v i) := by
  induction i with
  | zero => exact ⟨rfl, fun _ _ => rfl⟩
  | succ i ih => exact ⟨by show f (itV f 0 i) = 0; rw [show itV f 0 i = 0 from ih.z, h.z], fun a b => by show f (itV f (a ^^^ b) i) = f (itV f a i) ^^^ f (itV f b i); rw [show itV f (a ^^^ b) i = itV f a i ^^^ itV f b i from ih.x a b, h.x]⟩
/-- a polynomial of the turn, at v -/
def pa (f : Nat → Nat) (v q : Nat) : Nat := if h : q = 0 then 0 else (if q.testBit 0 = true then v else 0) ^^^ pa f (f v) (q / 2)
termination_by q
decreasing_by omega
theorem pa_zero (f : Nat → Nat) (v : Nat) : pa f v 0 = 0 := by rw [pa]; simp
theorem pa_step (f : Nat → Nat) (v q : Nat) : pa f v q = (if q.testBit 0 = true then v else 0) ^^^ pa f (f v) (q / 2) := by
  by_cases h : q = 0
  · subst h; rw [Nat.zero_div, pa_zero, pa_zero, Nat.zero_testBit, if_neg (by simp)]; rfl
  · rw [pa, dif_neg h]
section
variable {f : Nat → Nat}
theorem pa_lin0 (h : Lin f) : ∀ q : Nat, pa f 0 q = 0 := by
  intro q
  induction q using Nat.strongRecOn with
  | ind q ih =>
    by_cases z : q = 0
    · subst z; exact pa_zero f 0
    · rw [pa_step, h.z, ih (q / 2) (by omega), ite_self]; rfl
theorem pa_linx (h : Lin f) : ∀ (q a b : Nat), pa f (a ^^^ b) q = pa f a q ^^^ pa f b q := by
  intro q
  induction q using Nat.strongRecOn with
  | ind q ih =>
    intro a b
    by_cases z : q = 0
    · subst z; rw [pa_zero, pa_zero, pa_zero]; rfl
    · rw [pa_step f (a ^^^ b), pa_step f a, pa_step f b, h.x, ih (q / 2) (by omega)]
      by_cases c : q.testBit 0 = true
      · rw [if_pos c, if_pos c, if_pos c, xor_swap]
      · rw [if_neg c, if_neg c, if_neg c, Nat.zero_xor, Nat.zero_xor, Nat.zero_xor]
theorem pa_xor : ∀ (p q v : Nat), pa f v (p ^^^ q) = pa f v p ^^^ pa f v q := by
  intro p
  induction p using Nat.strongRecOn with
  | ind p ih =>
    intro q v
    by_cases z : p = 0
    · subst z; rw [Nat.zero_xor, pa_zero, Nat.zero_xor]
    · rw [pa_step f v (p ^^^ q), pa_step f v p, pa_step f v q, half_xor, ih (p / 2) (by omega), Nat.testBit_xor]
      cases p.testBit 0 <;> cases q.testBit 0 <;> simp
      · rw [← Nat.xor_assoc, ← Nat.xor_assoc, Nat.xor_comm v (pa f (f v) (p / 2))]
      · rw [Nat.xor_assoc]
      · rw [xor_swap, Nat.xor_self, Nat.zero_xor]
theorem pa_turn (h : Lin f) : ∀ (q v : Nat), f (pa f v q) = pa f (f v) q := by
  intro q
  induction q using Nat.strongRecOn with
  | ind q ih =>
    intro v
    by_cases z : q = 0
    · subst z; rw [pa_zero, pa_zero, h.z]
    · rw [pa_step f v q, pa_step f (f v) q, h.x, ih (q / 2) (by omega)]
      by_cases c : q.testBit 0 = true
      · rw [if_pos c, if_pos c]
      · rw [if_neg c, if_neg c, h.z]
theorem pa_two (v q : Nat) : pa f v (2 * q) = pa f (f v) q := by
  have e1 : (2 * q).testBit 0 = false := by rw [Nat.testBit_zero]; exact decide_eq_false (by omega)
  have e2 : 2 * q / 2 = q := by omega
  rw [pa_step, e1, e2, if_neg (by simp), Nat.zero_xor]
theorem pa_pm (h : Lin f) (a : Nat) : ∀ (b v : Nat), pa f v (pm a b) = pa f (pa f v a) b := by
  intro b
  induction b using Nat.strongRecOn with
  | ind b ih =>
    intro v
    by_cases z : b = 0
    · subst z; rw [pm_zero, pa_zero, pa_zero]
    · rw [pm_half, pa_xor, pa_two, ih (b / 2) (by omega), pa_step f (pa f v a) b, pa_turn h]
      by_cases c : b.testBit 0 = true
      · rw [if_pos c, if_pos c]
      · rw [if_neg c, if_neg c, pa_zero]
theorem pa_one (v : Nat) : pa f v 1 = v := by
  rw [pa_step, if_pos (by decide), show 1 / 2 = 0 by decide, pa_zero, Nat.xor_zero]
theorem pa_pow : ∀ (i v : Nat), pa f v (2 ^ i) = itV f v i
  | 0, v => pa_one v
  | i + 1, v => by rw [Nat.pow_succ, Nat.mul_comm, pa_two, pa_pow i (f v), itV_succ]
/-- the states one behind another -/
def orb (f : Nat → Nat) (v k : Nat) : List Nat := (List.range k).map (itV f v)
theorem orb_len (v k : Nat) : (orb f v k).length = k := by unfold orb; rw [List.length_map, List.length_range]
theorem orb_snoc (v k : Nat) : orb f v (k + 1) = orb f v k ++ [itV f v k] := by unfold orb; rw [List.range_succ, List.map_append]; rfl
theorem orb_take (v : Nat) {j k : Nat} (h : j ≤ k) : (orb f v k).take j = orb f v j := by
  unfold orb
  rw [← List.map_take, List.take_range, Nat.min_eq_left h]
theorem orb_getD (v : Nat) {j k : Nat} (h : j < k) : (orb f v k).getD j 0 = itV f v j := by
  unfold orb
  rw [List.getD_eq_getElem?_getD, List.getElem?_map, List.getElem?_range h]; rfl
theorem split_top {k q : Nat} (h : q < 2 ^ (k + 1)) : q = (q % 2 ^ k) ^^^ (if q.testBit k = true then 2 ^ k else 0) := Nat.eq_of_testBit_eq fun i => by
  rw [Nat.testBit_xor, Nat.testBit_mod_two_pow]
  by_cases c : q.testBit k = true
  · rw [if_pos c, Nat.testBit_two_pow]
    by_cases o : i = k
    · subst o; rw [c]; simp
    · by_cases o2 : i < k
      · rw [decide_eq_true o2, decide_eq_false (fun z => o z.symm)]; simp
      · rw [decide_eq_false o2, decide_eq_false (fun z => o z.symm), testBit_big h (by omega)]; rfl
  · rw [if_neg c, Nat.zero_testBit]
    by_cases o2 : i < k
    · rw [decide_eq_true o2]; simp
    · rw [decide_eq_false o2]
      by_cases o : i = k
      · subst o; simpa using c
      · rw [testBit_big h (by omega)]; rfl
theorem pa_comb (v : Nat) : ∀ (k q : Nat), q < 2 ^ k → pa f v q = comb (orb f v k) q
  | 0, q, h => by
    have : q = 0 := by simpa using h
    subst this; rw [pa_zero, comb_zero]
  | k + 1, q, h => by
    have hl : q % 2 ^ k < 2 ^ k := Nat.mod_lt _ (Nat.two_pow_pos k)
    rw [orb_snoc, comb_snoc, orb_len]
    have e1 : comb (orb f v k) q = comb (orb f v k) (q % 2 ^ k) := comb_ext fun j hj => by
      rw [orb_len] at hj
      rw [Nat.testBit_mod_two_pow, decide_eq_true hj, Bool.true_and]
    rw [e1, ← pa_comb v k _ hl]
    conv => lhs; rw [split_top h]
    rw [pa_xor]
    congr 1
    by_cases c : q.testBit k = true
    · rw [if_pos c, if_pos c, pa_pow]
    · rw [if_neg c, if_neg c, pa_zero]
theorem orb_span {v k : Nat} {w : Nat} : Span (orb f v k) w ↔ ∃ q, q < 2 ^ k ∧ pa f v q = w := by
  constructor
  · rintro ⟨S, e⟩
    have hl : S % 2 ^ k < 2 ^ k := Nat.mod_lt _ (Nat.two_pow_pos k)
    refine ⟨S % 2 ^ k, hl, ?_⟩
    rw [pa_comb v k _ hl, ← e]
    exact comb_ext fun j hj => by
      rw [orb_len] at hj
      rw [Nat.testBit_mod_two_pow, decide_eq_true hj, Bool.true_and]
  · rintro ⟨q, hq, e⟩
    exact ⟨q, by rw [← pa_comb v k q hq]; exact e⟩
/-- the least polynomial that brings v to 0 -/
structure Least (f : Nat → Nat) (v mu : Nat) : Prop where
  n : mu ≠ 0
  k : pa f v mu = 0
  l : ∀ q, q ≠ 0 → bits q < bits mu → pa f v q ≠ 0
theorem least_of (v m D : Nat) (hD : D < 2 ^ m) (h : comb (orb f v m) D = itV f v m) (hn : ∀ m', m' < m → ¬ Span (orb f v m') (itV f v m')) : Least f v (D ^^^ 2 ^ m) := by
  have hb : (D ^^^ 2 ^ m).testBit m = true := by rw [Nat.testBit_xor, testBit_big hD (Nat.le_refl _), Nat.testBit_two_pow, decide_eq_true rfl]; rfl
  have ne : D ^^^ 2 ^ m ≠ 0 := fun z => by rw [z, Nat.zero_testBit] at hb; cases hb
  refine ⟨ne, ?_, fun q hq hl hz => ?_⟩
  · rw [pa_xor, pa_pow, pa_comb v m D hD, h, Nat.xor_self]
  · have h1 : D ^^^ 2 ^ m < 2 ^ (m + 1) := Nat.xor_lt_two_pow (Nat.lt_trans hD (Nat.pow_lt_pow_right (by decide) (by omega))) (Nat.pow_lt_pow_right (by decide) (by omega))
    have h2 := bits_le.mpr h1
    have hp := bits_pos hq
    have hk : bits q - 1 < m := by omega
    refine hn _ hk (orb_span.mpr ⟨q % 2 ^ (bits q - 1), Nat.mod_lt _ (Nat.two_pow_pos _), ?_⟩)
    have h3 : q < 2 ^ (bits q - 1 + 1) := by rw [Nat.sub_add_cancel hp]; exact bits_le.mp (Nat.le_refl _)
    have e := split_top h3
    rw [if_pos (bits_bit hq)] at e
    rw [e, pa_xor, pa_pow] at hz
    exact xor0 hz
theorem least_bits {v m D : Nat} (hD : D < 2 ^ m) : bits (D ^^^ 2 ^ m) = m + 1 := by
  have hb : (D ^^^ 2 ^ m).testBit m = true := by rw [Nat.testBit_xor, testBit_big hD (Nat.le_refl _), Nat.testBit_two_pow, decide_eq_true rfl]; rfl
  have h1 : D ^^^ 2 ^ m < 2 ^ (m + 1) := Nat.xor_lt_two_pow (Nat.lt_trans hD (Nat.pow_lt_pow_right (by decide) (by omega))) (Nat.pow_lt_pow_right (by decide) (by omega))
  have h2 := bits_le.mpr h1
  refine Nat.le_antisymm h2 (Nat.lt_of_not_le fun z => ?_)
  rw [testBit_big (bits_le.mp z) (Nat.le_refl _)] at hb; cases hb
end
theorem two_pow_range {n : Nat} {g : Nat → Nat} (hg : Lin g) : ∀ {x : Nat}, x < 2 ^ n → comb ((List.range n).map fun k => g (2 ^ k)) x = g x := by
  induction n with
  | zero =>
    intro x h
    have : x = 0 := by simpa using h
    subst this; rw [comb_zero, hg.z]
  | succ n ih =>
    intro x h
    have hl : x % 2 ^ n < 2 ^ n := Nat.mod_lt _ (Nat.two_pow_pos n)
    rw [List.range_succ, List.map_append]
    show comb (_ ++ [g (2 ^ n)]) x = _
    rw [comb_snoc, List.length_map, List.length_range]
    have e1 : comb ((List.range n).map fun k => g (2 ^ k)) x = comb ((List.range n).map fun k => g (2 ^ k)) (x % 2 ^ n) := comb_ext fun j hj => by
      rw [List.length_map, List.length_range] at hj
      rw [Nat.testBit_mod_two_pow, decide_eq_true hj, Bool.true_and]
    rw [e1, ih hl]
    conv => rhs; rw [split_top h]
    rw [hg.x]
    congr 1
    by_cases c : x.testBit n = true
    · rw [if_pos c, if_pos c]
    · rw [if_neg c, if_neg c, hg.z]
/-- the turn with rows 0 -/
theorem lin_bits (ps : List (Nat × Nat)) : Lin (fun s => bitsV ps s 0) := by
  have b0 : ∀ p s, bitf p s 0 = par (p.1 &&& s) := fun p s => by unfold bitf; rw [Nat.and_zero, par_zero]; simp
  constructor
  · refine Nat.eq_of_testBit_eq fun j => ?_
    rw [bitsV_bit, b0, Nat.and_zero, par_zero, Nat.zero_testBit]; simp
  · intro a b
    refine Nat.eq_of_testBit_eq fun j => ?_
    have ax : ∀ c a b : Nat, c &&& (a ^^^ b) = (c &&& a) ^^^ (c &&& b) := fun c a b => Nat.eq_of_testBit_eq fun i => by
      rw [Nat.testBit_and, Nat.testBit_xor, Nat.testBit_xor, Nat.testBit_and, Nat.testBit_and]
      cases a.testBit i <;> cases b.testBit i <;> cases c.testBit i <;> rfl
    rw [Nat.testBit_xor, bitsV_bit, bitsV_bit, bitsV_bit, b0, b0, b0, ax, par_xor]
    cases decide (j < ps.length) <;> simp
theorem itV_lt {f : Nat → Nat} {n : Nat} (hf : ∀ s, f s < 2 ^ n) {v : Nat} (hv : v < 2 ^ n) : ∀ i, itV f v i < 2 ^ n
  | 0 => hv
  | i + 1 => hf _
end Wk
/-! Ei: except .. as e, isinstance of e; walks backward; lists of any kind that are of one kind. -/
namespace Wk
open PySem L2
def tTryAs (K : PySem.W.Frag) (c : Value) (i : Nat) (tb : WX → TS) (ts : Addr → Value → Option Addr → TS) (Wout : WX) : TS := fun D σ H => tb (wAs K c i ts Wout D) D σ H
theorem a_tryAs {K : PySem.W.Frag} {c : Value} {i : Nat} {tb : WX → TS} {ts : Addr → Value → Option Addr → TS} {Wout : WX} {D : Ends} {σ : L2.St} {H : Hp} (h : tb (wAs K c i ts Wout D) D σ H) : tTryAs K c i tb ts Wout D σ H := h
theorem a_excAs {K : PySem.W.Frag} {c cls : Value} {i : Nat} {d : Option Addr} {ts : Addr → Value → Option Addr → TS} {Wout : WX} {D : Ends} {σ : L2.St} {H : Hp} (he : PySem.W.exmOne K cls c = some true)
    (h : ∀ a, H a = none → ts a cls d { nx := fun σ' H' => D.nx (σ'.set i none) H', rt := D.rt, bk := fun σ' H' => D.bk (σ'.set i none) H', ct := fun σ' H' => D.ct (σ'.set i none) H' } (σ.set i (some (.ref a))) H) : wAs K c i ts Wout D cls d σ H :=
  ⟨true, he, fun _ => h, fun q => Bool.noConfusion q⟩
theorem a_excAsO {K : PySem.W.Frag} {c cls : Value} {i : Nat} {d : Option Addr} {ts : Addr → Value → Option Addr → TS} {Wout : WX} {D : Ends} {σ : L2.St} {H : Hp} (he : PySem.W.exmOne K cls c = some false) (h : Wout cls d σ H) : wAs K c i ts Wout D cls d σ H :=
  ⟨false, he, fun q => Bool.noConfusion q, fun _ => h⟩
/-- isinstance of the exception that is held -/
def tIsE (K : PySem.W.Frag) (i : Nat) (cls : Value) (d : Option Addr) (a C : Addr) : TE := fun σ H Q => ∃ (D : Addr) (b : Bool), cls = .ref D ∧ d = none ∧ ExcC K D ∧ PySem.W.kitOne K (.ref D) (.ref C) = some b ∧ σ[i]? = some (some (.ref a)) ∧ Q (.bl b) H
theorem pe_isE {X : Cx} {a C : Addr} {oe : Obj} {cls : Value} {d : Option Addr} {pn : List (Addr × Obj)} {i : Nat} {x c : Str} {pf px pc pos : Pos} (hz : Zc cls d oe) (hf : ∃ vs, oe.data = .fields vs) (hg : Gl X "isinstance") (hm : X.mg "isinstance" = none)
    (hx : PE (X.suite a ((a, oe) :: pn)) (.Name x px) (tVar i)) (hc : Gl X c) (hcm : X.mg c = some (.ref C)) (hd : (c == ("__debug__" : Str)) = false := by decide)
    (he : starEach [.Name x px, .Name c pc] X.env = (false, eval (.Name x px) X.env) :: starEach [.Name c pc] X.env := by rfl) (he2 : starEach [.Name c pc] X.env = (false, eval (.Name c pc) X.env) :: starEach [] X.env := by rfl)
    (hpl : (backTo pos (starEach [.Name c pc] X.env)).any (·.1) = false := by rfl) :
    PE (X.suite a ((a, oe) :: pn)) (.Call (.Name "isinstance" pf) [.Name x px, .Name c pc] [] pos) (tIsE X.K i cls d a C) := by
  refine ⟨fun pins s σ H Q I h => ?_⟩
  obtain ⟨D, b, rfl, rfl, hC, hk, hs, q⟩ := h
  have hcl : PE (X.suite a ((a, oe) :: pn)) (.Name c pc) (tC (.ref C)) := pe_glob (X := X.suite a ((a, oe) :: pn)) hc hcm rfl hd
  have ha : PA (X.suite a ((a, oe) :: pn)) [.Name x px, .Name c pc] (tCons (tVar i) (tCons (tC (.ref C)) tNil)) := pa_cons hx (pa_cons hcl pa_nil)
  exact (pe_callB (X := X.suite a ((a, oe) :: pn)) (call_isE (X := X) (pn := pn) hC hz hf) hg hm PyProof.Rows.boot_isinstance ha (by decide) (by decide) he hpl).run pins s σ H Q I
    ⟨_, hs, _, _, b, rfl, fun u ru => (show u = Value.ref C from ru), hk, q⟩
theorem kit_own {K : PySem.W.Frag} {S T : Addr} {b : Bool} (h2 : PySem.W.isClsIn K T = true) (h3 : PySem.W.typeIn K (.ref T) = some (.type "type")) (h0 : PySem.W.subIn K (.ref S) (.ref S) = some true) (h4 : PySem.W.subIn K (.ref S) (.ref T) = some b) :
    PySem.W.kitOne K (.ref S) (.ref T) = some b := by
  have e2 : ((PySem.W.clsIn K T).isSome && PySem.W.typeIn K (.ref T) == some (.type "type")) = true := by
    have h2' : (PySem.W.clsIn K T).isSome = true := h2
    rw [h2', h3]; rfl
  show (if ((Value.ref S == Value.ref T) = true) then some true else (if ((PySem.W.clsIn K T).isSome && PySem.W.typeIn K (.ref T) == some (.type "type")) = true then PySem.W.subIn K (.ref S) (.ref T) else none)) = some b
  by_cases q : (Value.ref S == Value.ref T) = true
  · rw [if_pos q]
    have e : S = T := Value.ref.inj (beq_iff_eq.mp q)
    subst e
    rw [h0] at h4; exact h4
  · rw [if_neg q, if_pos e2]; exact h4
section
variable {α : Type} {e : Rep α} {K : PySem.W.Frag} {F H : Hp} {v : V} {xs : List α} {R : It → Hp → Prop}
/-- reversed(a list) -/
theorem src_rev (r : (pL e).r F v xs) (f : Ex F H) (k : ∀ J, TWk J F e xs.reverse → R J H) : ∃ (a : Addr) (ws : List V), [v] = [V.ref a] ∧ SqL K H a ws ∧ R (Itv K a ws.length) H := by
  obtain ⟨p, vs, rfl, hp, a⟩ := r
  refine ⟨p, vs, rfl, SqL.of (f _ _ hp), k _ ⟨_, _, by rw [List.length_reverse, ← a.len]; exact walk_rev, fun F' H' h1 h2 => SqL.of (h2 _ _ (h1 _ _ hp)), fun i H v H' F' hi h1 h2 hy => ?_⟩⟩
  obtain ⟨rfl, hv⟩ := hy
  obtain ⟨z, hz, rz⟩ := a.got hv
  refine ⟨z, F', ?_, Wf.id h2, e.mono h1 rz⟩
  rw [List.length_reverse] at hi
  rw [List.getElem?_reverse hi, ← a.len]; exact hz
/-- range(i - 1, -1, -1) -/
theorem src_down {n : Nat} {i : Int} (hi : i + 1 = (n : Int)) (hn : n < 1000000) (k : ∀ J, TWk J F pN (List.range n).reverse → R J H) : ∃ (i' j c : Int) (m : Nat), [V.int i, V.int (-1), V.int (-1)] = [.int i', .int j, .int c] ∧ RgC i' j c m ∧ R (Itc i' c m) H := by
  have e : (i - (-1)).toNat = n := by omega
  refine ⟨i, -1, -1, n, rfl, by rw [← e]; exact RgC.neg (by omega) (by omega) (by decide) (by decide), k _ ⟨fun _ => True, YFn fun m => .int (i + (m : Nat) * (-1)), ?_, fun _ _ _ _ => trivial, fun m H x H' F' hm h1 h2 hy => ?_⟩⟩
  · rw [List.length_reverse, List.length_range]; exact walk_rangeC
  · obtain ⟨rfl, rfl⟩ := hy
    rw [List.length_reverse, List.length_range] at hm
    refine ⟨n - 1 - m, F', ?_, Wf.id h2, ?_⟩
    · rw [List.getElem?_reverse (by rw [List.length_range]; exact hm), List.length_range, List.getElem?_range (by omega)]
    · show V.int _ = V.int _
      congr 1; omega
theorem all_unN : ∀ {vs : List V} {ns : List Nat}, All pA F vs (ns.map anN) → All pN F vs ns
  | [], [], _ => trivial
  | _ :: _, _ :: _, ⟨a, b⟩ => ⟨a, all_unN b⟩
  | [], _ :: _, q => q.elim
  | _ :: _, [], q => q.elim
theorem an_toLN {x : An} {ns : List Nat} (r : pA.r F v x) (h : x = An.l (ns.map anN)) : (pL pN).r F v ns := by
  subst h
  obtain ⟨p, vs, a, b, c⟩ := an_l.mp r
  exact ⟨p, vs, a, b, all_unN c⟩
end
section
variable {α β γ : Type} {e : Rep α} {f : Rep β} {g : Rep γ} {K : PySem.W.Frag} {σ : L2.St} {F H : Hp} {v : V} {x : α × β × γ} {ta : TE} {C : Addr} {a b c : Str}
theorem len_T3 (r : (pT3 e f g).r F v x) (h : Ex F H) (ha : Val ta σ H v) : Val (tCB (rLen K) (tCons ta tNil)) σ H (.int ((3 : Nat) : Int)) := by
  obtain ⟨p, u, w, y, rfl, hp, _⟩ := r
  exact v_cb1 ha fun Q k => ⟨p, _, rfl, .inr (SqT.of (h _ _ hp)), k⟩
theorem ty_T3 (r : (pT3 e f g).r F v x) (h : Ex F H) : TyX K H v (.type "tuple") := by
  obtain ⟨p, u, w, y, rfl, hp, _⟩ := r
  exact .base (.tup (h _ _ hp))
/-- what isinstance asks of an own class -/
structure ClsI (K : PySem.W.Frag) (mg : Str → Option Value) (n : Str) (C : Addr) : Prop where
  ha : PySem.W.findIn K (.ref C) "__class__" = some (some (.builtin "object.__class__"))
  hn : PySem.W.specialIn K (.builtin "object.__class__") "__get__" = some (some (.builtin "getset_descriptor.__get__"))
  ht : PySem.W.takesIn K (.builtin "object.__class__") = some true
  hm : PySem.W.mroIn K C (.type "object") = some true
  g : mg n = some (.ref C)
theorem ty_O3 {mg : Str → Option Value} {n : Str} (r : (pO3 C a b c e f g).r F v x) (h : Ex F H) (cl : Cls K C) (ci : ClsI K mg n C) : TyX K H v (.ref C) := by
  obtain ⟨p, dx, fs, rfl, hp, _⟩ := r
  exact .base (.ins (h _ _ hp) cl ci.ha ci.hn ci.ht ci.hm)
theorem v_isiC (ha : Val ta σ H v) (t : TyX K H v (.ref C)) : Val (tCB (rIsi K) (tCons ta (tCons (tC (.ref C)) tNil))) σ H (.bl true) := fun Q k => ha _ ⟨v, .ref C, .ref C, .ref C, true, rfl, .own C, t, by
  show (if ((Value.ref C == Value.ref C) = true) then some true else _) = some true
  rw [if_pos (beq_self_eq_true _)], k⟩
end
end Wk
/-! St: texts. -/
namespace Wk
open PySem L2
/-- a text of one sign -/
def sg (c : Nat) : Str := ⟨#[c]⟩
def pG : Rep Nat := ⟨fun _ v c => v = .str (sg c), fun _ h => h⟩
def kAddS : R2 := fun x y H Q => ∃ i j, x = .str i ∧ y = .str j ∧ i.length + j.length ≤ sizeLine ∧ Q (.str (i ++ j)) H
def kInS : R2 := fun x y H Q => ∃ (c : Nat) (z : Str), x = .str ⟨#[c]⟩ ∧ y = .str z ∧ Q (.bl (decide (c ∈ z.cps.toList))) H
def kNotInS : R2 := fun x y H Q => ∃ (c : Nat) (z : Str), x = .str ⟨#[c]⟩ ∧ y = .str z ∧ Q (.bl (!decide (c ∈ z.cps.toList))) H
def kLeS : R2 := fun x y H Q => ∃ i j, x = .str i ∧ y = .str j ∧ Q (.bl (!decide (j.cps.toList < i.cps.toList))) H
section
variable {X : Cx}
theorem op_addS : OpR X (binaryOp .Add) kAddS := op_add_str
theorem iop_addS : OpR X (inplaceOp .Add) kAddS := iop_add_str
theorem op_inSg : OpR X (compareOp .In) kInS := op_in_sign
theorem op_notInSg : OpR X (compareOp .NotIn) kNotInS := op_notIn_sign
theorem op_leS : OpR X (compareOp .LtE) kLeS := op_le_str
end
/-- one text is not behind another -/
def leS (x y : Str) : Prop := ¬ (y.cps.toList < x.cps.toList)
instance (x y : Str) : Decidable (leS x y) := by unfold leS; infer_instance
def cutTS (x : Str) (lo hi : Option Nat) : Str := ⟨(cutT x.cps.toList lo hi).toArray⟩
theorem Str_len (x : Str) : x.cps.toList.length = x.length := rfl
theorem cutG_T {α : Type} {ws : List α} (lo hi : Option Nat) : (ws.drop (HT.sIx ws.length 0 (lo.map Int.ofNat))).take (HT.sIx ws.length ws.length (hi.map Int.ofNat) - HT.sIx ws.length 0 (lo.map Int.ofNat)) = cutT ws lo hi := by
  have tk : ∀ (n : Nat) (l : List α), l.take (min n l.length) = l.take n := fun n l => by
    by_cases h : n ≤ l.length
    · rw [Nat.min_eq_left h]
    · rw [Nat.min_eq_right (by omega), List.take_of_length_le (Nat.le_refl _), List.take_of_length_le (by omega)]
  unfold cutT
  cases lo with
  | none =>
    cases hi with
    | none => simp only [Option.map_none, HT.sIx_none, List.drop_zero, Nat.sub_zero, List.take_length]
    | some b =>
      simp only [Option.map_none, Option.map_some, HT.sIx_none, List.drop_zero, Nat.sub_zero]
      rw [show HT.sIx ws.length ws.length (some (Int.ofNat b)) = min b ws.length from HT.sIx_nat _ _ _]
      exact tk b ws
  | some a =>
    have dr : ws.drop (min a ws.length) = ws.drop a := by
      by_cases h : a ≤ ws.length
      · rw [Nat.min_eq_left h]
      · rw [Nat.min_eq_right (by omega), List.drop_of_length_le (Nat.le_refl _), List.drop_of_length_le (by omega)]
    cases hi with
    | none =>
      simp only [Option.map_none, Option.map_some, HT.sIx_none]
      rw [show HT.sIx ws.length 0 (some (Int.ofNat a)) = min a ws.length from HT.sIx_nat _ _ _, dr]
      exact List.take_of_length_le (by rw [List.length_drop]; omega)
    | some b =>
      simp only [Option.map_some]
      rw [show HT.sIx ws.length 0 (some (Int.ofNat a)) = min a ws.length from HT.sIx_nat _ _ _, show HT.sIx ws.length ws.length (some (Int.ofNat b)) = min b ws.length from HT.sIx_nat _ _ _, dr]
      by_cases h : a ≤ ws.length
      · rw [Nat.min_eq_left h, show min b ws.length - a = min (b - a) (ws.drop a).length from by rw [List.length_drop]; omega]
        exact tk _ _
      · rw [List.drop_of_length_le (show ws.length ≤ a by omega)]; simp
theorem cutS_T (x : Str) (lo hi : Option Nat) : cutS x (lo.map Int.ofNat) (hi.map Int.ofNat) = cutTS x lo hi := by
  unfold cutS cutTS
  first
    | exact congrArg (fun l => (⟨List.toArray l⟩ : Str)) (cutG_T (ws := x.cps.toList) lo hi)
    | exact TL.ext_tl (cutG_T (ws := x.cps.toList) lo hi)
section
variable {K : PySem.W.Frag} {σ : L2.St} {F0 H0 F H : Hp} {ta tb te : TE} {tl th : TO} {x y : Str} {v w : V} {i c : Nat} {Q : VK}
theorem v_addS (ha : Val ta σ H (.str x)) (hb : Val tb σ H (.str y)) (h : x.length + y.length < 1000000) : Val (tOp kAddS ta tb) σ H (.str (x ++ y)) :=
  v2 ha hb fun Q k => ⟨x, y, rfl, rfl, Nat.le_of_lt (small_len h), k⟩
theorem ix_Str (ha : Val ta σ H (.str x)) (hb : Val tb σ H (.int (i : Int))) (hl : x.length < 1000000) (hc : x.cps.toList[i]? = some c) : Val (tOp rIxS ta tb) σ H (.str (sg c)) :=
  v2 ha hb fun Q k => ⟨x, _, c, rfl, rfl, Nat.le_of_lt (small_len hl), atI_nat hc, k⟩
theorem v_inS (ha : Val ta σ H (.str (sg c))) (hb : Val tb σ H (.str y)) : Val (tOp kInS ta tb) σ H (.bl (decide (c ∈ y.cps.toList))) := v2 ha hb fun Q k => ⟨c, y, rfl, rfl, k⟩
theorem v_notInS (ha : Val ta σ H (.str (sg c))) (hb : Val tb σ H (.str y)) : Val (tOp kNotInS ta tb) σ H (.bl (decide (¬ c ∈ y.cps.toList))) := v2 ha hb fun Q k => ⟨c, y, rfl, rfl, by rw [← decide_not]; exact k⟩
theorem v_leS (ha : Val ta σ H (.str x)) (hb : Val tb σ H (.str y)) : Val (tOp kLeS ta tb) σ H (.bl (decide (leS x y))) := v2 ha hb fun Q k => ⟨x, y, rfl, rfl, by
  have e : (!decide (y.cps.toList < x.cps.toList)) = decide (leS x y) := by
    by_cases h : y.cps.toList < x.cps.toList
    · rw [decide_eq_true h, decide_eq_false (show ¬ leS x y from fun z => z h)]; rfl
    · rw [decide_eq_false h, decide_eq_true (show leS x y from h)]; rfl
  rw [e]; exact k⟩
theorem v_cutS {lo hi : Option Nat} (hv : Val te σ H (.str x)) (h1 : Part tl σ H lo) (h2 : Part th σ H hi) (hl : x.length < 1000000) : Val (L2.tSl rSlS te tl th) σ H (.str (cutTS x lo hi)) := fun Q k =>
  hv _ (h1 _ (h2 _ ⟨x, rfl, Nat.le_of_lt (small_len hl), by rw [cutS_T]; exact k⟩))
/-- sep.join(texts) -/
def rJoin (K : PySem.W.Frag) : V → List V → Hp → VK → Prop := fun x xs H Q => ∃ a p, ∃ ys : List Str, x = .str a ∧ xs = [.ref p] ∧ (SqL K H p (ys.map V.str) ∨ SqT K H p (ys.map V.str)) ∧ (ys.map (·.length)).sum + ys.length * a.length ≤ 16777216 ∧ Q (.str (Txt.join a ys)) H
theorem e_m1 {r : V → List V → Hp → VK → Prop} {to : TE} (h : to σ H fun v H1 => (∃ a, v = .str a) ∧ te σ H1 fun y H2 => r v [y] H2 Q) : tM1 r to te σ H Q := h
theorem all_str {ys : List Str} : ∀ {vs : List V} {ys : List Str}, All pS F vs ys → vs = ys.map V.str
  | [], [], _ => rfl
  | v :: vs, z :: ys, ⟨a, b⟩ => by rw [List.map_cons, ← all_str (ys := ys) b, show v = V.str z from a]
  | [], _ :: _, q => q.elim
  | _ :: _, [], q => q.elim
theorem n_join {ys : List Str} (r : (pL pS).r F v ys) (f : Ex F H) (hl : (ys.map (·.length)).sum + ys.length * x.length ≤ 16777216) (k : Q (.str (Txt.join x ys)) H) : rJoin K (.str x) [v] H Q := by
  obtain ⟨p, vs, rfl, hp, a⟩ := r
  have e := all_str (ys := ys) a
  subst e
  exact ⟨x, p, ys, rfl, rfl, .inl (SqL.of (f _ _ hp)), hl, k⟩
theorem n_joinX {ys : List Str} {p : Addr} (r : XL pS H0 F H p ys) (hl : (ys.map (·.length)).sum + ys.length * x.length ≤ 16777216) (k : Q (.str (Txt.join x ys)) H) : rJoin K (.str x) [.ref p] H Q := by
  obtain ⟨vs, hp, a⟩ := r.rd
  have e := all_str (ys := ys) a
  subst e
  exact ⟨x, p, ys, rfl, rfl, .inl (SqL.of hp), hl, k⟩
/-- the signs of a text -/
theorem src_str {R : It → Hp → Prop} (f : Ex F H) (k : TWk (Its x) F pG x.cps.toList → R (Its x) H) : ∃ y, V.str x = .str y ∧ R (Its y) H :=
  ⟨x, rfl, k ⟨_, _, by rw [Str_len]; exact walk_str, fun _ _ _ _ => trivial, fun i H v H' F' hi h1 h2 hy => by
    obtain ⟨rfl, c, hc, rfl⟩ := hy
    exact ⟨c, F', by rw [Array.getElem?_toList]; exact hc, Wf.id h2, rfl⟩⟩⟩
end
theorem an_str {F : Hp} {v : V} {x : An} {y : Str} (r : pA.r F v x) (h : x = An.s y) : v = .str y := by subst h; exact r
theorem an_D {κ α : Type} [KeyT κ] {e : Rep α} {F : Hp} {v : V} {m : List (κ × α)} (r : (pD e).r F v m) : pA.r F v (.o "dict") := by
  obtain ⟨p, kvs, rfl, hp, _⟩ := r
  exact ⟨p, rfl, .inr (.inr ⟨rfl, kvs, hp⟩)⟩
/-! a thing of any kind is not a text -/
section
open PySem.SeqAt AutoSeq1
theorem str_ne_declines_dict (b : Str) (u : Tok) (l : Addr) (es : Array DictEntry) (ep : Nat) :
    Meets (Builtin.«str.__ne__» ⟨[.str b u, .ref l], []⟩) (fun _ R s => s.heap.get? l = some { cls := .type "dict", dict := none, data := .dict es ep, slots := #[] } ∧ R (.ok (.ret .notImplemented)) s) :=
  .of_wp fun prog w A R s h => by obtain ⟨hp, g, d, tk, os⟩ := s; obtain ⟨hl, h⟩ := h; wp_walk using wpAny_loadPart' hl, wpAny_load hl; exact ⟨_, rfl, h⟩
theorem ne_dict_str {kt : Type} [DecidableEq kt] {prog : Program} {w : World} {knd : KeyKind prog w kt} {A : Around} {s : Shared} {E : Value → Shared → Prop} {Q : Value → Shared → Prop} {l : Addr} {kvs : List (kt × Value)} (b : Str) (u : Tok) (hd : s.heap.DictOf knd l kvs) (hu : A.units < cLine) (h : Q (.bool true) s) :
    wpAny (model prog w) A (compareOp .NotEq (.ref l) (.str b u)) Q E s := by
  have hT := hd.typeIs
  obtain ⟨⟨cls, dd, data, sl⟩, es, ep, ho, ⟨hc, h1, h2⟩, h3, _⟩ := id hd
  simp only at hc h1 h2 h3
  subst hc h1 h2 h3
  refine rc_ne_decline_or (k := false) hT (typeIs_str s b u) (by decide) F.sub_str_dict F.slot_dict_ne F.slot_str_ne_refl
    (fun Q' hq => wpAny_call_entry F.slot_dict_ne hT F.entry_dict_ne ?_ (F.args_dict_ne_2 _ _))
    (fun _ hq => call_meets F.slot_str_ne_refl (typeIs_str s b u) F.entry_str_ne (F.args_str_ne_2 _ _) (str_ne_declines_dict b u l es ep) ⟨ho, hq⟩)
    (fun _ hq => wpAny_of_eq (rfl : isSame (.ref l) (.str b u) = pure false) hq) (.inr hu) h
  show wpAny _ _ (Builtin.Dict.dictSlotArgs "__ne__" ⟨[.ref l, .str b u], []⟩ >>= _) _ _ s
  refine wpAny_bind ?_
  unfold Builtin.Dict.dictSlotArgs
  refine wpAny_bind (wpAny_notOrdered_dict hT ?_)
  show wpAny _ _ (pure (Value.ref l, Value.str b u)) _ _ s
  refine wpAny_pure ?_
  refine wpAny_bind (wpAny_isInstance (T := "str") (typeIs_str s b u) PySem.F.sub_str_dict ?_)
  simp only [Bool.not_false, if_true]
  exact wpAny_bind (wpAny_rule (wpAny_pure ⟨_, rfl, hq⟩))
end
def rNeAS (K : PySem.W.Frag) : R2 := fun x y H Q => rNe x y H Q ∨ ∃ a o z, x = .ref a ∧ H a = some o ∧ ((∃ vs, o = .lst vs) ∨ (∃ vs, o = .tup vs) ∨ (∃ kvs, o = .dK kvs)) ∧ y = .str z ∧ Q (.bl true) H
theorem op_neAS {X : Cx} (hu : X.A.units + 64 < cLine) : OpR X (compareOp .NotEq) (rNeAS X.K) := by
  intro pins s σ H x y v u Q I rx ry h
  rcases h with h | ⟨a, o, z, rfl, ea, hh, rfl, q⟩
  · exact op_ne pins s σ H x y v u Q I rx ry h
  · obtain rfl : v = Value.ref a := rx
    obtain ⟨t, rfl⟩ := ry
    rcases hh with ⟨vs, rfl⟩ | ⟨vs, rfl⟩ | ⟨kvs, rfl⟩
    · obtain ⟨_, its, n, _, g⟩ := (show ObjOk X.prog X.w H s.heap a (.lst vs) from I.hok a _ ea)
      exact SeqAt.RcNeAt.list_str z t ⟨_, g, rfl, n, rfl⟩ (by omega) X.prog X.w _ _ (fin_bl I q rfl)
    · obtain ⟨_, its, _, g⟩ := (show ObjOk X.prog X.w H s.heap a (.tup vs) from I.hok a _ ea)
      exact SeqAt.RcNeAt.tuple_str z t g (by omega) X.prog X.w _ _ (fin_bl I q rfl)
    · obtain ⟨_, ya, va, ra, da⟩ := (show ObjOk X.prog X.w H s.heap a (.dK kvs) from I.hok a _ ea)
      exact ne_dict_str z t da (by omega) (fin_bl I q rfl)
/-- thing != text -/
def neAS (x : An) (z : Str) : Bool := match x with | .s y => decide (y ≠ z) | _ => true
theorem v_neAS {K : PySem.W.Frag} {σ : L2.St} {F H : Hp} {ta tb : TE} {v : V} {x : An} {z : Str} (ha : Val ta σ H v) (hb : Val tb σ H (.str z)) (r : pA.r F v x) (f : Ex F H) : Val (tOp (rNeAS K) ta tb) σ H (.bl (neAS x z)) := v2 ha hb fun Q k => by
  have flat : ∀ w : V, scal w (.str z) = true → v = w → neAS x z = !decide (w = .str z) → rNeAS K v (.str z) H Q := fun w hw e e2 => .inl ⟨by rw [e]; exact hw, by rw [e, ← e2]; exact k⟩
  cases x with
  | i n => exact flat _ rfl (show v = .int n from r) rfl
  | b b => exact flat _ rfl (show v = .bl b from r) rfl
  | n => exact flat _ rfl (show v = .non from r) rfl
  | s y => exact flat _ rfl (show v = .str y from r) (by
      show decide (y ≠ z) = _
      rw [← decide_not, dec_iff (show (¬ V.str y = V.str z) ↔ y ≠ z from ⟨fun h e => h (by rw [e]), fun h e => h (V.str.inj e)⟩)])
  | o T =>
    obtain ⟨p, rfl, q⟩ := (show ∃ p, v = .ref p ∧ _ from r)
    rcases q with ⟨_, vs, q⟩ | ⟨_, vs, q⟩ | ⟨_, vs, q⟩
    · exact .inr ⟨p, _, z, rfl, f _ _ q, .inl ⟨vs, rfl⟩, rfl, k⟩
    · exact .inr ⟨p, _, z, rfl, f _ _ q, .inr (.inl ⟨vs, rfl⟩), rfl, k⟩
    · exact .inr ⟨p, _, z, rfl, f _ _ q, .inr (.inr ⟨vs, rfl⟩), rfl, k⟩
  | l xs =>
    obtain ⟨p, vs, rfl, q, _⟩ := an_l.mp r
    exact .inr ⟨p, _, z, rfl, f _ _ q, .inl ⟨vs, rfl⟩, rfl, k⟩
  | t xs =>
    obtain ⟨p, vs, rfl, q, _⟩ := an_t.mp r
    exact .inr ⟨p, _, z, rfl, f _ _ q, .inr (.inl ⟨vs, rfl⟩), rfl, k⟩
end Wk
/-! Rn: regions: what a call has made, held apart from F so that it may still be changed; new things inside lists. -/
namespace Wk
open PySem L2
/-- things that hold nothing of what was there at H0, as a reading -/
def pNew {α : Type} (H0 : Hp) (e : Rep α) : Rep α := ⟨fun F v x => e.r (nw H0 F) v x, fun h r => e.mono (nw_ex h) r⟩
/-- things that stand in G -/
def pAt {α : Type} (G : Hp) (e : Rep α) : Rep α := ⟨fun _ v x => e.r G v x, fun _ r => r⟩
/-- what a call has made -/
structure RG (H0 F H G : Hp) : Prop where
  z : ∀ a o, G a = some o → H0 a = none
  n : ∀ a o, G a = some o → F a = none
  h : Ex G H
/-- the same, its lists changed: each has grown by at most k -/
structure RD (H0 F H G : Hp) (k : Nat) : Prop where
  z : ∀ a o, G a = some o → H0 a = none
  n : ∀ a o, G a = some o → F a = none
  c : ∀ a o, G a = some o → ∃ o', H a = some o'
  l : ∀ a vs, G a = some (.lst vs) → ∃ ws, H a = some (.lst ws) ∧ ws.length ≤ vs.length + k
/-- but for its lists -/
def nl (G : Hp) : Hp := fun a => match G a with | some (.lst _) => none | o => o
theorem nl_sub {G : Hp} : Ex (nl G) G := fun a o e => by
  unfold nl at e
  split at e
  · cases e
  · exact e
theorem nl_lst {G : Hp} {p : Addr} {vs : List V} (h : G p = some (.lst vs)) : nl G p = none := by unfold nl; rw [h]
theorem nl_tup {G : Hp} {p : Addr} {vs : List V} (h : G p = some (.tup vs)) : nl G p = some (.tup vs) := by unfold nl; rw [h]
section
variable {α β γ : Type} {e : Rep α} {f : Rep β} {k3 : Rep γ} {K : PySem.W.Frag} {σ : L2.St} {F0 H0 F F' F2 H H' H2 G : Hp} {p q : Addr} {v u : V} {x : α} {xs : List α} {Q : VK} {to : TE} {tA : TA} {vs : List V} {o : HO} {k : Nat}
theorem new_r (h : (pNew H0 e).r F v x) : e.r F v x := e.mono nw_sub h
theorem new_base (w : Wf F0 H0 F2 H) (h : (pNew H e).r F v x) : (pNew H0 e).r F v x := e.mono (fun a o q => by
  unfold nw at q ⊢
  by_cases c : H a = none
  · rw [if_pos c] at q; rw [if_pos (w.h.non c)]; exact q
  · rw [if_neg c] at q; cases q) h
theorem RG.step (g : RG H0 F H G) (w : Wf F H F' H') : RG H0 F' H' G := by
  refine ⟨g.z, fun a o e => ?_, g.h.tr w.h⟩
  cases q : F' a with
  | none => rfl
  | some u =>
    have := w.n a u q (g.n a o e)
    rw [g.h a o e] at this
    cases this
theorem RG.xc (g : RG H0 F H G) {a : Addr} {o : HO} (e : G a = some o) : Xc H0 F H a o := ⟨g.z a o e, g.n a o e, g.h a o e⟩
theorem RG.ne (g : RG H0 F H G) (h : H q = none) : G q = none := g.h.non h
theorem RG.frzO (g : RG H0 F H G) (fz : Fz F F' p) (hq : G p = none) (_ : Ex F F') : RG H0 F' H G :=
  ⟨g.z, fun a o e => fz a (ne_of_none e hq) (g.n a o e), g.h⟩
theorem RG.kept (g : RG H0 F H G) (h : ∀ q o, H q = some o → q ≠ p → H' q = some o) (hq : G p = none) : RG H0 F H' G := ⟨g.z, g.n, fun a o e => h a o (g.h a o e) (ne_of_none e hq)⟩
theorem RD.step (g : RD H0 F H G k) (w : Wf F H F' H') : RD H0 F' H' G k := by
  refine ⟨g.z, fun a o e => ?_, fun a o e => ?_, fun a vs e => ?_⟩
  · cases q : F' a with
    | none => rfl
    | some u =>
      obtain ⟨o', h⟩ := g.c a o e
      have := w.n a u q (g.n a o e)
      rw [h] at this
      cases this
  · obtain ⟨o', h⟩ := g.c a o e
    exact ⟨o', w.h _ _ h⟩
  · obtain ⟨ws, h1, h2⟩ := g.l a vs e
    exact ⟨ws, w.h _ _ h1, h2⟩
theorem RD.ne (g : RD H0 F H G k) (h : H q = none) : G q = none := by
  cases e : G q with
  | none => rfl
  | some o => obtain ⟨o', z⟩ := g.c q o e; rw [h] at z; cases z
theorem RD.frzO (g : RD H0 F H G k) (fz : Fz F F' p) (hq : G p = none) (_ : Ex F F') : RD H0 F' H G k := by
  exact ⟨g.z, fun a o e => fz a (ne_of_none e hq) (g.n a o e), g.c, g.l⟩
theorem RD.kept (g : RD H0 F H G k) (h : ∀ q o, H q = some o → q ≠ p → H' q = some o) (hq : G p = none) : RD H0 F H' G k := by
  refine ⟨g.z, g.n, fun a o e => ?_, fun a vs e => ?_⟩
  · obtain ⟨o', z⟩ := g.c a o e
    exact ⟨o', h a o' z (ne_of_none e hq)⟩
  · obtain ⟨ws, h1, h2⟩ := g.l a vs e
    exact ⟨ws, h _ _ h1 (ne_of_none e hq), h2⟩
theorem RG.rd (g : RG H0 F H G) : RD H0 F H G 0 := ⟨g.z, g.n, fun a o e => ⟨o, g.h a o e⟩, fun a vs e => ⟨vs, g.h a _ e, Nat.le_refl _⟩⟩
theorem RG.nl (g : RG H0 F H G) : RG H0 F H (nl G) := ⟨fun a o e => g.z a o (nl_sub a o e), fun a o e => g.n a o (nl_sub a o e), fun a o e => g.h a o (nl_sub a o e)⟩
/-- both heaps together -/
def un (F G : Hp) : Hp := fun a => match F a with | some o => some o | none => G a
theorem un_l {F G : Hp} : Ex F (un F G) := fun a o e => by unfold un; rw [e]
theorem RG.un_r (g : RG H0 F H G) : Ex G (un F G) := fun a o e => by unfold un; rw [g.n a o e]; exact e
theorem RG.frz (g : RG H0 F H G) (w : Wf F0 H0 F H) : Wf F0 H0 (un F G) H := ⟨w.h, fun a o e => by
    unfold un at e
    cases q : F a with
    | some u => rw [q] at e; cases e; exact w.f a _ q
    | none => rw [q] at e; exact g.h a o e, w.g.tr un_l, fun a o e e0 => by
    unfold un at e
    cases q : F a with
    | some u => exact w.n a u q e0
    | none => rw [q] at e; exact g.z a o e⟩
theorem RG.frzE (g : RG H0 F H G) (w : Wf F0 H0 F H) : ∃ F', Wf F0 H0 F' H ∧ Ex F F' ∧ Ex G F' ∧ (∀ q, G q = none → F q = none → F' q = none) :=
  ⟨_, g.frz w, un_l, g.un_r, fun q h x => by unfold un; rw [x]; exact h⟩
theorem RG.lend (g : RG H0 F H G) (w : Wf F0 H0 F H) : ∃ Fl, Ex Fl H ∧ Ex F Fl ∧ Ex G Fl := ⟨_, (g.frz w).f, un_l, g.un_r⟩
theorem XL.frzG (x : XL e H0 F H q xs) (fz : ∀ q, G q = none → F q = none → F' q = none) (hq : G q = none) (g : Ex F F') : XL e H0 F' H q xs := let ⟨vs, a, b⟩ := x.x; ⟨vs, ⟨a.z, fz _ hq a.n, a.h⟩, b.mono g⟩
/-- behind a call -/
theorem RG.of (w : Wf F0 H0 F H) (sf : Ex F2 H2) : RG H0 F H2 (nw H F2) := by
  have key : ∀ a o, nw H F2 a = some o → H a = none := fun a o e => by
    unfold nw at e
    by_cases c : H a = none
    · exact c
    · rw [if_neg c] at e; cases e
  exact ⟨fun a o e => w.h.non (key a o e), fun a o e => w.f.non (key a o e), fun a o e => sf a o (nw_sub a o e)⟩
theorem nw_ne (h : H p = some o) : nw H F2 p = none := by unfold nw; rw [if_neg (by rw [h]; simp)]
theorem XL.re (x : XL e H0 F H p xs) : nw H F2 p = none := let ⟨vs, a, _⟩ := x.x; nw_ne a.h
theorem Xc.re (x : Xc H0 F H p o) : nw H F2 p = none := nw_ne x.h
theorem at_new (h : Fre H e F2 v x) : e.r (nw H F2) v x := h
theorem ne_rg (hq : G q = none) (hp : G p = some o) : q ≠ p := fun z => by rw [z, hp] at hq; cases hq
/-! copies -/
theorem all_cv {e' : Rep α} (h : ∀ {v x}, e.r G v x → e'.r F v x) : ∀ {vs : List V} {xs : List α}, All e G vs xs → All e' F vs xs
  | [], [], _ => trivial
  | _ :: _, _ :: _, ⟨a, b⟩ => ⟨h a, all_cv h b⟩
  | [], _ :: _, q => q.elim
  | _ :: _, [], q => q.elim
theorem n_listG {e' : Rep α} (cv : ∀ {v x}, e.r G v x → e'.r F v x) (r : (pL e).r G v xs) (g : Ex G H) (w : Wf F0 H0 F H) (k : ∀ p H', H p = none → Wf F H F H' → XL e' H0 F H' p xs → Q (.ref p) H') : rListOf K [v] H Q := by
  obtain ⟨p, vs, rfl, hp, a⟩ := r
  exact ⟨p, vs, rfl, .inl (SqL.of (g _ _ hp)), fun l hl => k l _ hl (Wf.newX w.f hl) ⟨vs, Xc.mk' w hl, all_cv cv a⟩⟩
/-! changes -/
theorem L_at (r : (pL e).r G v xs) : ∃ p vs, v = .ref p ∧ G p = some (.lst vs) ∧ vs.length = xs.length := let ⟨p, vs, a, b, c⟩ := r; ⟨p, vs, a, b, c.len⟩
theorem m_rd {r : V → List V → Hp → VK → Prop} (g : RD H0 F H G k) (hp : G p = some (.lst vs)) (ho : Val to σ H (.ref p)) (kk : tA σ H fun vs H2 => r (.ref p) vs H2 Q) : tBM K "list" r to tA σ H Q :=
  ho _ ⟨let ⟨ws, h, _⟩ := g.l p vs hp; Or.inl ⟨rfl, _, Or.inl (Or.inl h)⟩, kk⟩
theorem m_rd0 {r : V → List V → Hp → VK → Prop} (g : RD H0 F H G k) (hp : G p = some (.lst vs)) (ho : Val to σ H (.ref p)) (kk : r (.ref p) [] H Q) : tBM0 K "list" r to σ H Q :=
  ho _ ⟨let ⟨ws, h, _⟩ := g.l p vs hp; Or.inl ⟨rfl, _, Or.inl (Or.inl h)⟩, kk⟩
theorem RD.setL (g : RD H0 F H G k) {vs ws us : List V} {j : Nat} (hp : G p = some (.lst vs)) (hl : us.length ≤ vs.length + j) (hk : k ≤ j) : RD H0 F (upd H p (.lst us)) G j := ⟨g.z, g.n, fun a o e => by
    by_cases q : a = p
    · subst q; exact ⟨_, upd_same⟩
    · rw [upd_ne q]; exact g.c a o e, fun a vs' e => by
    by_cases q : a = p
    · subst q; rw [hp] at e; cases e; exact ⟨us, upd_same, hl⟩
    · rw [upd_ne q]; obtain ⟨ws, h1, h2⟩ := g.l a vs' e; exact ⟨ws, h1, by omega⟩⟩
theorem Wf.setG (w : Wf F0 H0 F H) (g : RD H0 F H G k) (hp : G p = some o) {u : HO} : Wf F0 H0 F (upd H p u) := ⟨fun a v e => by
    rw [upd_ne (ne_of_none e (g.z _ _ hp))]; exact w.h a v e, fun a v e => by rw [upd_ne (ne_of_none e (g.n _ _ hp))]; exact w.f a v e, w.g, w.n⟩
theorem a_appD (g : RD H0 F H G k) (hp : G p = some (.lst vs)) (w : Wf F0 H0 F H) (hl : vs.length + k < 1000000) (kk : ∀ H', Wf F0 H0 F H' → RD H0 F H' G (k + 1) → (∀ q o, H q = some o → q ≠ p → H' q = some o) → Q .non H') : rAppend (.ref p) [v] H Q := by
  obtain ⟨ws, h1, h2⟩ := g.l p vs hp
  exact ⟨p, ws, v, rfl, rfl, h1, small_len (by omega), kk _ (w.setG g hp) (g.setL (ws := ws) hp (by rw [List.length_append]; simp; omega) (by omega)) fun q o h hq => by rw [upd_ne hq]; exact h⟩
theorem a_clrD (g : RD H0 F H G k) (hp : G p = some (.lst vs)) (w : Wf F0 H0 F H) (kk : ∀ H', Wf F0 H0 F H' → RD H0 F H' G k → (∀ q o, H q = some o → q ≠ p → H' q = some o) → Q .non H') : rClear (.ref p) [] H Q := by
  obtain ⟨ws, h1, h2⟩ := g.l p vs hp
  exact ⟨p, ws, rfl, rfl, h1, kk _ (w.setG g hp) (g.setL (ws := ws) hp (by simp) (by omega)) fun q o h hq => by rw [upd_ne hq]; exact h⟩
/-! a tuple whose lists may have changed -/
theorem T2_at {z : α × β} (r : (pT2 e f).r G v z) : (pT2 (pAt G e) (pAt G f)).r (nl G) v z := let ⟨p, u, w, a, b, c, d⟩ := r; ⟨p, u, w, a, nl_tup b, c, d⟩
theorem T3_at {z : α × β × γ} (r : (pT3 e f k3).r G v z) : (pT3 (pAt G e) (pAt G f) (pAt G k3)).r (nl G) v z := let ⟨p, u, w, y, a, b, c, d, h⟩ := r; ⟨p, u, w, y, a, nl_tup b, c, d, h⟩
/-! min, divmod, xs[i] op= y -/
def rMin2 : List V → Hp → VK → Prop := fun xs H Q => ∃ i j, xs = [.int i, .int j] ∧ Q (.int (if j < i then j else i)) H
theorem vn_min2 {a b : Nat} {ta tb : TE} (ha : Val ta σ H (.int (a : Int))) (hb : Val tb σ H (.int (b : Int))) : Val (tCB rMin2 (tCons ta (tCons tb tNil))) σ H (.int ((min a b : Nat) : Int)) := fun Q k =>
  ha _ (hb _ ⟨_, _, rfl, by
    have e : (if (b : Int) < (a : Int) then (b : Int) else (a : Int)) = ((min a b : Nat) : Int) := by
      by_cases h : b < a
      · rw [if_pos (by omega)]; omega
      · rw [if_neg (by omega)]; omega
    rw [e]; exact k⟩)
def rDivmod : List V → Hp → VK → Prop := fun xs H Q => ∃ i j, xs = [.int i, .int j] ∧ CDivP i j ∧ ∀ p, H p = none → Q (.ref p) (upd H p (.tup [.int (i / j), .int (i % j)]))
theorem nDivmod {a b : Nat} (hs : NDiv b) (w : Wf F0 H0 F H) (k : ∀ v F' H', Wf F H F' H' → (pT2 pN pN).r F' v (a / b, a % b) → Q v H') : rDivmod [.int (a : Int), .int (b : Int)] H Q :=
  ⟨a, b, rfl, ⟨by have := hs.1; omega, PyProof.noPylong_of_log2 hs.2⟩, fun p hp => k _ _ _ (Wf.new w.f hp) ⟨p, _, _, rfl, upd_same, show V.int _ = V.int _ from rfl, show V.int _ = V.int _ from rfl⟩⟩
theorem get_list {X : Cx} : PGet X (rIxL X.K) := by
  intro pins s σ H o i ov iv Q I ro ri h
  obtain ⟨p, xs, i, z, rfl, rfl, hq, he, q⟩ := h
  cases ro
  obtain ⟨t, rfl⟩ := ri
  obtain ⟨its, r, pl, hz⟩ := I.list hq
  obtain ⟨j, h1, h2, h3, h4, h5⟩ := atI_get he
  obtain ⟨w, ew, rw'⟩ := r.get h2
  have hl := r.length
  have hn := line63
  have fin : EP X pins σ Q w s := ⟨z, H, I, rw', q⟩
  by_cases h0 : 0 ≤ i
  · have hj : i.toNat = j := by
      rw [seqIndex_of h0 h5] at h1
      exact Option.some.inj h1
    exact wpAny_getItem_list pl.isList h0 (by omega) (by rw [hj]; simpa using ew) fin
  · have hj : (i + (its.toArray.size : Int)).toNat = j := by
      rw [seqIndex_neg (by omega) h4] at h1
      rw [List.size_toArray, ← hl]
      exact Option.some.inj h1
    exact wpAny_getItem_list_neg pl.isList (by omega) (by rw [List.size_toArray] <;> omega) (by omega) (by rw [hj]; simpa using ew) fin
/-- xs[i] op= y, of numbers -/
theorem a_laug {D : Ends} {ti tb : TE} {tip : TIp} {xs : List Nat} {i y b z : Nat} (x : XL pN H0 F H p xs) (w : Wf F0 H0 F H) (hx : xs[i]? = some y) (ho : Val to σ H (.ref p)) (hi : Val ti σ H (.int (i : Int))) (hb : Val tb σ H (.int (b : Int)))
    (hz : ∀ Q : VK, Q (.int (z : Int)) H → tip (.int (y : Int)) (.int (b : Int)) H Q)
    (kk : ∀ H', Wf F0 H0 F H' → XL pN H0 F H' p (xs.set i z) → (∀ q o, H q = some o → q ≠ p → H' q = some o) → D.nx σ H') : tAugS to ti tb (rIxL K) tip rSetL D σ H := by
  obtain ⟨vs, a, al⟩ := x.x
  obtain ⟨u, h1, h2⟩ := al.get hx
  have h2' : u = .int (y : Int) := h2
  subst h2'
  have hlt : i < vs.length := by
    rcases Nat.lt_or_ge i vs.length with q | q
    · exact q
    · rw [List.getElem?_eq_none q] at h1; cases h1
  refine ho _ (hi _ ⟨p, vs, _, _, rfl, rfl, SqL.of a.h, atI_nat h1, hb _ (hz _ ⟨p, vs, _, i, rfl, rfl, a.h, ?_, ?_⟩)⟩)
  · unfold ixN
    rw [if_pos (by omega), if_pos (by omega)]; rfl
  · exact kk _ (w.set a) ⟨_, a.set, al.set i (show pN.r F (.int (z : Int)) z from rfl)⟩ fun q o h hq => by rw [upd_ne hq]; exact h
theorem nl_ne (h : G q = none) : nl G q = none := by unfold nl; rw [h]
theorem XD.re {κ : Type} [KeyT κ] {m : List (κ × α)} (x : XD e H0 F H p m) : nw H F2 p = none := let ⟨vs, a, _⟩ := x.x; nw_ne a.h
theorem XD.frzG {κ : Type} [KeyT κ] {m : List (κ × α)} (x : XD e H0 F H q m) (fz : ∀ q, G q = none → F q = none → F' q = none) (hq : G q = none) (g : Ex F F') : XD e H0 F' H q m := let ⟨vs, a, b⟩ := x.x; ⟨vs, ⟨a.z, fz _ hq a.n, a.h⟩, b.mono g⟩
theorem RG.re (x : RG H0 F H G) {a : Addr} {o : HO} (h : G a = some o) : nw H F2 a = none := nw_ne (x.h a o h)
/-! a text in a list of texts -/
theorem inV_str {x : Str} : ∀ {ys : List Str}, inV (.str x) (ys.map V.str) = decide (x ∈ ys)
  | [] => rfl
  | y :: ys => by
    have ih := inV_str (x := x) (ys := ys)
    unfold inV at ih ⊢
    rw [List.map_cons, List.any_cons, ih]
    have e : eqV (.str y) (.str x) = decide (x = y) := by
      show (y == x) = _
      by_cases h : x = y
      · subst h; simp
      · rw [decide_eq_false h]; exact beq_eq_false_iff_ne.mpr (fun z => h z.symm)
    rw [e, Bool.eq_iff_iff]
    simp
theorem flat_str : ∀ {ys : List Str}, (ys.map V.str).all flatV = true
  | [] => rfl
  | _ :: ys => by rw [List.map_cons, List.all_cons, flat_str (ys := ys)]; rfl
theorem v_inLS {ta tb : TE} {y : Str} {ys : List Str} (ha : Val ta σ H (.str y)) (hb : Val tb σ H v) (r : (pL pS).r F v ys) (f1 : Ex F H) : Val (tOp (rIn K false) ta tb) σ H (.bl (decide (y ∈ ys))) := v2 ha hb fun Q k => by
  obtain ⟨p, vs, rfl, hp, a⟩ := r
  have e := all_str (ys := ys) a
  subst e
  exact ⟨p, _, rfl, .inl (SqL.of (f1 _ _ hp)), rfl, flat_str, by rw [if_neg (by decide), inV_str]; exact k⟩
theorem v_notInLS {ta tb : TE} {y : Str} {ys : List Str} (ha : Val ta σ H (.str y)) (hb : Val tb σ H v) (r : (pL pS).r F v ys) (f1 : Ex F H) : Val (tOp (rIn K true) ta tb) σ H (.bl (decide (¬ y ∈ ys))) := v2 ha hb fun Q k => by
  obtain ⟨p, vs, rfl, hp, a⟩ := r
  have e := all_str (ys := ys) a
  subst e
  exact ⟨p, _, rfl, .inl (SqL.of (f1 _ _ hp)), rfl, flat_str, by rw [if_pos rfl, inV_str, ← decide_not]; exact k⟩
end
/-! data with texts in it: compared where the texts can be laid -/
class Dao {α : Type} (e : Rep α) (lv : outParam Nat) where
  ok : α → Prop
  d : α → PyData
  dp : ∀ {K : PySem.W.Frag} {F : Hp} {v : V} {x : α}, e.r F v x → Dp K F v (d x)
  lay : ∀ x, ok x → (d x).canLay0 = true
  dep : ∀ x, (d x).depth ≤ lv
  inj : ∀ x y, PyData.eqv (d x) (d y) = true ↔ x = y
def okV {α : Type} (e : Rep α) {n : Nat} [Dao e n] (x : α) : Prop := Dao.ok e x
def okS (x : Str) : Prop := PyData.canLay0 (.str x) = true
instance : Dao pI 0 := ⟨fun _ => True, Dat.d pI, Dat.dp, fun x _ => Dat.lay (e := pI) x, Dat.dep, Dat.inj⟩
instance : Dao pN 0 := ⟨fun _ => True, Dat.d pN, Dat.dp, fun x _ => Dat.lay (e := pN) x, Dat.dep, Dat.inj⟩
instance : Dao pB 0 := ⟨fun _ => True, Dat.d pB, Dat.dp, fun x _ => Dat.lay (e := pB) x, Dat.dep, Dat.inj⟩
instance : Dao pS 0 := ⟨okS, .str, fun h => by cases (show _ = V.str _ from h); exact .str _, fun _ h => h, fun _ => Nat.le_refl _, fun x y => by
  show ((x == y) = true) ↔ _
  exact beq_iff_eq⟩
theorem lay_allO {α : Type} {d : α → PyData} {ok : α → Prop} (h : ∀ x, ok x → (d x).canLay0 = true) : ∀ xs : List α, (∀ x ∈ xs, ok x) → PyData.canLayAll0 (xs.map d) = true
  | [], _ => rfl
  | x :: xs, q => by
    show (PyData.canLay0 (d x) && PyData.canLayAll0 (xs.map d)) = true
    rw [h x (q x (List.mem_cons_self ..)), lay_allO h xs fun y hy => q y (List.mem_cons_of_mem _ hy)]; rfl
theorem dp_allO {α : Type} {e : Rep α} {lv : Nat} [Dao e lv] {K : PySem.W.Frag} {F : Hp} : ∀ {vs : List V} {xs : List α}, All e F vs xs → DpAll K F vs (xs.map (Dao.d e))
  | [], [], _ => .nil
  | _ :: _, _ :: _, ⟨a, b⟩ => .cons (Dao.dp a) (dp_allO b)
  | [], _ :: _, q => q.elim
  | _ :: _, [], q => q.elim
instance {α : Type} {e : Rep α} {n : Nat} [Dao e n] : Dao (pL e) (n + 1) := ⟨fun xs => ∀ x ∈ xs, Dao.ok e x, fun xs => .list (xs.map (Dao.d e)), fun {K F v xs} h => by
    obtain ⟨p, vs, rfl, hp, a⟩ := h
    exact .lst (SqL.of hp) (dp_allO a), fun xs => lay_allO (Dao.lay (e := e)) xs, fun xs => by
    have := dep_all (Dao.dep (e := e)) xs
    simp only [PyData.depth]
    omega, fun xs ys => by
    show PyData.eqvAll (xs.map (Dao.d e)) (ys.map (Dao.d e)) = true ↔ _
    exact eqv_all (Dao.inj (e := e)) xs ys⟩
instance {α : Type} {e : Rep α} {n : Nat} [Dao e n] : Dao (pTL e) (n + 1) := ⟨fun xs => ∀ x ∈ xs, Dao.ok e x, fun xs => .tuple (xs.map (Dao.d e)), fun {K F v xs} h => by
    obtain ⟨p, vs, rfl, hp, a⟩ := h
    exact .tup (SqT.of hp) (dp_allO a), fun xs => lay_allO (Dao.lay (e := e)) xs, fun xs => by
    have := dep_all (Dao.dep (e := e)) xs
    simp only [PyData.depth]
    omega, fun xs ys => by
    show PyData.eqvAll (xs.map (Dao.d e)) (ys.map (Dao.d e)) = true ↔ _
    exact eqv_all (Dao.inj (e := e)) xs ys⟩
instance {α β : Type} {e : Rep α} {f : Rep β} {n m : Nat} [Dao e n] [Dao f m] : Dao (pT2 e f) (max n m + 1) := ⟨fun x => Dao.ok e x.1 ∧ Dao.ok f x.2, fun x => .tuple [Dao.d e x.1, Dao.d f x.2], fun {K F v x} h => by
    obtain ⟨p, u, w, rfl, hp, a, b⟩ := h
    exact .tup (SqT.of hp) (.cons (Dao.dp a) (.cons (Dao.dp b) .nil)), fun x h => by
    show (PyData.canLay0 (Dao.d e x.1) && (PyData.canLay0 (Dao.d f x.2) && PyData.canLayAll0 [])) = true
    rw [Dao.lay _ h.1, Dao.lay _ h.2]; rfl, fun x => by
    have a := Dao.dep (e := e) x.1
    have b := Dao.dep (e := f) x.2
    simp only [PyData.depth, PyData.depthAll]
    omega, fun x y => by
    show (PyData.eqv (Dao.d e x.1) (Dao.d e y.1) && (PyData.eqv (Dao.d f x.2) (Dao.d f y.2) && PyData.eqvAll [] [])) = true ↔ _
    have z : PyData.eqvAll [] [] = true := rfl
    rw [z, Bool.and_true, Bool.and_eq_true, Dao.inj, Dao.inj, Prod.ext_iff]⟩
instance {α β γ : Type} {e : Rep α} {f : Rep β} {g : Rep γ} {n m k : Nat} [Dao e n] [Dao f m] [Dao g k] : Dao (pT3 e f g) (max n (max m k) + 1) := ⟨fun x => Dao.ok e x.1 ∧ Dao.ok f x.2.1 ∧ Dao.ok g x.2.2, fun x => .tuple [Dao.d e x.1, Dao.d f x.2.1, Dao.d g x.2.2], fun {K F v x} h => by
    obtain ⟨p, u, w, y, rfl, hp, a, b, c⟩ := h
    exact .tup (SqT.of hp) (.cons (Dao.dp a) (.cons (Dao.dp b) (.cons (Dao.dp c) .nil))), fun x h => by
    show (PyData.canLay0 (Dao.d e x.1) && (PyData.canLay0 (Dao.d f x.2.1) && (PyData.canLay0 (Dao.d g x.2.2) && PyData.canLayAll0 []))) = true
    rw [Dao.lay _ h.1, Dao.lay _ h.2.1, Dao.lay _ h.2.2]; rfl, fun x => by
    have a := Dao.dep (e := e) x.1
    have b := Dao.dep (e := f) x.2.1
    have c := Dao.dep (e := g) x.2.2
    simp only [PyData.depth, PyData.depthAll]
    omega, fun x y => by
    show (PyData.eqv (Dao.d e x.1) (Dao.d e y.1) && (PyData.eqv (Dao.d f x.2.1) (Dao.d f y.2.1) && (PyData.eqv (Dao.d g x.2.2) (Dao.d g y.2.2) && PyData.eqvAll [] []))) = true ↔ _
    have z : PyData.eqvAll [] [] = true := rfl
    rw [z, Bool.and_true, Bool.and_eq_true, Bool.and_eq_true, Dao.inj, Dao.inj, Dao.inj, Prod.ext_iff, Prod.ext_iff]⟩
instance {α : Type} {e : Rep α} {n : Nat} [Dao e n] : Dao (pAlt (pL e) pN) (n + 1) := ⟨fun x => match x with | .inl xs => ∀ y ∈ xs, Dao.ok e y | .inr _ => True, fun x => match x with | .inl xs => .list (xs.map (Dao.d e)) | .inr m => .int (m : Int), fun {K F v x} h => by
    cases x with
    | inl xs =>
      obtain ⟨p, vs, rfl, hp, a⟩ := (show (pL e).r F v xs from h)
      exact .lst (SqL.of hp) (dp_allO a)
    | inr m => cases (show v = V.int _ from h); exact .int _, fun x h => by
    cases x with
    | inl xs => exact lay_allO (Dao.lay (e := e)) xs h
    | inr m => rfl, fun x => by
    cases x with
    | inl xs =>
      have := dep_all (Dao.dep (e := e)) xs
      simp only [PyData.depth]
      omega
    | inr m => simp only [PyData.depth]; omega, fun x y => by
    cases x with
    | inl xs =>
      cases y with
      | inl ys =>
        show PyData.eqvAll (xs.map (Dao.d e)) (ys.map (Dao.d e)) = true ↔ _
        rw [eqv_all (Dao.inj (e := e)) xs ys]
        exact ⟨fun h => by rw [h], fun h => Sum.inl.inj h⟩
      | inr m => exact ⟨fun h => absurd (show false = true from h) (by decide), fun h => nomatch h⟩
    | inr m =>
      cases y with
      | inl ys => exact ⟨fun h => absurd (show false = true from h) (by decide), fun h => nomatch h⟩
      | inr k =>
        show (((m : Int) == (k : Int)) = true) ↔ _
        rw [beq_iff_eq]
        exact ⟨fun h => by rw [show m = k by omega], fun h => by rw [Sum.inr.inj h]⟩⟩
theorem Dao.shp {α : Type} {e : Rep α} {n : Nat} [Dao e n] (h : n ≤ 64) {x : α} (o : okV e x) : SeqAt.shaped (Dao.d e x) = true := by
  unfold SeqAt.shaped
  rw [Dao.lay x o, decide_eq_true (Nat.le_trans (Dao.dep x) h)]; rfl
section
variable {α : Type} {e : Rep α} {K : PySem.W.Frag} {σ : L2.St} {F F' H : Hp} {ta tb : TE} {v w : V} {x y : α} {n : Nat}
theorem c_eqO [DecidableEq α] [Dao e n] (ha : Val ta σ H v) (hb : Val tb σ H w) (f : Ex F H) (r : e.r F v x) (g : Ex F' H) (s : e.r F' w y) (o : okV e x ∧ okV e y) (h : n ≤ 64 := by decide) : Val (tOp (rEqD K) ta tb) σ H (.bl (decide (x = y))) :=
  v2 ha hb fun Q k => ⟨_, _, Dao.dp (e.mono f r), Dao.dp (e.mono g s), Dao.shp h o.1, Dao.shp h o.2, by
    have z : PyData.eqv (Dao.d e x) (Dao.d e y) = decide (x = y) := Bool.eq_iff_iff.mpr (by rw [Dao.inj, decide_eq_true_iff])
    rw [z]; exact k⟩
theorem c_neO [DecidableEq α] [Dao e n] (ha : Val ta σ H v) (hb : Val tb σ H w) (f : Ex F H) (r : e.r F v x) (g : Ex F' H) (s : e.r F' w y) (o : okV e x ∧ okV e y) (h : n ≤ 64 := by decide) : Val (tOp (rNeD K) ta tb) σ H (.bl (decide (x ≠ y))) :=
  v2 ha hb fun Q k => ⟨_, _, Dao.dp (e.mono f r), Dao.dp (e.mono g s), Dao.shp h o.1, Dao.shp h o.2, by
    have z : PyData.eqv (Dao.d e x) (Dao.d e y) = decide (x = y) := Bool.eq_iff_iff.mpr (by rw [Dao.inj, decide_eq_true_iff])
    rw [z, ← decide_not]; exact k⟩
end
end Wk
/-! Dt: readings tell one thing: what a reading holds for, it holds for because of one outcome. -/
namespace Wk
class Ctx (C : Type) where
  Out : Type
  at_ : Out → C → Prop
instance {α : Type} : Ctx (α → Prop) := ⟨α, fun z c => c z⟩
instance {C E : Type} [Ctx C] [Ctx E] : Ctx (C × E) := ⟨Sum (Ctx.Out C) (Ctx.Out E), fun o d => match o with | .inl o => Ctx.at_ o d.1 | .inr o => Ctx.at_ o d.2⟩
def Det {C : Type} [Ctx C] (W : C → Prop) : Prop := ∀ c, W c → (∀ c', W c') ∨ ∃ o : Ctx.Out C, Ctx.at_ o c ∧ ∀ c', Ctx.at_ o c' → W c'
theorem Det.lf0a {S : Type} (z : S) : Det (fun d : (S → Prop) => d z) := fun d h => .inr ⟨z, h, fun _ q => q⟩
theorem Det.lf0r {C S : Type} [Ctx C] (z : S) : Det (fun d : (C × (S → Prop)) => d.2 z) := fun d h => .inr ⟨Sum.inr z, h, fun _ q => q⟩
theorem Det.lf0rl {C S T : Type} [Ctx C] [Ctx T] (z : S) : Det (fun d : (C × ((S → Prop) × T)) => d.2.1 z) := fun d h => .inr ⟨Sum.inr (Sum.inl z), h, fun _ q => q⟩
theorem Det.lf0rr {C S T : Type} [Ctx C] [Ctx T] (z : S) : Det (fun d : (C × (T × (S → Prop))) => d.2.2 z) := fun d h => .inr ⟨Sum.inr (Sum.inr z), h, fun _ q => q⟩
theorem Det.lf1a {S : Type} {E0 : Type} [Ctx E0] (z : S) : Det (fun d : ((S → Prop) × E0) => d.1 z) := fun d h => .inr ⟨Sum.inl (z), h, fun _ q => q⟩
theorem Det.lf1r {C S : Type} [Ctx C] {E0 : Type} [Ctx E0] (z : S) : Det (fun d : ((C × (S → Prop)) × E0) => d.1.2 z) := fun d h => .inr ⟨Sum.inl (Sum.inr z), h, fun _ q => q⟩
theorem Det.lf1rl {C S T : Type} [Ctx C] [Ctx T] {E0 : Type} [Ctx E0] (z : S) : Det (fun d : ((C × ((S → Prop) × T)) × E0) => d.1.2.1 z) := fun d h => .inr ⟨Sum.inl (Sum.inr (Sum.inl z)), h, fun _ q => q⟩
theorem Det.lf1rr {C S T : Type} [Ctx C] [Ctx T] {E0 : Type} [Ctx E0] (z : S) : Det (fun d : ((C × (T × (S → Prop))) × E0) => d.1.2.2 z) := fun d h => .inr ⟨Sum.inl (Sum.inr (Sum.inr z)), h, fun _ q => q⟩
theorem Det.lf2a {S : Type} {E0 : Type} [Ctx E0] {E1 : Type} [Ctx E1] (z : S) : Det (fun d : (((S → Prop) × E0) × E1) => d.1.1 z) := fun d h => .inr ⟨Sum.inl (Sum.inl (z)), h, fun _ q => q⟩
theorem Det.lf2r {C S : Type} [Ctx C] {E0 : Type} [Ctx E0] {E1 : Type} [Ctx E1] (z : S) : Det (fun d : (((C × (S → Prop)) × E0) × E1) => d.1.1.2 z) := fun d h => .inr ⟨Sum.inl (Sum.inl (Sum.inr z)), h, fun _ q => q⟩
theorem Det.lf2rl {C S T : Type} [Ctx C] [Ctx T] {E0 : Type} [Ctx E0] {E1 : Type} [Ctx E1] (z : S) : Det (fun d : (((C × ((S → Prop) × T)) × E0) × E1) => d.1.1.2.1 z) := fun d h => .inr ⟨Sum.inl (Sum.inl (Sum.inr (Sum.inl z))), h, fun _ q => q⟩
theorem Det.lf2rr {C S T : Type} [Ctx C] [Ctx T] {E0 : Type} [Ctx E0] {E1 : Type} [Ctx E1] (z : S) : Det (fun d : (((C × (T × (S → Prop))) × E0) × E1) => d.1.1.2.2 z) := fun d h => .inr ⟨Sum.inl (Sum.inl (Sum.inr (Sum.inr z))), h, fun _ q => q⟩
theorem Det.lf3a {S : Type} {E0 : Type} [Ctx E0] {E1 : Type} [Ctx E1] {E2 : Type} [Ctx E2] (z : S) : Det (fun d : ((((S → Prop) × E0) × E1) × E2) => d.1.1.1 z) := fun d h => .inr ⟨Sum.inl (Sum.inl (Sum.inl (z))), h, fun _ q => q⟩
theorem Det.lf3r {C S : Type} [Ctx C] {E0 : Type} [Ctx E0] {E1 : Type} [Ctx E1] {E2 : Type} [Ctx E2] (z : S) : Det (fun d : ((((C × (S → Prop)) × E0) × E1) × E2) => d.1.1.1.2 z) := fun d h => .inr ⟨Sum.inl (Sum.inl (Sum.inl (Sum.inr z))), h, fun _ q => q⟩
theorem Det.lf3rl {C S T : Type} [Ctx C] [Ctx T] {E0 : Type} [Ctx E0] {E1 : Type} [Ctx E1] {E2 : Type} [Ctx E2] (z : S) : Det (fun d : ((((C × ((S → Prop) × T)) × E0) × E1) × E2) => d.1.1.1.2.1 z) := fun d h => .inr ⟨Sum.inl (Sum.inl (Sum.inl (Sum.inr (Sum.inl z)))), h, fun _ q => q⟩
theorem Det.lf3rr {C S T : Type} [Ctx C] [Ctx T] {E0 : Type} [Ctx E0] {E1 : Type} [Ctx E1] {E2 : Type} [Ctx E2] (z : S) : Det (fun d : ((((C × (T × (S → Prop))) × E0) × E1) × E2) => d.1.1.1.2.2 z) := fun d h => .inr ⟨Sum.inl (Sum.inl (Sum.inl (Sum.inr (Sum.inr z)))), h, fun _ q => q⟩
theorem Det.lf4a {S : Type} {E0 : Type} [Ctx E0] {E1 : Type} [Ctx E1] {E2 : Type} [Ctx E2] {E3 : Type} [Ctx E3] (z : S) : Det (fun d : (((((S → Prop) × E0) × E1) × E2) × E3) => d.1.1.1.1 z) := fun d h => .inr ⟨Sum.inl (Sum.inl (Sum.inl (Sum.inl (z)))), h, fun _ q => q⟩
theorem Det.lf4r {C S : Type} [Ctx C] {E0 : Type} [Ctx E0] {E1 : Type} [Ctx E1] {E2 : Type} [Ctx E2] {E3 : Type} [Ctx E3] (z : S) : Det (fun d : (((((C × (S → Prop)) × E0) × E1) × E2) × E3) => d.1.1.1.1.2 z) := fun d h => .inr ⟨Sum.inl (Sum.inl (Sum.inl (Sum.inl (Sum.inr z)))), h, fun _ q => q⟩
theorem Det.lf4rl {C S T : Type} [Ctx C] [Ctx T] {E0 : Type} [Ctx E0] {E1 : Type} [Ctx E1] {E2 : Type} [Ctx E2] {E3 : Type} [Ctx E3] (z : S) : Det (fun d : (((((C × ((S → Prop) × T)) × E0) × E1) × E2) × E3) => d.1.1.1.1.2.1 z) := fun d h => .inr ⟨Sum.inl (Sum.inl (Sum.inl (Sum.inl (Sum.inr (Sum.inl z))))), h, fun _ q => q⟩
theorem Det.lf4rr {C S T : Type} [Ctx C] [Ctx T] {E0 : Type} [Ctx E0] {E1 : Type} [Ctx E1] {E2 : Type} [Ctx E2] {E3 : Type} [Ctx E3] (z : S) : Det (fun d : (((((C × (T × (S → Prop))) × E0) × E1) × E2) × E3) => d.1.1.1.1.2.2 z) := fun d h => .inr ⟨Sum.inl (Sum.inl (Sum.inl (Sum.inl (Sum.inr (Sum.inr z))))), h, fun _ q => q⟩
theorem Det.lf5a {S : Type} {E0 : Type} [Ctx E0] {E1 : Type} [Ctx E1] {E2 : Type} [Ctx E2] {E3 : Type} [Ctx E3] {E4 : Type} [Ctx E4] (z : S) : Det (fun d : ((((((S → Prop) × E0) × E1) × E2) × E3) × E4) => d.1.1.1.1.1 z) := fun d h => .inr ⟨Sum.inl (Sum.inl (Sum.inl (Sum.inl (Sum.inl (z))))), h, fun _ q => q⟩
theorem Det.lf5r {C S : Type} [Ctx C] {E0 : Type} [Ctx E0] {E1 : Type} [Ctx E1] {E2 : Type} [Ctx E2] {E3 : Type} [Ctx E3] {E4 : Type} [Ctx E4] (z : S) : Det (fun d : ((((((C × (S → Prop)) × E0) × E1) × E2) × E3) × E4) => d.1.1.1.1.1.2 z) := fun d h => .inr ⟨Sum.inl (Sum.inl (Sum.inl (Sum.inl (Sum.inl (Sum.inr z))))), h, fun _ q => q⟩
theorem Det.lf5rl {C S T : Type} [Ctx C] [Ctx T] {E0 : Type} [Ctx E0] {E1 : Type} [Ctx E1] {E2 : Type} [Ctx E2] {E3 : Type} [Ctx E3] {E4 : Type} [Ctx E4] (z : S) : Det (fun d : ((((((C × ((S → Prop) × T)) × E0) × E1) × E2) × E3) × E4) => d.1.1.1.1.1.2.1 z) := fun d h => .inr ⟨Sum.inl (Sum.inl (Sum.inl (Sum.inl (Sum.inl (Sum.inr (Sum.inl z)))))), h, fun _ q => q⟩
theorem Det.lf5rr {C S T : Type} [Ctx C] [Ctx T] {E0 : Type} [Ctx E0] {E1 : Type} [Ctx E1] {E2 : Type} [Ctx E2] {E3 : Type} [Ctx E3] {E4 : Type} [Ctx E4] (z : S) : Det (fun d : ((((((C × (T × (S → Prop))) × E0) × E1) × E2) × E3) × E4) => d.1.1.1.1.1.2.2 z) := fun d h => .inr ⟨Sum.inl (Sum.inl (Sum.inl (Sum.inl (Sum.inl (Sum.inr (Sum.inr z)))))), h, fun _ q => q⟩
theorem Det.lf6a {S : Type} {E0 : Type} [Ctx E0] {E1 : Type} [Ctx E1] {E2 : Type} [Ctx E2] {E3 : Type} [Ctx E3] {E4 : Type} [Ctx E4] {E5 : Type} [Ctx E5] (z : S) : Det (fun d : (((((((S → Prop) × E0) × E1) × E2) × E3) × E4) × E5) => d.1.1.1.1.1.1 z) := fun d h => .inr ⟨Sum.inl (Sum.inl (Sum.inl (Sum.inl (Sum.inl (Sum.inl (z)))))), h, fun _ q => q⟩
theorem Det.lf6r {C S : Type} [Ctx C] {E0 : Type} [Ctx E0] {E1 : Type} [Ctx E1] {E2 : Type} [Ctx E2] {E3 : Type} [Ctx E3] {E4 : Type} [Ctx E4] {E5 : Type} [Ctx E5] (z : S) : Det (fun d : (((((((C × (S → Prop)) × E0) × E1) × E2) × E3) × E4) × E5) => d.1.1.1.1.1.1.2 z) := fun d h => .inr ⟨Sum.inl (Sum.inl (Sum.inl (Sum.inl (Sum.inl (Sum.inl (Sum.inr z)))))), h, fun _ q => q⟩
theorem Det.lf6rl {C S T : Type} [Ctx C] [Ctx T] {E0 : Type} [Ctx E0] {E1 : Type} [Ctx E1] {E2 : Type} [Ctx E2] {E3 : Type} [Ctx E3] {E4 : Type} [Ctx E4] {E5 : Type} [Ctx E5] (z : S) : Det (fun d : (((((((C × ((S → Prop) × T)) × E0) × E1) × E2) × E3) × E4) × E5) => d.1.1.1.1.1.1.2.1 z) := fun d h => .inr ⟨Sum.inl (Sum.inl (Sum.inl (Sum.inl (Sum.inl (Sum.inl (Sum.inr (Sum.inl z))))))), h, fun _ q => q⟩
theorem Det.lf6rr {C S T : Type} [Ctx C] [Ctx T] {E0 : Type} [Ctx E0] {E1 : Type} [Ctx E1] {E2 : Type} [Ctx E2] {E3 : Type} [Ctx E3] {E4 : Type} [Ctx E4] {E5 : Type} [Ctx E5] (z : S) : Det (fun d : (((((((C × (T × (S → Prop))) × E0) × E1) × E2) × E3) × E4) × E5) => d.1.1.1.1.1.1.2.2 z) := fun d h => .inr ⟨Sum.inl (Sum.inl (Sum.inl (Sum.inl (Sum.inl (Sum.inl (Sum.inr (Sum.inr z))))))), h, fun _ q => q⟩
section
variable {C α S β : Type} [Ctx C]
theorem Det.const {p : Prop} : Det (fun _ : C => p) := fun c h => .inl fun _ => h
theorem Det.and {p : Prop} {W : C → Prop} (h : p → Det W) : Det (fun c => p ∧ W c) := fun c ⟨a, b⟩ => (h a c b).imp (fun q c' => ⟨a, q c'⟩) fun ⟨o, x, y⟩ => ⟨o, x, fun c' q => ⟨a, y c' q⟩⟩
theorem Det.ex {W : α → C → Prop} (h : ∀ x, Det (W x)) : Det (fun c => ∃ x, W x c) := fun c ⟨a, b⟩ => (h a c b).imp (fun q c' => ⟨a, q c'⟩) fun ⟨o, x, y⟩ => ⟨o, x, fun c' q => ⟨a, y c' q⟩⟩
theorem Det.alleq {t : α} {W : α → C → Prop} (h : Det (W t)) : Det (fun c => ∀ x, x = t → W x c) := fun c k => (h c (k t rfl)).imp (fun q c' x e => by subst e; exact q c') fun ⟨o, a, b⟩ => ⟨o, a, fun c' q x e => by subst e; exact b c' q⟩
theorem Det.ite {p : Prop} [Decidable p] {A B : C → Prop} (ha : Det A) (hb : Det B) : Det (fun c => if p then A c else B c) := by
  by_cases h : p
  · intro c k
    have k' : A c := by have := k; simp only [if_pos h] at this; exact this
    exact (ha c k').imp (fun q c' => by show if p then _ else _; rw [if_pos h]; exact q c') fun ⟨o, a, b⟩ => ⟨o, a, fun c' q => by show if p then _ else _; rw [if_pos h]; exact b c' q⟩
  · intro c k
    have k' : B c := by have := k; simp only [if_neg h] at this; exact this
    exact (hb c k').imp (fun q c' => by show if p then _ else _; rw [if_neg h]; exact q c') fun ⟨o, a, b⟩ => ⟨o, a, fun c' q => by show if p then _ else _; rw [if_neg h]; exact b c' q⟩
theorem Det.jn {A : C → (S → Prop) → Prop} {K : S → C → Prop} (hA : Det (fun d : C × (S → Prop) => A d.1 d.2)) (hK : ∀ x, Det (K x)) : Det (fun c => Wk.jn (fun kk => A c kk) (fun x => K x c)) := fun c h => by
  rcases hA (c, fun x => K x c) h with h1 | ⟨o, h2, h3⟩
  · exact .inl fun c' => h1 (c', _)
  · cases o with
    | inl o => exact .inr ⟨o, h2, fun c' q => h3 (c', _) q⟩
    | inr x =>
      rcases hK x c h2 with a | ⟨o, a, b⟩
      · exact .inl fun c' => h3 (c', fun x => K x c') (a c')
      · exact .inr ⟨o, a, fun c' q => h3 (c', fun x => K x c') (b c' q)⟩
/-- a call -/
theorem Det.call {W : (S → Prop) → Prop} {K : S → C → Prop} (hW : Det W) (hK : ∀ x, Det (K x)) : Det (fun c => W (fun x => K x c)) := fun c h => by
  rcases hW (fun x => K x c) h with h1 | ⟨x, h2, h3⟩
  · exact .inl fun c' => h1 _
  · rcases hK x c h2 with a | ⟨o, a, b⟩
    · exact .inl fun c' => h3 (fun x => K x c') (a c')
    · exact .inr ⟨o, a, fun c' q => h3 (fun x => K x c') (b c' q)⟩
theorem Det.for_ {B : C → α → S → (S → Prop) → (S → Prop) → Prop} {K : S → C → Prop} (hB : ∀ x s, Det (fun d : C × ((S → Prop) × (S → Prop)) => B d.1 x s d.2.1 d.2.2)) (hK : ∀ s, Det (K s)) :
    ∀ (xs : List α) (s : S), Det (fun c => forW xs s (fun x s nx bk => B c x s nx bk) (fun s => K s c))
  | [], s => hK s
  | x :: xs, s => fun c h => by
    rcases hB x s (c, (fun s' => forW xs s' (fun x s nx bk => B c x s nx bk) (fun s => K s c)), (fun s => K s c)) h with h1 | ⟨o, h2, h3⟩
    · exact .inl fun c' => h1 (c', _, _)
    · cases o with
      | inl o => exact .inr ⟨o, h2, fun c' q => h3 (c', _, _) q⟩
      | inr o =>
        cases o with
        | inl s' =>
          rcases Det.for_ hB hK xs s' c h2 with a | ⟨o, a, b⟩
          · exact .inl fun c' => h3 (c', _, _) (a c')
          · exact .inr ⟨o, a, fun c' q => h3 (c', _, _) (b c' q)⟩
        | inr s' =>
          rcases hK s' c h2 with a | ⟨o, a, b⟩
          · exact .inl fun c' => h3 (c', _, fun s => K s c') (a c')
          · exact .inr ⟨o, a, fun c' q => h3 (c', _, fun s => K s c') (b c' q)⟩
theorem Det.compG_ {B : C → α → (Option β → Prop) → Prop} {K : List β → C → Prop} (hB : ∀ x, Det (fun d : C × (Option β → Prop) => B d.1 x d.2)) (hK : ∀ s, Det (K s)) :
    ∀ (xs : List α) (acc : List β), Det (fun c => compG xs acc (fun x kk => B c x kk) (fun s => K s c))
  | [], s => hK s
  | x :: xs, s => fun c h => by
    rcases hB x (c, (fun o => compG xs (s ++ o.toList) (fun x kk => B c x kk) (fun s => K s c))) h with h1 | ⟨o, h2, h3⟩
    · exact .inl fun c' => h1 (c', _)
    · cases o with
      | inl o => exact .inr ⟨o, h2, fun c' q => h3 (c', _) q⟩
      | inr o =>
        rcases Det.compG_ hB hK xs (s ++ o.toList) c h2 with a | ⟨o, a, b⟩
        · exact .inl fun c' => h3 (c', _) (a c')
        · exact .inr ⟨o, a, fun c' q => h3 (c', _) (b c' q)⟩
theorem Det.comp_ {B : C → α → (Option β → Prop) → Prop} {K : List β → C → Prop} (hB : ∀ x, Det (fun d : C × (Option β → Prop) => B d.1 x d.2)) (hK : ∀ s, Det (K s)) (xs : List α) : Det (fun c => compW xs (fun x kk => B c x kk) (fun s => K s c)) := Det.compG_ hB hK xs []
theorem Det.mono {W : C → Prop} (h : Det W) {c c' : C} (hc : ∀ o : Ctx.Out C, Ctx.at_ o c → Ctx.at_ o c') (hw : W c) : W c' := by
  rcases h c hw with a | ⟨o, a, b⟩
  · exact a c'
  · exact b c' (hc o a)
/-- the way out of a loop goes on with K -/
theorem Det.sub {B : C → (S → Prop) → (S → Prop) → Prop} {K : S → C → Prop} (hB : Det (fun d : C × ((S → Prop) × (S → Prop)) => B d.1 d.2.1 d.2.2)) (hK : ∀ s, Det (K s)) : Det (fun d : C × (S → Prop) => B d.1 d.2 (fun s => K s d.1)) := fun d h => by
  rcases hB (d.1, d.2, fun s => K s d.1) h with h1 | ⟨o, h2, h3⟩
  · exact .inl fun d' => h1 (d'.1, d'.2, _)
  · cases o with
    | inl o => exact .inr ⟨.inl o, h2, fun d' q => h3 (d'.1, d'.2, _) q⟩
    | inr o =>
      cases o with
      | inl s' => exact .inr ⟨.inr s', h2, fun d' q => h3 (d'.1, d'.2, _) q⟩
      | inr s' =>
        rcases hK s' d.1 h2 with a | ⟨o, a, b⟩
        · exact .inl fun d' => h3 (d'.1, d'.2, fun s => K s d'.1) (a d'.1)
        · exact .inr ⟨.inl o, a, fun d' q => h3 (d'.1, d'.2, fun s => K s d'.1) (b d'.1 q)⟩
theorem Det.fst {E : Type} [Ctx E] {W : C → Prop} (h : Det W) : Det (fun d : C × E => W d.1) := fun d k => by
  rcases h d.1 k with a | ⟨o, a, b⟩
  · exact .inl fun d' => a d'.1
  · exact .inr ⟨.inl o, a, fun d' q => b d'.1 q⟩
/-- a while: its test tells by one outcome, too -/
theorem Det.while_ {T : S → (Bool → Prop) → Prop} {B : C → S → (S → Prop) → (S → Prop) → Prop} {K : S → C → Prop} (hT : ∀ s, Det (T s)) (hB : ∀ s, Det (fun d : C × ((S → Prop) × (S → Prop)) => B d.1 s d.2.1 d.2.2)) (hK : ∀ s, Det (K s)) (s : S) :
    Det (fun c => whileW (fun s t => T s t) (fun s nx bk => B c s nx bk) s (fun s => K s c)) := by
  have turn : ∀ u, Det (fun d : C × (S → Prop) => T u fun b => if b = true then B d.1 u d.2 (fun s => K s d.1) else K u d.1) := fun u =>
    Det.call (K := fun b (d : C × (S → Prop)) => if b = true then B d.1 u d.2 (fun s => K s d.1) else K u d.1) (hT u) fun b => Det.ite (Det.sub (B := fun c N k => B c u N k) (hB u) hK) (Det.fst (hK u))
  intro c ⟨I, ⟨m, hm⟩, hI⟩
  suffices go : ∀ m s, I m s → (∀ c', whileW (fun s t => T s t) (fun s nx bk => B c' s nx bk) s (fun s => K s c')) ∨ ∃ o : Ctx.Out C, Ctx.at_ o c ∧ ∀ c', Ctx.at_ o c' → whileW (fun s t => T s t) (fun s nx bk => B c' s nx bk) s (fun s => K s c') from go m s hm
  intro m
  induction m using Nat.strongRecOn with
  | ind m ih =>
    intro s hs
    have now : ∀ c', (∀ N : S → Prop, T s fun b => if b = true then B c' s N (fun s => K s c') else K s c') → whileW (fun s t => T s t) (fun s nx bk => B c' s nx bk) s (fun s => K s c') := fun c' h =>
      ⟨fun _ u => u = s, ⟨0, rfl⟩, fun n u e => by subst e; exact h _⟩
    rcases turn s (c, fun s' => ∃ m', m' < m ∧ I m' s') (hI m s hs) with h1 | ⟨o, h2, h3⟩
    · exact .inl fun c' => now c' fun N => h1 (c', N)
    · cases o with
      | inl o => exact .inr ⟨o, h2, fun c' q => now c' fun N => h3 (c', N) q⟩
      | inr s1 =>
        obtain ⟨m1, hlt, hs1⟩ := h2
        have step : ∀ c', whileW (fun s t => T s t) (fun s nx bk => B c' s nx bk) s1 (fun s => K s c') → whileW (fun s t => T s t) (fun s nx bk => B c' s nx bk) s (fun s => K s c') := fun c' ⟨J, ⟨n1, hn1⟩, hJ⟩ => by
          refine ⟨fun n u => J n u ∨ (u = s ∧ n = n1 + 1), ⟨n1 + 1, .inr ⟨rfl, rfl⟩⟩, fun n u hu => ?_⟩
          rcases hu with hu | ⟨rfl, rfl⟩
          · refine Det.mono (turn u) (c := (c', fun s' => ∃ m', m' < n ∧ J m' s')) (c' := (c', fun s' => ∃ m', m' < n ∧ (J m' s' ∨ (s' = s ∧ m' = n1 + 1)))) (fun o q => ?_) (hJ n u hu)
            cases o with
            | inl o => exact q
            | inr x => obtain ⟨m', a, b⟩ := q; exact ⟨m', a, .inl b⟩
          · exact h3 (c', fun s' => ∃ m', m' < n1 + 1 ∧ (J m' s' ∨ (s' = u ∧ m' = n1 + 1))) ⟨n1, Nat.lt_succ_self _, .inl hn1⟩
        rcases ih m1 hlt s1 hs1 with a | ⟨o, a, b⟩
        · exact .inl fun c' => step c' (a c')
        · exact .inr ⟨o, a, fun c' q => step c' (b c' q)⟩
/-- sorted keys -/
theorem sorted_unique {ys zs : List Nat} (p : ys.Perm zs) (hy : ys.Pairwise (· ≤ ·)) (hz : zs.Pairwise (· ≤ ·)) : ys = zs := p.eq_of_pairwise (fun a b _ _ => Nat.le_antisymm) hy hz
theorem Det.sorted {l : List Nat} {W : List Nat → C → Prop} (h : ∀ ys, Det (W ys)) : Det (fun c => ∀ ys : List Nat, ys.Perm l → ys.Pairwise (· ≤ ·) → W ys c) := by
  have ex : ∃ ys : List Nat, ys.Perm l ∧ ys.Pairwise (· ≤ ·) := ⟨l.mergeSort (fun a b => decide (a ≤ b)), List.mergeSort_perm _ _, by
    have := List.pairwise_mergeSort (le := fun a b => decide (a ≤ b)) (fun a b c h1 h2 => by simp at h1 h2 ⊢; omega) (fun a b => by simp; omega) l
    exact this.imp fun h => by simpa using h⟩
  obtain ⟨ys, hp, hs⟩ := ex
  intro c k
  have un : ∀ zs : List Nat, zs.Perm l → zs.Pairwise (· ≤ ·) → zs = ys := fun zs p s => sorted_unique (p.trans hp.symm) s hs
  rcases h ys c (k ys hp hs) with a | ⟨o, a, b⟩
  · exact .inl fun c' zs p s => by rw [un zs p s]; exact a c'
  · exact .inr ⟨o, a, fun c' q zs p s => by rw [un zs p s]; exact b c' q⟩
/-- what a reading tells, once it is known to tell something -/
theorem Det.tells {W : (α → Prop) → Prop} (h : Det W) {P : α → Prop} (hp : ∀ R : α → Prop, (∀ z, P z → R z) → W R) (hne : ¬ W fun _ => False) : ∃ z, P z ∧ ∀ R : α → Prop, R z → W R := by
  rcases h P (hp P fun _ q => q) with a | ⟨o, a, b⟩
  · exact absurd (a fun _ => False) hne
  · exact ⟨o, a, fun R q => b R q⟩
theorem Det.tells' {W : (α → Prop) → Prop} (h : Det W) {P : α → Prop} (hp : ∀ R : α → Prop, (∀ z, P z → R z) → W R) : (∀ R, W R) ∨ ∃ z, P z ∧ ∀ R : α → Prop, R z → W R := by
  rcases h P (hp P fun _ q => q) with a | ⟨o, a, b⟩
  · exact .inl a
  · exact .inr ⟨o, a, fun R q => b R q⟩
end
end Wk
/-! Fx: walks over one's own list, over lists in a region; new lists of new lists; is True. -/
namespace Wk
open PySem L2
section
variable {α β : Type} {e : Rep α} {b : Rep β} {K : PySem.W.Frag} {σ : L2.St} {F0 H0 F F' F2 H H' H2 G : Hp} {p q : Addr} {v u : V} {x : α} {xs : List α} {D : Ends} {S : Type} {g : TG} {tb : TS} {s0 : S} {k : S → Prop} {te : TE} {Q : VK}
/-- over one's own list of numbers, that is not changed the while -/
theorem w_forX {zs : List Nat} {body : Nat → S → (S → Prop) → (S → Prop) → Prop} (Inv : S → L2.St → Hp → Hp → Prop) (r : XL pN H0 F H p zs) (hW : forW zs s0 body k) (h0 : Inv s0 σ F H)
    (ex : ∀ s σ' F' H', Inv s σ' F' H' → XL pN H0 F' H' p zs)
    (turn : ∀ (N Bk : L2.St → Hp → Prop) x u s σ' F' H' (nx bk : S → Prop), Inv s σ' F' H' → x ∈ zs → pN.r F' u x → body x s nx bk → (∀ s' σ2 F2 H2, Inv s' σ2 F2 H2 → nx s' → N σ2 H2) → (∀ s' σ2 F2 H2, Inv s' σ2 F2 H2 → bk s' → Bk σ2 H2) →
      g u σ' H' fun σ2 H2 => tb { D with nx := N, ct := N, bk := Bk } σ2 H2)
    (done : ∀ s σ' F' H', Inv s σ' F' H' → k s → D.nx σ' H') :
    ∃ a, V.ref p = .ref a ∧ (∃ xs, SqL K H a xs) ∧ (fun J H1 => ∃ W : Nat → Nat → L2.St → Hp → Prop, (∃ m, W 0 m σ H1) ∧ ∀ i m σ H, W i m σ H →
      (J.stop i H ∧ D.nx σ H) ∨ (J.go i H ∧ ∃ N : L2.St → Hp → Prop, (∀ σ' H', N σ' H' → ∃ m', m' < m ∧ W (i + 1) m' σ' H') ∧ ∀ x H', J.yld i H x H' → g x σ H' fun σ2 H2 => tb { D with nx := N, ct := N, bk := D.nx } σ2 H2)) (Itl K a) H := by
  obtain ⟨vs, a, al⟩ := r.x
  have av := al.nats
  subst av
  have ent : ∀ s σ' F' H', Inv s σ' F' H' → H' p = some (.lst ((zs.map Int.ofNat).map V.int)) := fun s σ' F' H' h => by
    obtain ⟨vs', a', al'⟩ := (ex s σ' F' H' h).x
    have := al'.nats
    subst this; exact a'.h
  refine ⟨p, rfl, ⟨_, SqL.of a.h⟩, for_list (xs := (zs.map Int.ofNat).map V.int) (fun i σ' H' => ∃ s F', Inv s σ' F' H' ∧ forW (zs.drop i) s body k) ⟨s0, F, h0, hW⟩ (fun i σ' H' _ ⟨s, F', hI, _⟩ => SqL.of (ent _ _ _ _ hI)) ?_ ?_⟩
  · rintro i u σ' H' hu ⟨s, F', hI, hw⟩
    obtain ⟨x, hx, rx⟩ := al.got hu
    have e : zs.drop i = x :: zs.drop (i + 1) := by
      obtain ⟨h1, h2⟩ := List.getElem?_eq_some_iff.mp hx
      rw [← h2]; exact List.drop_eq_getElem_cons h1
    rw [e] at hw
    exact turn _ _ x u s σ' F' H' _ _ hI (List.mem_of_getElem? hx) rx hw (fun s' σ2 F2 H2 q n => ⟨s', F2, q, n⟩) (fun s' σ2 F2 H2 q n => done s' σ2 F2 H2 q n)
  · rintro σ' H' ⟨s, F', hI, hw⟩
    rw [List.drop_of_length_le (by rw [al.len]; exact Nat.le_refl _)] at hw
    exact done _ _ _ _ hI hw
/-- one's own list of new things is changed no more, and is new -/
theorem XL.frzNN (x : XL (pNew H0 e) H0 F H p xs) (w : Wf F0 H0 F H) : ∃ F', Wf F0 H0 F' H ∧ Ex F F' ∧ Fre H0 (pL e) F' (.ref p) xs ∧ Fz F F' p := by
  obtain ⟨vs, a, al⟩ := x.x
  refine ⟨_, w.freeze a, Ex.new a.n, ⟨p, vs, rfl, nw_at a.z upd_same, ?_⟩, fun q h z => by rw [upd_ne h]; exact z⟩
  exact all_cv (e := pNew H0 e) (e' := e) (G := F) (F := nw H0 (upd F p (.lst vs))) (fun {v x} h => e.mono (nw_ex (Ex.new a.n)) h) al
/-- a comprehension over a list in a region -/
theorem w_compRG {zs : List β} {tc : TT} {vs : List Nat} {bd : β → (Option α → Prop) → Prop} {kk : List α → Prop} (gr : RG H0 F H G) (r : (pL b).r G v zs) (w : Wf F0 H0 F H) (hn : zs.length < 1000000) (hW : compW zs bd kk)
    (turn : ∀ (Qy : V → Hp → Prop) (Qn : Hp → Prop) x u F1 H1 (R : Option α → Prop), Wf F H F1 H1 → x ∈ zs → b.r G u x → bd x R → (∀ y z F2 H2, Wf F1 H1 F2 H2 → e.r F2 y z → R (some z) → Qy y H2) → (∀ F2 H2, Wf F1 H1 F2 H2 → R none → Qn H2) →
      g u (wipe σ vs) H1 fun σ2 H2 => wipe σ2 vs = wipe σ vs ∧ tc σ2 H2 fun b H3 => if b = true then te σ2 H3 Qy else Qn H3)
    (done : ∀ p ys F' H', H p = none → Wf F H F' H' → XL e H0 F' H' p ys → kk ys → Q (.ref p) H') :
    kCpL K g tc te vs σ Q v H := by
  obtain ⟨p, ws, rfl, hp, a⟩ := r
  exact w_compC (b := pAt G b) (gr.h _ _ hp) (all_cv (e := b) (e' := pAt G b) (fun h => h) a) w hn hW turn done
/-- over a list of lists in a region, each of which grows by one -/
theorem w_forAG {zs : List (List Nat)} (Inv : L2.St → Hp → Hp → Prop) (gr : RG H0 F H G) (r : (pL (pL pN)).r G v zs) (h0 : Inv σ F H)
    (turn : ∀ (N Bk : L2.St → Hp → Prop) x u i σ' F' H', Inv σ' F' H' → RD H0 F' H' G i → i < zs.length → x ∈ zs → (pL pN).r G u x →
      (∀ σ2 F2 H2, Inv σ2 F2 H2 → RD H0 F2 H2 G (i + 1) → (∀ q o, H' q = some o → (∀ p, u = .ref p → q ≠ p) → H2 q = some o) → N σ2 H2) →
      g u σ' H' fun σ2 H2 => tb { D with nx := N, ct := N, bk := Bk } σ2 H2)
    (done : ∀ σ' F' H', Inv σ' F' H' → RD H0 F' H' G zs.length → D.nx σ' H') :
    ∃ a, v = .ref a ∧ (∃ xs, SqL K H a xs) ∧ (fun J H1 => ∃ W : Nat → Nat → L2.St → Hp → Prop, (∃ m, W 0 m σ H1) ∧ ∀ i m σ H, W i m σ H →
      (J.stop i H ∧ D.nx σ H) ∨ (J.go i H ∧ ∃ N : L2.St → Hp → Prop, (∀ σ' H', N σ' H' → ∃ m', m' < m ∧ W (i + 1) m' σ' H') ∧ ∀ x H', J.yld i H x H' → g x σ H' fun σ2 H2 => tb { D with nx := N, ct := N, bk := D.nx } σ2 H2)) (Itl K a) H := by
  obtain ⟨p, vs, rfl, hp, al⟩ := r
  refine ⟨p, rfl, ⟨_, SqL.of (gr.h _ _ hp)⟩, for_list (xs := vs) (fun i σ' H' => ∃ F', Inv σ' F' H' ∧ RD H0 F' H' G i ∧ H' p = some (.lst vs)) ⟨F, h0, gr.rd, gr.h _ _ hp⟩ (fun i σ' H' _ ⟨F', _, _, h⟩ => SqL.of h) ?_ ?_⟩
  · rintro i u σ' H' hu ⟨F', hI, rd, hl⟩
    obtain ⟨x, hx, rx⟩ := al.got hu
    have hi : i < zs.length := (List.getElem?_eq_some_iff.mp hx).1
    refine turn _ _ x u i σ' F' H' hI rd hi (List.mem_of_getElem? hx) rx fun σ2 F2 H2 h1 h2 h3 => ⟨F2, h1, h2, h3 p _ hl fun p' e z => ?_⟩
    subst e z
    obtain ⟨p2, ws, e2, hp2, al2⟩ := rx
    cases e2
    rw [hp] at hp2
    cases hp2
    obtain ⟨n, _, rn⟩ := al2.got hu
    have rn' : (V.ref p : V) = .int (n : Int) := rn
    cases rn'
  · rintro σ' H' ⟨F', hI, rd, hl⟩
    rw [al.len] at rd
    exact done _ _ _ hI rd
theorem v_notB {ta tb : TE} {x y : Bool} (ha : Val ta σ H (.bl x)) (hb : Val tb σ H (.bl y)) : Val (tOp rNotB ta tb) σ H (.bl (!decide (x = y))) := v2 ha hb fun Q k => ⟨x, y, rfl, rfl, k⟩
theorem v_isB {ta tb : TE} {x y : Bool} (ha : Val ta σ H (.bl x)) (hb : Val tb σ H (.bl y)) : Val (tOp rIsB ta tb) σ H (.bl (decide (x = y))) := v2 ha hb fun Q k => ⟨x, y, rfl, rfl, k⟩
theorem v_notB' {ta tb : TE} {x y : Bool} (ha : Val ta σ H (.bl x)) (hb : Val tb σ H (.bl y)) : Val (tOp rNotB ta tb) σ H (.bl (decide (¬ x = y))) := by
  have := v_notB ha hb
  rwa [← decide_not] at this
end
end Wk
/-! Wi: a class over others: Base.__init__(self, x), methods of an object whose class is one of some; tuples of four. -/
namespace Wk
open PySem L2 ClX
/-- a def of a class, called as C.m(x, ..) -/
structure Cf (P : Program) (w : World) (K : PySem.W.Frag) (mg : Str → Option Value) (base : Heap) (CX : CXT) (k : Nat) (C : Addr) (m : Str) (ps : List Str) (sp : Sp) : Prop where
  ex : ∃ f fd, FnOk P w K mg base CX k f fd ps sp ∧ (CVal K C (.type "type") m (.ref f) (.ref f) ∧ PySem.W.keepIn K (.ref f) = true) ∧ Binds K fd ps []
def tCf (C : Addr) (sp : Sp) (E : XK) (ta : TE) (t : TA) : TE := fun σ H Q => ta σ H fun x H1 => x = .ref C ∧ t σ H1 fun vs H2 => sp vs H2 Q E
/-- an object of one of some classes -/
def IsC (H : Hp) (x : V) (C : Addr) : Prop := ∃ a dx fs, x = .ref a ∧ H a = some (.ins C dx fs)
def tMethU (L : List (Addr × Sp)) (m : Str) (E : XK) (ta : TE) (t : TA) : TE := fun σ H Q => ta σ H fun x H1 => (∃ C, C ∈ L.map (·.1) ∧ ∃ a dx fs, x = .ref a ∧ H1 a = some (.ins C dx fs) ∧ fs.lookup m = none) ∧ t σ H1 fun vs H2 => ∀ C, IsC H1 x C → ∃ sp, (C, sp) ∈ L ∧ sp (x :: vs) H2 Q E
section
variable {X : Cx} {k : Nat} {C : Addr} {x m : Str} {ps : List Str} {sp : Sp} {o e : Expr} {es : List Expr} {p pos apos : Pos} {ta : TE} {t : TA} {pl : Sem Bool} {L : List (Addr × Sp)}
theorem pe_cf (M : Cf X.prog X.w X.K X.mg X.base CX0 k C m ps sp) (r : CRead X.K C (.type "type")) (hr : Room k X.A) (he : PE X o ta) (ha : PA X (e :: es) t)
    (hst : starEach (e :: es) X.env = (false, eval e X.env) :: starEach es X.env := by rfl) (hpl : (backTo pos (starEach es X.env)).any (·.1) = false := by rfl)
    (ht : eval (.Call (.Attribute o m apos) (e :: es) [] pos) X.env = (do
      let ov ← eval o X.env
      standAt apos.atName
      let (f, first) ← holding [ov] (getMethod ov m pl)
      callWith pos f first (backTo pos (starEach (e :: es) X.env)) (backToKw pos (keywordEach [] X.env))) := by rfl) :
    PE X (.Call (.Attribute o m apos) (e :: es) [] pos) (tCf C sp E0 ta t) := by
  obtain ⟨f, fd, F, ⟨cv, kp⟩, hb⟩ := M.ex
  refine ⟨fun pins s σ H Q I h => ?_⟩
  refine PySem.W.methodCall_KW (pl := pl) (thn (he.run pins s σ H _ I h) fun u s1 ⟨x, H1, I1, rx, ex, q⟩ => ?_) ht
  subst ex
  obtain rfl : u = Value.ref C := rx
  refine PySem.W.method_cls I1.kIn r.ga (getcval_ok I1 r cv fun s2 I2 => ?_)
  refine PySem.W.callWith_K (first := []) (h₀ := X.base) I.ok.mod.kin kp (thn (ha.run pos pins s2 σ H1 _ I2 q) fun us s3 ⟨vs, H2, I3, r3, q2⟩ => ⟨I3.kIn, ?_⟩) hst hpl
  exact run_fn (us := us) (vs := vs) F hr hb .nil pass0 I3 r3 (by rw [List.append_nil]; exact q2)
theorem pe_mdU (M : ∀ q ∈ L, Md X.prog X.w X.K X.mg X.base CX0 k q.1 m ps q.2 ∧ Cls X.K q.1) (hr : Room k X.A) (he : PE X o ta) (ha : PA X (e :: es) t)
    (hst : starEach (e :: es) X.env = (false, eval e X.env) :: starEach es X.env := by rfl) (hpl : (backTo pos (starEach es X.env)).any (·.1) = false := by rfl)
    (ht : eval (.Call (.Attribute o m apos) (e :: es) [] pos) X.env = (do
      let ov ← eval o X.env
      standAt apos.atName
      let (f, first) ← holding [ov] (getMethod ov m pl)
      callWith pos f first (backTo pos (starEach (e :: es) X.env)) (backToKw pos (keywordEach [] X.env))) := by rfl) :
    PE X (.Call (.Attribute o m apos) (e :: es) [] pos) (tMethU L m E0 ta t) := by
  refine ⟨fun pins s σ H Q I h => ?_⟩
  refine PySem.W.methodCall_KW (pl := pl) (thn (he.run pins s σ H _ I h) fun u s1 ⟨x, H1, I1, rx, ⟨C, hC, a, dx, fs, ex, ea, l⟩, q⟩ => ?_) ht
  subst ex
  obtain rfl : u = Value.ref a := rx
  obtain ⟨q0, hq0, e0⟩ := List.mem_map.mp hC
  obtain ⟨M0, c⟩ := M q0 hq0
  obtain ⟨f, fd, F, hm, hb⟩ := M0.ex
  rw [e0] at c hm
  refine getmeth_ok I1 ea c hm l ?_
  have hfun : ∀ (us : List Value) (vs : List V) (H2 : Hp) (s2 : Shared), Inv X pins σ H2 s2 → Vals vs us → (∀ C', IsC H1 (.ref a) C' → ∃ sp, (C', sp) ∈ L ∧ sp (.ref a :: vs) H2 Q E0) → wpAny (model X.prog X.w) X.A (call (.ref f) (.ref a :: us)) (EP X pins σ Q) X.xe s2 := by
    intro us vs H2 s2 I2 r q2
    obtain ⟨sp, hsp, q3⟩ := q2 C ⟨a, dx, fs, rfl, ea⟩
    obtain ⟨M1, _⟩ := M _ hsp
    obtain ⟨f1, fd1, F1, hm1, hb1⟩ := M1.ex
    have ef : f1 = f := by
      have := hm1.at_.symm.trans hm.at_
      cases this; rfl
    subst ef
    exact run_fn (us := .ref a :: us) (vs := .ref a :: vs) F1 hr hb1 .nil pass0 I2 (.cons rfl r) (by rw [List.append_nil]; exact q3)
  exact PySem.W.callWith_K (first := [.ref a]) (h₀ := X.base) I.ok.mod.kin hm.kp (thn (ha.run pos pins s1 σ H1 _ I1 q) fun us s2 ⟨vs, H2, I2, r, q2⟩ => ⟨I2.kIn, hfun us vs H2 s2 I2 r q2⟩) hst hpl
theorem pe_mdU0 (M : ∀ q ∈ L, Md X.prog X.w X.K X.mg X.base CX0 k q.1 m ps q.2 ∧ Cls X.K q.1) (hr : Room k X.A) (he : PE X o ta)
    (ht : eval (.Call (.Attribute o m apos) [] [] pos) X.env = (do
      let ov ← eval o X.env
      standAt apos.atName
      let (f, first) ← holding [ov] (getMethod ov m pl)
      callWith pos f first (backTo pos (starEach [] X.env)) (backToKw pos (keywordEach [] X.env))) := by rfl) :
    PE X (.Call (.Attribute o m apos) [] [] pos) (tMethU L m E0 ta tNil) := by
  refine ⟨fun pins s σ H Q I h => ?_⟩
  refine PySem.W.methodCall_KW (pl := pl) (thn (he.run pins s σ H _ I h) fun u s1 ⟨x, H1, I1, rx, ⟨C, hC, a, dx, fs, ex, ea, l⟩, q⟩ => ?_) ht
  subst ex
  obtain rfl : u = Value.ref a := rx
  obtain ⟨sp, hsp, q3⟩ := q C ⟨a, dx, fs, rfl, ea⟩
  obtain ⟨M1, c⟩ := M _ hsp
  obtain ⟨f, fd, F, hm, hb⟩ := M1.ex
  refine getmeth_ok I1 ea c hm l ?_
  exact PySem.W.callWith_K0 (first := [.ref a]) I1.kIn hm.kp (run_fn (us := [.ref a]) (vs := [.ref a]) F hr hb .nil pass0 I1 (.cons rfl .nil) q3)
end
section
variable {σ : L2.St} {H : Hp} {C : Addr} {m : Str} {sp : Sp} {E : XK} {ta : TE} {t : TA} {Q : VK} {L : List (Addr × Sp)}
theorem e_cf (h : ta σ H fun x H1 => x = .ref C ∧ t σ H1 fun vs H2 => sp vs H2 Q E) : tCf C sp E ta t σ H Q := h
theorem e_mdU (h : ta σ H fun x H1 => (∃ C, C ∈ L.map (·.1) ∧ ∃ a dx fs, x = .ref a ∧ H1 a = some (.ins C dx fs) ∧ fs.lookup m = none) ∧ t σ H1 fun vs H2 => ∀ C, IsC H1 x C → ∃ sp, (C, sp) ∈ L ∧ sp (x :: vs) H2 Q E) : tMethU L m E ta t σ H Q := h
end
/-! wires -/
abbrev WireV := Sum (Str × Nat) (Sum (Str × List Str) (Str × Str × Nat))
def pW (I S T : Addr) : Rep WireV := pAlt (pO2 I "name" "number" pS pN) (pAlt (pO2 S "name" "wires" pS (pTL pS)) (pO3 T "name" "wire" "number" pS pS pN))
def wName : WireV → Str
  | .inl x => x.1
  | .inr (.inl x) => x.1
  | .inr (.inr x) => x.1
def wTag : WireV → Nat
  | .inl _ => 0
  | .inr (.inl _) => 1
  | .inr (.inr _) => 2
def wNum : WireV → Option Nat
  | .inl x => some x.2
  | .inr (.inl _) => none
  | .inr (.inr x) => some x.2.2
def wWires : WireV → Option (List Str)
  | .inr (.inl x) => some x.2
  | _ => none
def wWire : WireV → Option Str
  | .inr (.inr x) => some x.2.1
  | _ => none
section
variable {I S T : Addr}
/-- the class of a wire -/
def wCls (I S T : Addr) : WireV → Addr
  | .inl _ => I
  | .inr (.inl _) => S
  | .inr (.inr _) => T
theorem wCls_mem (x : WireV) : wCls I S T x ∈ [I, S, T] := match x with
  | .inl _ => List.mem_cons_self ..
  | .inr (.inl _) => List.mem_cons_of_mem _ (List.mem_cons_self ..)
  | .inr (.inr _) => List.mem_cons_of_mem _ (List.mem_cons_of_mem _ (List.mem_cons_self ..))
end
/-- all that is asked of the classes -/
structure TW (K : PySem.W.Frag) (mg : Str → Option Value) (I S T B : Addr) : Prop where
  ci : Cls K I
  cs : Cls K S
  ct : Cls K T
  ni : NoAttr K I "name"
  ns : NoAttr K S "name"
  nt : NoAttr K T "name"
  mi : NoAttr K I "number"
  mt : NoAttr K T "number"
  ws : NoAttr K S "wires"
  wt : NoAttr K T "wire"
  ii : ClsI K mg "InWire" I
  is : ClsI K mg "SumWire" S
  it : ClsI K mg "StoreWire" T
  kI : ∀ x : WireV, PySem.W.kitOne K (.ref (wCls I S T x)) (.ref I) = some (decide (wTag x = 0))
  kS : ∀ x : WireV, PySem.W.kitOne K (.ref (wCls I S T x)) (.ref S) = some (decide (wTag x = 1))
  kT : ∀ x : WireV, PySem.W.kitOne K (.ref (wCls I S T x)) (.ref T) = some (decide (wTag x = 2))
  kB : ∀ x : WireV, PySem.W.kitOne K (.ref (wCls I S T x)) (.ref B) = some true
section
variable {K : PySem.W.Frag} {mg : Str → Option Value} {σ : L2.St} {F0 H0 F H : Hp} {v : V} {x : WireV} {I S T B : Addr} {Q : VK} {ta : TE}
theorem fl_Wname (tw : TW K mg I S T B) (r : (pW I S T).r F v x) (h : Ex F H) : ∀ ⦃σ ta⦄, Val ta σ H v → Val (tFld K ta "name") σ H (.str (wName x)) := by
  match x, r with
  | .inl y, r => obtain ⟨w, e, k⟩ := fl_21 (K := K) tw.ci tw.ni r h; cases (show w = .str _ from e); exact k
  | .inr (.inl y), r => obtain ⟨w, e, k⟩ := fl_21 (K := K) tw.cs tw.ns r h; cases (show w = .str _ from e); exact k
  | .inr (.inr y), r => obtain ⟨w, e, k⟩ := fl_31 (K := K) tw.ct tw.nt r h; cases (show w = .str _ from e); exact k
theorem fl_Wnum {n : Nat} (tw : TW K mg I S T B) (r : (pW I S T).r F v x) (h : Ex F H) (hn : wNum x = some n) : ∀ ⦃σ ta⦄, Val ta σ H v → Val (tFld K ta "number") σ H (.int (n : Int)) := by
  match x, r with
  | .inl y, r => obtain ⟨w, e, k⟩ := fl_22 (K := K) tw.ci tw.mi r h; cases (show w = .int _ from e); cases hn; exact k
  | .inr (.inl y), r => cases hn
  | .inr (.inr y), r => obtain ⟨w, e, k⟩ := fl_33 (K := K) tw.ct tw.mt r h; cases (show w = .int _ from e); cases hn; exact k
theorem fl_Wwires {ws : List Str} (tw : TW K mg I S T B) (r : (pW I S T).r F v x) (h : Ex F H) (hn : wWires x = some ws) : ∃ w, (pTL pS).r F w ws ∧ ∀ ⦃σ ta⦄, Val ta σ H v → Val (tFld K ta "wires") σ H w := by
  match x, r with
  | .inl y, r => cases hn
  | .inr (.inl y), r => obtain ⟨w, e, k⟩ := fl_22 (K := K) tw.cs tw.ws r h; cases hn; exact ⟨w, e, k⟩
  | .inr (.inr y), r => cases hn
theorem fl_Wwire {n : Str} (tw : TW K mg I S T B) (r : (pW I S T).r F v x) (h : Ex F H) (hn : wWire x = some n) : ∀ ⦃σ ta⦄, Val ta σ H v → Val (tFld K ta "wire") σ H (.str n) := by
  match x, r with
  | .inl y, r => cases hn
  | .inr (.inl y), r => cases hn
  | .inr (.inr y), r => obtain ⟨w, e, k⟩ := fl_32 (K := K) tw.ct tw.wt r h; cases (show w = .str _ from e); cases hn; exact k
theorem W_at {m : Str} (r : (pW I S T).r F v x) (h : Ex F H) (h1 : (m == ("name" : Str)) = false := by decide +kernel) (h2 : (m == ("number" : Str)) = false := by decide +kernel) (h3 : (m == ("wires" : Str)) = false := by decide +kernel) (h4 : (m == ("wire" : Str)) = false := by decide +kernel) :
    ∃ p dx fs, v = .ref p ∧ H p = some (.ins (wCls I S T x) dx fs) ∧ fs.lookup m = none := by
  match x, r with
  | .inl y, r => exact me_2 r h h1 h2
  | .inr (.inl y), r => exact me_2 r h h1 h3
  | .inr (.inr y), r => exact me_3 r h h1 h4 h2
theorem IsC.eq (r : (pW I S T).r F v x) (h : Ex F H) {C : Addr} (c : IsC H v C) : C = wCls I S T x := by
  obtain ⟨p, dx, fs, e, hp, _⟩ := W_at (m := "zz") r h
  obtain ⟨a, dx', fs', e', ha⟩ := c
  rw [e] at e'
  cases e'
  rw [hp] at ha
  cases ha; rfl
theorem ty_W (tw : TW K mg I S T B) (r : (pW I S T).r F v x) (h : Ex F H) : TyX K H v (.ref (wCls I S T x)) := by
  obtain ⟨p, dx, fs, e, hp, _⟩ := W_at (m := "zz") r h
  subst e
  match x, hp with
  | .inl y, hp => exact .base (.ins hp tw.ci tw.ii.ha tw.ii.hn tw.ii.ht tw.ii.hm)
  | .inr (.inl y), hp => exact .base (.ins hp tw.cs tw.is.ha tw.is.hn tw.is.ht tw.is.hm)
  | .inr (.inr y), hp => exact .base (.ins hp tw.ct tw.it.ha tw.it.hn tw.it.ht tw.it.hm)
theorem v_isD {C D : Addr} {b : Bool} (ha : Val ta σ H v) (t : TyX K H v (.ref C)) (hk : PySem.W.kitOne K (.ref C) (.ref D) = some b) : Val (tCB (rIsi K) (tCons ta (tCons (tC (.ref D)) tNil))) σ H (.bl b) := fun Q k => ha _ ⟨v, .ref D, .ref C, .ref D, b, rfl, .own D, t, hk, k⟩
end
theorem Md.mono {P : Program} {w : World} {K : PySem.W.Frag} {mg : Str → Option Value} {base : Heap} {CX : CXT} {j k : Nat} {C : Addr} {m : Str} {ps : List Str} {sp : Sp} (M : Md P w K mg base CX j C m ps sp) (h : j ≤ k) : Md P w K mg base CX k C m ps sp := let ⟨f, fd, F, a, b⟩ := M.ex; ⟨f, fd, F.mono h, a, b⟩
def MdU (P : Program) (w : World) (K : PySem.W.Frag) (mg : Str → Option Value) (base : Heap) (CX : CXT) (k : Nat) (L : List (Addr × Sp)) (m : Str) (ps : List Str) : Prop := ∀ q ∈ L, Md P w K mg base CX k q.1 m ps q.2 ∧ Cls K q.1
theorem MdU.three {P : Program} {w : World} {K : PySem.W.Frag} {mg : Str → Option Value} {base : Heap} {CX : CXT} {k : Nat} {m : Str} {ps : List Str} {A B C : Addr} {s1 s2 s3 : Sp} (h1 : Md P w K mg base CX k A m ps s1) (c1 : Cls K A) (h2 : Md P w K mg base CX k B m ps s2) (c2 : Cls K B) (h3 : Md P w K mg base CX k C m ps s3) (c3 : Cls K C) : MdU P w K mg base CX k [(A, s1), (B, s2), (C, s3)] m ps := fun q hq => by
  rcases List.mem_cons.mp hq with e | hq
  · subst e; exact ⟨h1, c1⟩
  · rcases List.mem_cons.mp hq with e | hq
    · subst e; exact ⟨h2, c2⟩
    · rw [List.mem_singleton.mp hq]; exact ⟨h3, c3⟩
/-- Base.__init__: one field -/
def sp_base1 (K : PySem.W.Frag) (a : Str) : Sp := fun vs H Q _ => ∃ (C dx ob : Addr) (v : V), vs = [.ref ob, v] ∧ Cls K C ∧ NoAttr K C a ∧ H ob = some (.ins C dx []) ∧ Q .non (upd H ob (.ins C dx [(a, v)]))
section
variable {K : PySem.W.Frag} {H0 F0 F H : Hp} {p : Addr} {v : V} {Q : VK} {E : XK}
/-- .. of one's own object -/
theorem n_base1 {C dx : Addr} {a : Str} (cl : Cls K C) (na : NoAttr K C a) (x : Xc H0 F H p (.ins C dx [])) (w : Wf F0 H0 F H) (k : ∀ H', Wf F0 H0 F H' → Xc H0 F H' p (.ins C dx [(a, v)]) → (∀ q o, H q = some o → q ≠ p → H' q = some o) → Q .non H') : sp_base1 K a [.ref p, v] H Q E :=
  ⟨C, dx, p, v, rfl, cl, na, x.h, k _ (w.set x) x.set fun q o h hq => by rw [upd_ne hq]; exact h⟩
end
/-! tuples of four -/
def pT4 {α β γ δ : Type} (e : Rep α) (f : Rep β) (g : Rep γ) (h : Rep δ) : Rep (α × β × γ × δ) := ⟨fun F v x => ∃ p u w y z, v = .ref p ∧ F p = some (.tup [u, w, y, z]) ∧ e.r F u x.1 ∧ f.r F w x.2.1 ∧ g.r F y x.2.2.1 ∧ h.r F z x.2.2.2, fun ex ⟨p, u, w, y, z, a, b, c, d, k, l⟩ => ⟨p, u, w, y, z, a, ex _ _ b, e.mono ex c, f.mono ex d, g.mono ex k, h.mono ex l⟩⟩
section
variable {α β γ δ : Type} {e : Rep α} {f : Rep β} {g : Rep γ} {i : Rep δ} {K : PySem.W.Frag} {σ : L2.St} {F0 H0 F H : Hp} {v u w y : V} {x : α} {x2 : β} {x3 : γ} {x4 : δ} {Q : VK} {z : α × β × γ × δ}
theorem n_tup4 (a : e.r F v x) (b : f.r F w x2) (c : g.r F u x3) (d : i.r F y x4) (h : Wf F0 H0 F H) (k : ∀ p F' H', Wf F H F' H' → (pT4 e f g i).r F' (.ref p) (x, x2, x3, x4) → Q (.ref p) H') : kTup Q [v, w, u, y] H :=
  ⟨Nat.le_of_lt (small_len (n := 4) (by decide)), fun p hp => k p _ _ (Wf.new h.f hp) ⟨p, v, w, u, y, rfl, upd_same, e.mono (Ex.new (h.f.non hp)) a, f.mono (Ex.new (h.f.non hp)) b, g.mono (Ex.new (h.f.non hp)) c, i.mono (Ex.new (h.f.non hp)) d⟩⟩
end
end Wk
namespace Wk
open PySem L2
section
variable {α : Type} {e : Rep α} {K : PySem.W.Frag} {σ : L2.St} {F0 H0 F H F' H' : Hp} {v : V} {xs : List α} {p q : Addr} {Q : VK} {ta : TE}
/-! texts: split, str(n) -/
def rSplit : V → List V → Hp → VK → Prop := fun x xs H Q => ∃ a b, x = .str a ∧ xs = [.str b] ∧ (b.length == 0) = false ∧ a.length + 2 ≤ sizeLine ∧ rNewStrs (Txt.split a b) H Q
theorem all_strs : ∀ {ys : List Str}, All pS F (ys.map V.str) ys
  | [] => trivial
  | _ :: _ => ⟨rfl, all_strs⟩
theorem n_split {a b : Str} (hb : (b.length == 0) = false) (hl : a.length + 2 < 1000000) (w : Wf F0 H0 F H) (k : ∀ p H', H p = none → Wf F H F H' → XL pS H0 F H' p (Txt.split a b) → Q (.ref p) H') : rSplit (.str a) [.str b] H Q :=
  ⟨a, b, rfl, rfl, hb, Nat.le_of_lt (small_len hl), fun p hp => k p _ hp (Wf.newX w.f hp) ⟨_, Xc.mk' w hp, all_strs⟩⟩
def rStrI : List V → Hp → VK → Prop := fun xs H Q => ∃ i, xs = [.int i] ∧ i.natAbs.log2 < 1920 ∧ Q (.str (toString i)) H
def strN (n : Nat) : Str := toString ((n : Nat) : Int)
theorem vn_str {n : Nat} (hn : n.log2 < 1920) (ha : Val ta σ H (.int (n : Int))) : Val (tCB rStrI (tCons ta tNil)) σ H (.str (strN n)) := v_cb1 ha fun Q k => ⟨n, rfl, by rw [Int.natAbs_natCast]; exact hn, k⟩
/-! borrowed lists -/
theorem L_bw (r : (pL e).r F v xs) (f : Ex F H) : ∃ p, v = .ref p ∧ BL e F H p xs := let ⟨p, vs, a, b, c⟩ := r; ⟨p, a, vs, f _ _ b, c⟩
theorem n_tupB (r : BL e F H p xs) (w : Wf F0 H0 F H) (k : ∀ p F' H', Wf F H F' H' → (pTL e).r F' (.ref p) xs → Q (.ref p) H') : rTupOf K [.ref p] H Q := by
  obtain ⟨vs, hp, a⟩ := r.x
  exact ⟨p, vs, rfl, .inl ⟨SqL.of hp, fun l hl => k l _ _ (Wf.new w.f hl) ⟨l, vs, rfl, upd_same, a.mono (Ex.new (w.f.non hl))⟩⟩⟩
theorem BL.made (b : BL e F H p xs) {x dx : Addr} {o o' : HO} (nx : H x = none) (nd : H dx = none) : BL e F (upd (upd H dx o) x o') p xs := by
  obtain ⟨vs, hp, a⟩ := b.x
  exact ⟨vs, by rw [upd_ne (ne_of_none hp nx), upd_ne (ne_of_none hp nd)]; exact hp, a⟩
theorem BL.neI (b : BL e F H p xs) {C dx : Addr} {fs : List (Str × V)} (h : H q = some (.ins C dx fs)) : p ≠ q := fun z => by
  obtain ⟨vs, hp, _⟩ := b.x
  rw [z, h] at hp; cases hp
end
end Wk
/-! Nt: methods that change fields of their own object; walks over d.values(); objects with four fields. -/
namespace Wk
open PySem L2
/-- the heap without some places -/
def woL (H : Hp) (L : List Addr) : Hp := fun a => if a ∈ L then none else H a
section
variable {α β κ : Type} [KeyT κ] {e : Rep α} {F0 H0 F F' H H' : Hp} {L : List Addr} {p d : Addr} {o : HO} {xs : List α} {m : List (κ × α)} {C dx : Addr} {fs : List (Str × V)}
theorem woL_in (h : d ∈ L) : woL H L d = none := if_pos h
theorem woL_out (h : d ∉ L) : woL H L d = H d := if_neg h
theorem woL_sub : Ex (woL H L) H := fun a u q => by
  by_cases c : a ∈ L
  · rw [woL_in c] at q; cases q
  · rw [woL_out c] at q; exact q
theorem Wf.startL (f : Ex F H) (n : ∀ d ∈ L, F d = none) : Wf F (woL H L) F H := ⟨woL_sub, f, Ex.rfl', fun a u h h0 => by rw [h] at h0; cases h0⟩
theorem Xc.toL (x : Xc H0 F H p o) (hp : p ∈ L) : Xc (woL H L) F H p o := ⟨woL_in hp, x.n, x.h⟩
theorem XL.toL (x : XL e H0 F H p xs) (hp : p ∈ L) : XL e (woL H L) F H p xs := let ⟨vs, a, b⟩ := x.x; ⟨vs, a.toL hp, b⟩
theorem XD.toL (x : XD e H0 F H p m) (hp : p ∈ L) : XD e (woL H L) F H p m := let ⟨vs, a, b⟩ := x.x; ⟨vs, a.toL hp, b⟩
theorem Xc.fromL {H1 : Hp} (x : Xc H1 F' H' p o) (z : H0 p = none) : Xc H0 F' H' p o := ⟨z, x.n, x.h⟩
theorem XL.fromL {H1 : Hp} (x : XL e H1 F' H' p xs) (z : H0 p = none) : XL e H0 F' H' p xs := let ⟨vs, a, b⟩ := x.x; ⟨vs, a.fromL z, b⟩
theorem XD.fromL {H1 : Hp} (x : XD e H1 F' H' p m) (z : H0 p = none) : XD e H0 F' H' p m := let ⟨vs, a, b⟩ := x.x; ⟨vs, a.fromL z, b⟩
theorem XL.nF (x : XL e H0 F H p xs) : F p = none := let ⟨_, a, _⟩ := x.x; a.n
theorem XD.nF (x : XD e H0 F H p m) : F p = none := let ⟨_, a, _⟩ := x.x; a.n
/-- behind a method that has changed what stands at L -/
theorem Wf.mcall (w : Wf F0 H0 F H) (hz : ∀ d ∈ L, H0 d = none) (s : Wf F (woL H L) F' H') (hn : ∀ d ∈ L, F' d = none) : Wf F0 H0 F' H' := by
  refine ⟨fun a u h => ?_, s.f, w.g.tr s.g, fun a u h h0 => ?_⟩
  · have hL : a ∉ L := fun q => by rw [hz a q] at h; cases h
    exact s.h a u (by rw [woL_out hL]; exact w.h a u h)
  · cases q : F a with
    | some y => exact w.n a y q h0
    | none =>
      have hL : a ∉ L := fun z => by rw [hn a z] at h; cases h
      have := s.n a u h q
      rw [woL_out hL] at this
      exact w.h.non this
theorem away_h (hp : p ∉ L) (s : Wf F (woL H L) F' H') (h : H p = some o) : H' p = some o := s.h p o (by rw [woL_out hp]; exact h)
theorem Xc.away (x : Xc H0 F H p o) (hp : p ∉ L) (s : Wf F (woL H L) F' H') : Xc H0 F' H' p o := by
  refine ⟨x.z, ?_, away_h hp s x.h⟩
  cases q : F' p with
  | none => rfl
  | some y =>
    have := s.n p y q x.n
    rw [woL_out hp, x.h] at this; cases this
theorem XL.away (x : XL e H0 F H p xs) (hp : p ∉ L) (s : Wf F (woL H L) F' H') : XL e H0 F' H' p xs := let ⟨vs, a, b⟩ := x.x; ⟨vs, a.away hp s, b.mono s.g⟩
theorem XD.away (x : XD e H0 F H p m) (hp : p ∉ L) (s : Wf F (woL H L) F' H') : XD e H0 F' H' p m := let ⟨vs, a, b⟩ := x.x; ⟨vs, a.away hp s, b.mono s.g⟩
theorem BL.away (x : BL e F H p xs) (hp : p ∉ L) (s : Wf F (woL H L) F' H') : BL e F' H' p xs := let ⟨vs, a, b⟩ := x.x; ⟨vs, away_h hp s a, b.mono s.g⟩
theorem BD.away (x : BD e F H p m) (hp : p ∉ L) (s : Wf F (woL H L) F' H') : BD e F' H' p m := let ⟨vs, a, b⟩ := x.x; ⟨vs, away_h hp s a, b.mono s.g⟩
theorem BO.away (x : BO C F H p dx fs) (hp : p ∉ L) (s : Wf F (woL H L) F' H') : BO C F' H' p dx fs := ⟨away_h hp s x.h⟩
theorem nin1 (h : p ≠ d) : p ∉ [d] := fun q => h (List.mem_singleton.mp q)
theorem nin2 {d2 : Addr} (h : p ≠ d) (h2 : p ≠ d2) : p ∉ [d, d2] := fun q => (List.mem_cons.mp q).elim h fun z => h2 (List.mem_singleton.mp z)
theorem allL1 {P : Addr → Prop} (h : P d) : ∀ x ∈ [d], P x := fun x hx => by rw [List.mem_singleton.mp hx]; exact h
theorem allL2 {P : Addr → Prop} {d2 : Addr} (h : P d) (h2 : P d2) : ∀ x ∈ [d, d2], P x := fun x hx => (List.mem_cons.mp hx).elim (fun z => by rw [z]; exact h) fun z => by rw [List.mem_singleton.mp z]; exact h2
theorem BD.neO (b : BD e F H p m) {q C dx : Addr} {fs : List (Str × V)} (h : H q = some (.ins C dx fs)) : p ≠ q := fun z => by
  obtain ⟨vs, hp, _⟩ := b.x
  rw [z, h] at hp; cases hp
theorem ne_symm {a b : Addr} (h : a ≠ b) : b ≠ a := fun z => h z.symm
end
/-! d.values() -/
section
variable {α β κ : Type} [DecidableEq κ] [KeyT κ] {e : Rep α} {b : Rep β} {K : PySem.W.Frag} {σ : L2.St} {F0 H0 F H : Hp} {d ob C dx : Addr} {fs : List (Str × V)} {m : List (κ × β)} {Q : VK} {g : TG} {te to : TE} {tc : TT} {vs : List Nat}
theorem DA.got : ∀ {kvs : List (Key × V)} {m : List (κ × β)} {i : Nat} {k : Key} {v : V}, DA b F kvs m → kvs[i]? = some (k, v) → ∃ q, m[i]? = some q ∧ b.r F v q.2
  | [], [], _, _, _, _, h => by simp at h
  | p :: r, q :: s, 0, k, v, ⟨_, c, _⟩, h => by
    simp at h
    subst h
    exact ⟨q, rfl, c⟩
  | p :: r, q :: s, i + 1, k, v, ⟨_, _, c⟩, h => by
    obtain ⟨z, h1, h2⟩ := DA.got (i := i) c (by simpa using h)
    exact ⟨z, by simpa using h1, h2⟩
  | [], _ :: _, _, _, _, q, _ => q.elim
  | _ :: _, [], _, _, _, q, _ => q.elim
theorem DA.cv {F' : Hp} (h : ∀ {v x}, b.r F v x → b.r F' v x) : ∀ {kvs : List (Key × V)} {m : List (κ × β)}, DA b F kvs m → DA b F' kvs m
  | [], [], _ => trivial
  | _ :: _, _ :: _, ⟨a, x, c⟩ => ⟨a, h x, DA.cv h c⟩
  | [], _ :: _, q => q.elim
  | _ :: _, [], q => q.elim
/-- things that hold nothing but objects and tuples -/
def NoD {α : Type} (e : Rep α) : Prop := ∀ (F G : Hp) (d : Addr) (v : V) (x : α), (∀ a o, a ≠ d → F a = some o → G a = some o) → (∀ C dx fs, F d ≠ some (.ins C dx fs)) → (∀ us, F d ≠ some (.tup us)) → e.r F v x → e.r G v x
theorem NoD.S : NoD pS := fun _ _ _ _ _ _ _ _ h => h
theorem NoD.N : NoD pN := fun _ _ _ _ _ _ _ _ h => h
theorem NoD.all (n : NoD e) {F G : Hp} {d : Addr} (h : ∀ a o, a ≠ d → F a = some o → G a = some o) (h1 : ∀ C dx fs, F d ≠ some (.ins C dx fs)) (h2 : ∀ us, F d ≠ some (.tup us)) : ∀ {us : List V} {xs : List α}, All e F us xs → All e G us xs
  | [], [], _ => trivial
  | _ :: _, _ :: _, ⟨a, c⟩ => ⟨n F G d _ _ h h1 h2 a, NoD.all n h h1 h2 c⟩
  | [], _ :: _, q => q.elim
  | _ :: _, [], q => q.elim
theorem NoD.TL (n : NoD e) : NoD (pTL e) := fun F G d v x h h1 h2 ⟨p, us, a, b, c⟩ => ⟨p, us, a, h p _ (fun z => h2 us (by rw [← z]; exact b)) b, n.all h h1 h2 c⟩
theorem NoD.O2 {γ : Type} {f : Rep γ} {C : Addr} {a c : Str} (n : NoD e) (k : NoD f) : NoD (pO2 C a c e f) := fun F G d v x h h1 h2 ⟨p, dx, fs, a, b, u, w, q, r1, r2⟩ => ⟨p, dx, fs, a, h p _ (fun z => h1 C dx fs (by rw [← z]; exact b)) b, u, w, q, n F G d _ _ h h1 h2 r1, k F G d _ _ h h1 h2 r2⟩
theorem NoD.O3 {γ δ : Type} {f : Rep γ} {i : Rep δ} {C : Addr} {a c l : Str} (n : NoD e) (k : NoD f) (j : NoD i) : NoD (pO3 C a c l e f i) := fun F G d v x h h1 h2 ⟨p, dx, fs, a, b, u, w, y, q, r1, r2, r3⟩ => ⟨p, dx, fs, a, h p _ (fun z => h1 C dx fs (by rw [← z]; exact b)) b, u, w, y, q, n F G d _ _ h h1 h2 r1, k F G d _ _ h h1 h2 r2, j F G d _ _ h h1 h2 r3⟩
theorem NoD.W {I S T : Addr} : NoD (pW I S T) := fun F G d v x h h1 h2 r => match x, r with
  | .inl _, r => NoD.O2 NoD.S NoD.N F G d v _ h h1 h2 r
  | .inr (.inl _), r => NoD.O2 NoD.S (NoD.TL NoD.S) F G d v _ h h1 h2 r
  | .inr (.inr _), r => NoD.O3 NoD.S NoD.S NoD.N F G d v _ h h1 h2 r
/-- a comprehension over the values of a field of one's own object; the dict's things do not need the dict -/
theorem w_compV {a : Str} {bd : β → (Option α → Prop) → Prop} {kk : List α → Prop} (cl : Cls K C) (na : NoAttr K C a) (bo : BO C F H ob dx fs) (lk : fs.lookup a = some (.ref d)) (r : BD b F H d m)
    (nb : NoD b) (ne : NoD e) (w : Wf F0 H0 F H) (hn : m.length < 1000000) (ho : ∀ H', Val to σ H' (.ref ob)) (hW : compW (m.map (·.2)) bd kk)
    (turn : ∀ (Qy : V → Hp → Prop) (Qn : Hp → Prop) x u F1 H1 (R : Option α → Prop), Ex F1 H1 → b.r F1 u x → bd x R → (∀ y z F2 H2, Wf F1 H1 F2 H2 → e.r F2 y z → R (some z) → Qy y H2) → (∀ F2 H2, Wf F1 H1 F2 H2 → R none → Qn H2) →
      g u (wipe σ vs) H1 fun σ2 H2 => wipe σ2 vs = wipe σ vs ∧ tc σ2 H2 fun b H3 => if b = true then te σ2 H3 Qy else Qn H3)
    (done : ∀ p ys F' H', H p = none → Wf F H F' H' → XL e H0 F' H' p ys → kk ys → Q (.ref p) H') :
    tLockE (tLc (iVals (tFld K to a)) g tc te vs) σ H Q := by
  obtain ⟨kvs, hd, da⟩ := r.x
  have hne : ob ≠ d := fun z => by
    have := bo.h
    rw [z, hd] at this; cases this
  have nI : ∀ C dx fs, F d ≠ some (.ins C dx fs) := fun C dx fs z => by
    have := w.f _ _ z
    rw [hd] at this; cases this
  have nT : ∀ us, F d ≠ some (.tup us) := fun us z => by
    have := w.f _ _ z
    rw [hd] at this; cases this
  refine ⟨d, .dK kvs, hd, trivial, fun od => ?_⟩
  have hob : upd H d (.frz od (.dK kvs)) ob = some (.ins C dx fs) := by rw [upd_ne hne]; exact bo.h
  have f1 : Ex (upd F d (.frz od (.dK kvs))) (upd H d (.frz od (.dK kvs))) := fun q u h => by
    by_cases c : q = d
    · subst c; rw [upd_same] at h ⊢; exact h
    · rw [upd_ne c] at h ⊢; exact w.f q u h
  have da1 : DA b (upd F d (.frz od (.dK kvs))) kvs m := da.cv fun {v x} h => nb F _ d v x (fun a o c q => by rw [upd_ne c]; exact q) nI nT h
  have len := da.len
  refine c_J ?_
  refine ho _ _ ⟨ob, C, dx, fs, _, rfl, hob, cl, na, lk, d, od, kvs, rfl, upd_same, ?_⟩
  have T : TWk (Itd d od kvs) (upd F d (.frz od (.dK kvs))) b (m.map (·.2)) := by
    refine ⟨fun H' => H' d = some (.frz od (.dK kvs)), _, by rw [List.length_map, ← len]; exact walk_values, fun F' H' h1 h2 => h2 _ _ (h1 _ _ upd_same), fun i H1 v H2 F' hi h1 h2 hy => ?_⟩
    obtain ⟨rfl, k, hk⟩ := hy
    obtain ⟨q, hq, rq⟩ := da1.got hk
    exact ⟨q.2, F', by rw [List.getElem?_map, hq]; rfl, Wf.id h2, b.mono h1 rq⟩
  refine w_compG (e := e) T (Wf.id f1) (by rw [List.length_map]; exact hn) hW (fun Qy Qn x u F1 H1 R q _ ru hb hy hq => turn Qy Qn x u F1 H1 R q.f ru hb hy hq) fun p ys F' H' hp s x hk => ?_
  have hdd : H' d = some (.frz od (.dK kvs)) := s.h _ _ upd_same
  have pd : p ≠ d := fun z => by rw [z, upd_same] at hp; cases hp
  have fd : F' d = some (.frz od (.dK kvs)) := s.g _ _ upd_same
  refine ⟨hdd, done p ys (fun a => if a = d then F d else F' a) (upd H' d (.dK kvs)) (by rw [upd_ne pd] at hp; exact hp) ⟨fun a o h => ?_, fun a o h => ?_, fun a o h => ?_, fun a o h h0 => ?_⟩ ?_ hk⟩
  · by_cases c : a = d
    · subst c; rw [hd] at h; cases h; exact upd_same
    · rw [upd_ne c]; exact s.h a o (by rw [upd_ne c]; exact h)
  · by_cases c : a = d
    · subst c
      rw [if_pos rfl] at h
      have := w.f _ _ h
      rw [hd] at this; cases this; exact upd_same
    · rw [if_neg c] at h; rw [upd_ne c]; exact s.f a o h
  · by_cases c : a = d
    · subst c; rw [if_pos rfl]; exact h
    · rw [if_neg c]; exact s.g a o (by rw [upd_ne c]; exact h)
  · by_cases c : a = d
    · subst c; rw [if_pos rfl, h0] at h; cases h
    · rw [if_neg c] at h
      have := s.n a o h (by rw [upd_ne c]; exact h0)
      rw [upd_ne c] at this; exact this
  · obtain ⟨us, xc, al⟩ := x.x
    have z := xc.z
    rw [upd_ne pd] at z
    refine ⟨us, ⟨w.h.non z, (if_neg pd).trans xc.n, by rw [upd_ne pd]; exact xc.h⟩, ?_⟩
    exact ne.all (d := d) (fun a o c q => (if_neg c).trans q) (fun C dx fs q => by rw [fd] at q; cases q) (fun us q => by rw [fd] at q; cases q) al
end
/-! objects with four fields -/
def F4s {α β γ δ : Type} (n m l k : Str) (e : Rep α) (f : Rep β) (g : Rep γ) (i : Rep δ) (F : Hp) (fs : List (Str × V)) (x : α × β × γ × δ) : Prop := ∃ u w y t, fs = [(n, u), (m, w), (l, y), (k, t)] ∧ e.r F u x.1 ∧ f.r F w x.2.1 ∧ g.r F y x.2.2.1 ∧ i.r F t x.2.2.2
theorem F4s.mono {α β γ δ : Type} {n m l k : Str} {e : Rep α} {f : Rep β} {g : Rep γ} {i : Rep δ} {F F' : Hp} {fs : List (Str × V)} {x : α × β × γ × δ} (h : Ex F F') : F4s n m l k e f g i F fs x → F4s n m l k e f g i F' fs x := fun ⟨u, w, y, t, a, b, c, d, j⟩ => ⟨u, w, y, t, a, e.mono h b, f.mono h c, g.mono h d, i.mono h j⟩
def pO4 {α β γ δ : Type} (C : Addr) (n m l k : Str) (e : Rep α) (f : Rep β) (g : Rep γ) (i : Rep δ) : Rep (α × β × γ × δ) := pOb C (F4s n m l k e f g i) F4s.mono
section
variable {α β γ δ : Type} {e : Rep α} {f : Rep β} {g : Rep γ} {i : Rep δ} {K : PySem.W.Frag} {F H : Hp} {C : Addr} {a b c d m : Str} {v : V} {z : α × β × γ × δ}
theorem fl_41 (cl : Cls K C) (na : NoAttr K C a) (r : (pO4 C a b c d e f g i).r F v z) (h : Ex F H)  : ∃ w, e.r F w z.1 ∧ ∀ ⦃σ ta⦄, Val ta σ H v → Val (tFld K ta a) σ H w := by
  obtain ⟨p, dx, fs, rfl, hp, u, w, y, t, rfl, r1, r2, r3, r4⟩ := r
  exact ⟨u, r1, fun _ _ ha Q k => ha _ ⟨p, C, dx, _, u, rfl, h _ _ hp, cl, na, lk_eq, k⟩⟩
theorem fl_42 (cl : Cls K C) (na : NoAttr K C b) (r : (pO4 C a b c d e f g i).r F v z) (h : Ex F H) (h1 : (b == a) = false := by decide +kernel) : ∃ w, f.r F w z.2.1 ∧ ∀ ⦃σ ta⦄, Val ta σ H v → Val (tFld K ta b) σ H w := by
  obtain ⟨p, dx, fs, rfl, hp, u, w, y, t, rfl, r1, r2, r3, r4⟩ := r
  exact ⟨w, r2, fun _ _ ha Q k => ha _ ⟨p, C, dx, _, w, rfl, h _ _ hp, cl, na, ((lk_ne h1).trans lk_eq), k⟩⟩
theorem fl_43 (cl : Cls K C) (na : NoAttr K C c) (r : (pO4 C a b c d e f g i).r F v z) (h : Ex F H) (h1 : (c == a) = false := by decide +kernel) (h2 : (c == b) = false := by decide +kernel) : ∃ w, g.r F w z.2.2.1 ∧ ∀ ⦃σ ta⦄, Val ta σ H v → Val (tFld K ta c) σ H w := by
  obtain ⟨p, dx, fs, rfl, hp, u, w, y, t, rfl, r1, r2, r3, r4⟩ := r
  exact ⟨y, r3, fun _ _ ha Q k => ha _ ⟨p, C, dx, _, y, rfl, h _ _ hp, cl, na, ((lk_ne h1).trans ((lk_ne h2).trans lk_eq)), k⟩⟩
theorem fl_44 (cl : Cls K C) (na : NoAttr K C d) (r : (pO4 C a b c d e f g i).r F v z) (h : Ex F H) (h1 : (d == a) = false := by decide +kernel) (h2 : (d == b) = false := by decide +kernel) (h3 : (d == c) = false := by decide +kernel) : ∃ w, i.r F w z.2.2.2 ∧ ∀ ⦃σ ta⦄, Val ta σ H v → Val (tFld K ta d) σ H w := by
  obtain ⟨p, dx, fs, rfl, hp, u, w, y, t, rfl, r1, r2, r3, r4⟩ := r
  exact ⟨t, r4, fun _ _ ha Q k => ha _ ⟨p, C, dx, _, t, rfl, h _ _ hp, cl, na, ((lk_ne h1).trans ((lk_ne h2).trans ((lk_ne h3).trans lk_eq))), k⟩⟩
theorem me_4 (r : (pO4 C a b c d e f g i).r F v z) (h : Ex F H) (h1 : (m == a) = false := by decide +kernel) (h2 : (m == b) = false := by decide +kernel) (h3 : (m == c) = false := by decide +kernel) (h4 : (m == d) = false := by decide +kernel) : ∃ p dx fs, v = .ref p ∧ H p = some (.ins C dx fs) ∧ fs.lookup m = none := by
  obtain ⟨p, dx, fs, rfl, hp, u, w, y, t, rfl, _⟩ := r
  exact ⟨p, dx, _, rfl, h _ _ hp, (lk_ne h1).trans ((lk_ne h2).trans ((lk_ne h3).trans ((lk_ne h4).trans rfl)))⟩
/-- all that stands in it -/
theorem st_O4 (r : (pO4 C a b c d e f g i).r F v z) (h : Ex F H) (h1 : (b == a) = false := by decide +kernel) (h2 : (c == a) = false := by decide +kernel) (h3 : (c == b) = false := by decide +kernel) (h4 : (d == a) = false := by decide +kernel) (h5 : (d == b) = false := by decide +kernel) (h6 : (d == c) = false := by decide +kernel) :
    ∃ p dx fs u w y t, v = .ref p ∧ H p = some (.ins C dx fs) ∧ fs.lookup a = some u ∧ fs.lookup b = some w ∧ fs.lookup c = some y ∧ fs.lookup d = some t ∧ e.r F u z.1 ∧ f.r F w z.2.1 ∧ g.r F y z.2.2.1 ∧ i.r F t z.2.2.2 ∧ ∀ m : Str, (m == a) = false → (m == b) = false → (m == c) = false → (m == d) = false → fs.lookup m = none := by
  obtain ⟨p, dx, fs, rfl, hp, u, w, y, t, rfl, r1, r2, r3, r4⟩ := r
  exact ⟨p, dx, _, u, w, y, t, rfl, h _ _ hp, lk_eq, (lk_ne h1).trans lk_eq, (lk_ne h2).trans ((lk_ne h3).trans lk_eq), (lk_ne h4).trans ((lk_ne h5).trans ((lk_ne h6).trans lk_eq)), r1, r2, r3, r4, fun m a1 a2 a3 a4 => (lk_ne a1).trans ((lk_ne a2).trans ((lk_ne a3).trans ((lk_ne a4).trans rfl)))⟩
end
section
variable {α κ : Type} [KeyT κ] {e : Rep α} {F H : Hp} {p : Addr} {xs : List α} {m : List (κ × α)}
theorem L_bwP (r : (pL e).r F (.ref p) xs) (f : Ex F H) : BL e F H p xs := by
  obtain ⟨q, vs, a, b, c⟩ := r
  cases a; exact ⟨vs, f _ _ b, c⟩
theorem D_bwP (r : (pD e).r F (.ref p) m) (f : Ex F H) : BD e F H p m := by
  obtain ⟨q, vs, a, b, c⟩ := r
  cases a; exact ⟨vs, f _ _ b, c⟩
end
section
variable {α : Type} {e : Rep α} {F0 H0 F H : Hp} {p : Addr} {xs : List α} {Q : VK}
/-- xs.pop(), what it tells let go -/
theorem a_pop (x : XL e H0 F H p xs) (w : Wf F0 H0 F H) (hne : xs ≠ []) (k : ∀ v H', Wf F0 H0 F H' → XL e H0 F H' p xs.dropLast → (∀ q o, H q = some o → q ≠ p → H' q = some o) → Q v H') : rPop (.ref p) [] H Q := by
  obtain ⟨vs, a, b⟩ := x.x
  have hl : 0 < vs.length := by rw [b.len]; exact List.length_pos_iff.mpr hne
  refine ⟨p, vs, vs[vs.length - 1]'(by omega), rfl, rfl, a.h, List.getElem?_eq_getElem _, k _ _ (w.set a) ⟨vs.dropLast, a.set, ?_⟩ fun q o h hq => by rw [upd_ne hq]; exact h⟩
  rw [List.dropLast_eq_take, List.dropLast_eq_take, ← b.len]
  exact b.take _
end
section
variable {α κ : Type} [DecidableEq κ] [KeyT κ] {e : Rep α} {σ : L2.St} {H0 F H : Hp} {p : Addr} {m : List (κ × α)} {ta ty td : TE} {j : κ}
theorem nin_BD (r : BD e F H p m) (hy : Val ty σ H (kV (KeyT.k j))) (hd : Val td σ H (.ref p)) : Val (tDNotIn ty td) σ H (.bl (!hasT m j)) := by
  obtain ⟨kvs, hp, a⟩ := r.x
  exact fun Q k => hy _ (hd _ ⟨p, _, rfl, DGet.k hp, by rw [a.has j]; exact k⟩)
theorem len_XD (r : XD e H0 F H p m) (ha : Val ta σ H (.ref p)) : Val (tCB rLenD (tCons ta tNil)) σ H (.int ((m.length : Nat) : Int)) := by
  obtain ⟨kvs, hp, a⟩ := r.rd
  exact v_cb1 ha fun Q k => ⟨p, kvs, rfl, hp, by rw [a.len]; exact k⟩
end
end Wk
namespace Wk
open PySem L2
/-! own objects just made -/
section
variable {α : Type} {e : Rep α} {F0 H0 F F' H H' : Hp} {x dx d : Addr} {o u : HO} {xs : List α}
theorem XL.made (r : XL e (wo (upd (upd H dx o) x u) x) F' H' d xs) (hne : d ≠ x) (w : Wf F0 H0 F H) : XL e H0 F' H' d xs ∧ H d = none := by
  have z := r.zero
  rw [wo_ne hne, upd_ne hne] at z
  have hd : d ≠ dx := fun q => by rw [q, upd_same] at z; cases z
  rw [upd_ne hd] at z
  exact ⟨r.fromL (w.h.non z), z⟩
theorem ne_of_h {p q : Addr} {o : HO} (h : H p = some o) (n : H q = none) : p ≠ q := ne_of_none h n
end
end Wk
namespace Wk
open PySem L2
section
variable {α β γ δ : Type} {e : Rep α} {f : Rep β} {g : Rep γ} {i : Rep δ} {K : PySem.W.Frag} {F0 H0 F H : Hp} {v : V} {x : α × β × γ × δ} {p : Addr} {xs : List α} {Q : VK}
theorem ix_4a (r : (pT4 e f g i).r F v x) (h : Ex F H) : ∃ w, e.r F w x.1 ∧ ∀ ⦃σ ta tb⦄, Val ta σ H v → Val tb σ H (.int 0) → Val (tOp (rIxT K) ta tb) σ H w := by
  obtain ⟨p, u, w, y, z, rfl, hp, a, b, c, d⟩ := r
  exact ⟨u, a, fun _ _ _ ha hb => v2 ha hb fun Q k => ⟨p, _, _, u, rfl, rfl, SqT.of (h _ _ hp), rfl, k⟩⟩
theorem ix_4b (r : (pT4 e f g i).r F v x) (h : Ex F H) : ∃ w, f.r F w x.2.1 ∧ ∀ ⦃σ ta tb⦄, Val ta σ H v → Val tb σ H (.int 1) → Val (tOp (rIxT K) ta tb) σ H w := by
  obtain ⟨p, u, w, y, z, rfl, hp, a, b, c, d⟩ := r
  exact ⟨w, b, fun _ _ _ ha hb => v2 ha hb fun Q k => ⟨p, _, _, w, rfl, rfl, SqT.of (h _ _ hp), rfl, k⟩⟩
theorem ix_4c (r : (pT4 e f g i).r F v x) (h : Ex F H) : ∃ w, g.r F w x.2.2.1 ∧ ∀ ⦃σ ta tb⦄, Val ta σ H v → Val tb σ H (.int 2) → Val (tOp (rIxT K) ta tb) σ H w := by
  obtain ⟨p, u, w, y, z, rfl, hp, a, b, c, d⟩ := r
  exact ⟨y, c, fun _ _ _ ha hb => v2 ha hb fun Q k => ⟨p, _, _, y, rfl, rfl, SqT.of (h _ _ hp), rfl, k⟩⟩
theorem ix_4d (r : (pT4 e f g i).r F v x) (h : Ex F H) : ∃ w, i.r F w x.2.2.2 ∧ ∀ ⦃σ ta tb⦄, Val ta σ H v → Val tb σ H (.int 3) → Val (tOp (rIxT K) ta tb) σ H w := by
  obtain ⟨p, u, w, y, z, rfl, hp, a, b, c, d⟩ := r
  exact ⟨z, d, fun _ _ _ ha hb => v2 ha hb fun Q k => ⟨p, _, _, z, rfl, rfl, SqT.of (h _ _ hp), rfl, k⟩⟩
theorem n_listB (r : BL e F H p xs) (w : Wf F0 H0 F H) (k : ∀ p H', H p = none → Wf F H F H' → XL e H0 F H' p xs → Q (.ref p) H') : rListOf K [.ref p] H Q := by
  obtain ⟨vs, hp, a⟩ := r.x
  exact ⟨p, vs, rfl, .inl (SqL.of hp), fun l hl => k l _ hl (Wf.newX w.f hl) ⟨vs, Xc.mk' w hl, a⟩⟩
end
end Wk
/-! Ng: the last item of a list. -/
namespace Wk
open PySem L2
section
variable {K : PySem.W.Frag} {α : Type} {e : Rep α} {F0 H0 F H : Hp} {v : V} {x : α} {xs : List α} {vs : List V} {p : Addr}
theorem All.gl (a : All e F vs xs) (hx : xs.getLast? = some x) : ∃ w ys, vs = ys ++ [w] ∧ e.r F w x := by
  rw [List.getLast?_eq_getElem?] at hx
  obtain ⟨w, h1, h2⟩ := a.get hx
  rw [← a.len, ← List.getLast?_eq_getElem?] at h1
  obtain ⟨ys, hy⟩ := List.getLast?_eq_some_iff.mp h1
  exact ⟨w, ys, hy, h2⟩
theorem ix_Lm (r : (pL e).r F v xs) (f : Ex F H) (hx : xs.getLast? = some x) : ∃ w, e.r F w x ∧ ∀ ⦃σ ta tb⦄, Val ta σ H v → Val tb σ H (.int (-1)) → Val (tOp (rIxL K) ta tb) σ H w := by
  obtain ⟨p, vs, rfl, hp, a⟩ := L_rd r f
  obtain ⟨w, ys, rfl, h2⟩ := a.gl hx
  exact ⟨w, h2, fun _ _ _ ha hb => v2 ha hb fun Q k => ⟨p, _, _, w, rfl, rfl, SqL.of hp, atI_last ys w, k⟩⟩
theorem ix_Xm (r : XL e H0 F H p xs) (hx : xs.getLast? = some x) : ∃ w, e.r F w x ∧ ∀ ⦃σ ta tb⦄, Val ta σ H (.ref p) → Val tb σ H (.int (-1)) → Val (tOp (rIxL K) ta tb) σ H w := by
  obtain ⟨vs, hp, a⟩ := r.rd
  obtain ⟨w, ys, rfl, h2⟩ := a.gl hx
  exact ⟨w, h2, fun _ _ _ ha hb => v2 ha hb fun Q k => ⟨p, _, _, w, rfl, rfl, SqL.of hp, atI_last ys w, k⟩⟩
end
end Wk
namespace My
open PySem L2 Wk
def topS (i : Nat) : Stmt := PySem.Challenge.pw_sumwires_k24_whole_answers_add_up.main.body.getD i (.Pass ⟨0, 0, 0, 0⟩)
structure Cz where
  InWire : Addr
  SumWire : Addr
  StoreWire : Addr
  Net : Addr
  Run : Addr
  Wire : Addr
structure Tz (K : PySem.W.Frag) (mg : Str → Option Value) (cc : Cz) : Prop where
  cl_InWire : Cls K cc.InWire
  na_InWire_name : NoAttr K cc.InWire "name"
  na_InWire_number : NoAttr K cc.InWire "number"
  cl_SumWire : Cls K cc.SumWire
  na_SumWire_name : NoAttr K cc.SumWire "name"
  na_SumWire_wires : NoAttr K cc.SumWire "wires"
  cl_StoreWire : Cls K cc.StoreWire
  na_StoreWire_name : NoAttr K cc.StoreWire "name"
  na_StoreWire_wire : NoAttr K cc.StoreWire "wire"
  na_StoreWire_number : NoAttr K cc.StoreWire "number"
  cl_Net : Cls K cc.Net
  na_Net_all : NoAttr K cc.Net "all"
  na_Net_ends : NoAttr K cc.Net "ends"
  na_Net_line_up : NoAttr K cc.Net "line_up"
  na_Net_laid : NoAttr K cc.Net "laid"
  cl_Run : Cls K cc.Run
  na_Run_net : NoAttr K cc.Run "net"
  na_Run_held : NoAttr K cc.Run "held"
  na_Run_bits : NoAttr K cc.Run "bits"
  na_Run_replies : NoAttr K cc.Run "replies"
  gl_MOST_INS : ∃ u, mg "MOST_INS" = some u ∧ RelV (.int 6) u
  gl_MOST_OUTS : ∃ u, mg "MOST_OUTS" = some u ∧ RelV (.int 6) u
  gl_MOST_STORES : ∃ u, mg "MOST_STORES" = some u ∧ RelV (.int 16) u
  gl_MOST_SUMS : ∃ u, mg "MOST_SUMS" = some u ∧ RelV (.int 40) u
  gl_MOST_WIRES : ∃ u, mg "MOST_WIRES" = some u ∧ RelV (.int 24) u
  gl_FIGURES : ∃ u, mg "FIGURES" = some u ∧ RelV (.str (PySem.Str.ofString "0123456789")) u
  gl_LETTERS : ∃ u, mg "LETTERS" = some u ∧ RelV (.str (PySem.Str.ofString "abcdefghijklmnopqrstuvwxyz")) u
  ci_InWire : ClsI K mg "InWire" cc.InWire
  ci_StoreWire : ClsI K mg "StoreWire" cc.StoreWire
  ci_SumWire : ClsI K mg "SumWire" cc.SumWire
  xi_InWire_InWire : PySem.W.kitOne K (.ref cc.InWire) (.ref cc.InWire) = some true
  xi_InWire_StoreWire : PySem.W.kitOne K (.ref cc.InWire) (.ref cc.StoreWire) = some false
  xi_InWire_SumWire : PySem.W.kitOne K (.ref cc.InWire) (.ref cc.SumWire) = some false
  xi_InWire_Wire : PySem.W.kitOne K (.ref cc.InWire) (.ref cc.Wire) = some true
  xi_StoreWire_InWire : PySem.W.kitOne K (.ref cc.StoreWire) (.ref cc.InWire) = some false
  xi_StoreWire_StoreWire : PySem.W.kitOne K (.ref cc.StoreWire) (.ref cc.StoreWire) = some true
  xi_StoreWire_SumWire : PySem.W.kitOne K (.ref cc.StoreWire) (.ref cc.SumWire) = some false
  xi_StoreWire_Wire : PySem.W.kitOne K (.ref cc.StoreWire) (.ref cc.Wire) = some true
  xi_SumWire_InWire : PySem.W.kitOne K (.ref cc.SumWire) (.ref cc.InWire) = some false
  xi_SumWire_StoreWire : PySem.W.kitOne K (.ref cc.SumWire) (.ref cc.StoreWire) = some false
  xi_SumWire_SumWire : PySem.W.kitOne K (.ref cc.SumWire) (.ref cc.SumWire) = some true
  xi_SumWire_Wire : PySem.W.kitOne K (.ref cc.SumWire) (.ref cc.Wire) = some true
  cr_Wire : ClX.CRead K cc.Wire (.type "type")
  g_Wire : mg "Wire" = some (.ref cc.Wire)
theorem tw_of {K : PySem.W.Frag} {mg : Str → Option Value} {cc : Cz} (T : Tz K mg cc) : TW K mg cc.InWire cc.SumWire cc.StoreWire cc.Wire :=
  ⟨T.cl_InWire, T.cl_SumWire, T.cl_StoreWire, T.na_InWire_name, T.na_SumWire_name, T.na_StoreWire_name, T.na_InWire_number, T.na_StoreWire_number, T.na_SumWire_wires, T.na_StoreWire_wire, T.ci_InWire, T.ci_SumWire, T.ci_StoreWire,
    fun x => match x with | .inl _ => T.xi_InWire_InWire | .inr (.inl _) => T.xi_SumWire_InWire | .inr (.inr _) => T.xi_StoreWire_InWire,
    fun x => match x with | .inl _ => T.xi_InWire_SumWire | .inr (.inl _) => T.xi_SumWire_SumWire | .inr (.inr _) => T.xi_StoreWire_SumWire,
    fun x => match x with | .inl _ => T.xi_InWire_StoreWire | .inr (.inl _) => T.xi_SumWire_StoreWire | .inr (.inr _) => T.xi_StoreWire_StoreWire,
    fun x => match x with | .inl _ => T.xi_InWire_Wire | .inr (.inl _) => T.xi_SumWire_Wire | .inr (.inr _) => T.xi_StoreWire_Wire⟩
structure XO_Run (cc : Cz) (H0 F H : Hp) (p dx : Addr) (v_net : V) (held : Nat) (d_replies : Addr) : Prop where
  x : ∃ (o_bits : V), Xc H0 F H p (.ins cc.Run dx [("net", v_net), ("held", (.int ((held : Nat) : Int))), ("bits", o_bits), ("replies", V.ref d_replies)])
section
variable {cc : Cz} {F0 H0 F F' H H' H1 : Hp} {p q dx : Addr} {L : List Addr} {v_net : V} {held : Nat} {d_replies : Addr}
theorem XO_Run.step (x : XO_Run cc H0 F H p dx v_net held d_replies) (w : Wf F H F' H') : XO_Run cc H0 F' H' p dx v_net held d_replies := let ⟨o_bits, y⟩ := x.x; ⟨o_bits, y.step w⟩
theorem XO_Run.kept (x : XO_Run cc H0 F H p dx v_net held d_replies) (h : ∀ r o, H r = some o → r ≠ q → H' r = some o) (hq : p ≠ q) : XO_Run cc H0 F H' p dx v_net held d_replies := let ⟨o_bits, y⟩ := x.x; ⟨o_bits, y.kept h hq⟩
theorem XO_Run.frzO (x : XO_Run cc H0 F H p dx v_net held d_replies) (h : Fz F F' q) (hq : p ≠ q) (g : Ex F F') : XO_Run cc H0 F' H p dx v_net held d_replies := let ⟨o_bits, y⟩ := x.x; ⟨o_bits, y.frzO h hq g⟩
theorem XO_Run.away (x : XO_Run cc H0 F H p dx v_net held d_replies) (hp : p ∉ L) (s : Wf F (woL H L) F' H') : XO_Run cc H0 F' H' p dx v_net held d_replies := let ⟨o_bits, y⟩ := x.x; ⟨o_bits, y.away hp s⟩
theorem XO_Run.ne (x : XO_Run cc H0 F H p dx v_net held d_replies) (h : H q = none) : p ≠ q := let ⟨o_bits, y⟩ := x.x; y.ne h
theorem XO_Run.zero (x : XO_Run cc H0 F H p dx v_net held d_replies)  : H0 p = none := let ⟨o_bits, y⟩ := x.x; y.z
theorem XO_Run.nF (x : XO_Run cc H0 F H p dx v_net held d_replies)  : F p = none := let ⟨o_bits, y⟩ := x.x; y.n
theorem XO_Run.toL (x : XO_Run cc H0 F H p dx v_net held d_replies) (hp : p ∈ L) : XO_Run cc (woL H L) F H p dx v_net held d_replies := let ⟨o_bits, y⟩ := x.x; ⟨o_bits, y.toL hp⟩
theorem XO_Run.fromL (x : XO_Run cc H0 F H p dx v_net held d_replies) (z : H1 p = none) : XO_Run cc H1 F H p dx v_net held d_replies := let ⟨o_bits, y⟩ := x.x; ⟨o_bits, y.fromL z⟩
end
abbrev s_Wire___init__ : Stmt := inClass (topS 19) 0
/-! Wire.__init__ -/
abbrev N_Wire___init__ : List Str := ["self", "name"]
theorem sc_Wire___init__ : FnScope N_Wire___init__ ["self", "name"] (defScope s_Wire___init__) := ⟨rfl, rfl, rfl, by decide +kernel, rfl, by decide +kernel, by decide +kernel⟩
theorem ok_Wire___init__ {P : Program} {w0 : World} {K : PySem.W.Frag} {mg : Str → Option Value} {base : Heap} {f : Addr} {fd : FuncData} {cc : Cz} (T : Tz K mg cc) (FU : Fun K "__init__" "Wire.__init__" s_Wire___init__ f fd) (hc : ClX.CVal K cc.Wire (.type "type") "__init__" (.ref f) (.ref f)) (kp : PySem.W.keepIn K (.ref f) = true) (hb : Binds K fd ["self", "name"] []) : Cf P w0 K mg base CX0 1 cc.Wire "__init__" ["self", "name"] (sp_base1 K "name") := by
  refine ⟨f, fd, FU.ok sc_Wire___init__ (fun vs H Q E h => ?_) (fun cdv A outer s H0 vs Q E hr h => ?_), ⟨hc, kp⟩, hb⟩
  · obtain ⟨_, _, _, _, rfl, _⟩ := h; rfl
  · obtain ⟨C, dx, ob, v, rfl, cl, na, ho, hQ⟩ := h
    have nd := sc_Wire___init__.nd
    refine ⟨(sFld K (tVar 0) (tVar 1) "name"), (pss_one (ps_fld (pv 0) (pv 1) rfl)), ?_⟩
    refine e_fld ?_
    refine e_val (v := v) (val_var rfl) ?_
    exact val_var rfl _ ⟨ob, C, dx, [], rfl, ho, cl, na, (by decide), hQ⟩
abbrev s_Wire_needs : Stmt := inClass (topS 19) 2
/-! Wire.needs -/
def W_Wire_needs (self1 : WireV) (R : (List Str) → Prop) : Prop := R ([] : List Str)
def sp_Wire_needs (K : PySem.W.Frag) (cc : Cz) : Sp := fun vs H Q _ => ∃ (F : Hp) (v1 : V) (self1 : WireV) (R : (List Str) → Prop), vs = [v1] ∧ Ex F H ∧ (pW cc.InWire cc.SumWire cc.StoreWire).r F v1 self1 ∧ W_Wire_needs self1 R ∧ ∀ z, R z → ∀ p F' H', Wf F H F' H' → XL pS H F' H' p z → Q (.ref p) H'
abbrev N_Wire_needs : List Str := ["self"]
theorem sc_Wire_needs : FnScope N_Wire_needs ["self"] (defScope s_Wire_needs) := ⟨rfl, rfl, rfl, by decide +kernel, rfl, by decide +kernel, by decide +kernel⟩
theorem ok_Wire_needs {P : Program} {w0 : World} {K : PySem.W.Frag} {mg : Str → Option Value} {base : Heap} {f : Addr} {fd : FuncData} {cc : Cz} (T : Tz K mg cc) (FU : Fun K "needs" "Wire.needs" s_Wire_needs f fd) {cX : Addr} (hm : Meth K cX "needs" f) (hb : Binds K fd ["self"] []) : Md P w0 K mg base CX0 1 cX "needs" ["self"] (sp_Wire_needs K cc) := by
  refine ⟨f, fd, FU.ok sc_Wire_needs (fun vs H Q E h => ?_) (fun cdv A outer s H0 vs Q E hr h => ?_), hm, hb⟩
  · obtain ⟨_, _, _, _, rfl, _⟩ := h; rfl
  · obtain ⟨F0, v1, self1, R, rfl, wf, r1, hW, hQ⟩ := h
    have nd := sc_Wire_needs.nd
    refine ⟨(tRet (tLst tNil)), (pss_one (ps_ret (pe_lst pa_nil))), ?_⟩
    have w := Wf.id wf
    refine a_retE ?_
    refine e_lst ?_
    refine a_nil ?_
    refine n_lstX (e := pS) (xs := []) (vs := []) (show All pS _ [] [] from trivial) (show 0 < 1000000 from by decide) w ?_
    intro p1 H1 hp1 s1 x1
    replace r1 := Rep.mono _ s1.g r1
    replace w := w.tr s1
    exact hQ _ hW _ _ _ w x1
abbrev s_InWire___init__ : Stmt := inClass (topS 20) 0
/-! InWire.__init__ -/
def W_InWire___init__ (name1 : Str) (number1 : Nat) (R : (Str × Nat) → Prop) : Prop := R (name1, number1)
def sp_InWire___init__ (K : PySem.W.Frag) (cc : Cz) : Sp := fun vs H Q _ => ∃ (F : Hp) (ob dx : Addr) (name1 : Str) (number1 : Nat) (R : (Str × Nat) → Prop), vs = [(.ref ob), (.str (name1)), (.int ((number1 : Nat) : Int))] ∧ H ob = some (.ins cc.InWire dx []) ∧ F ob = none ∧ Ex F H ∧ W_InWire___init__ name1 number1 R ∧ ∀ z, R z → ∀ F' H', Wf F (wo H ob) F' H' → (pO2 cc.InWire "name" "number" pS pN).r F' (.ref ob) z → Q .non H'
abbrev N_InWire___init__ : List Str := ["self", "name", "number"]
theorem sc_InWire___init__ : FnScope N_InWire___init__ ["self", "name", "number"] (defScope s_InWire___init__) := ⟨rfl, rfl, rfl, by decide +kernel, rfl, by decide +kernel, by decide +kernel⟩
theorem ok_InWire___init__ {P : Program} {w0 : World} {K : PySem.W.Frag} {mg : Str → Option Value} {base : Heap} {f : Addr} {fd : FuncData} {cc : Cz} (T : Tz K mg cc) (FU : Fun K "__init__" "InWire.__init__" s_InWire___init__ f fd) (hm : Mk K cc.InWire f) (hg : mg "InWire" = some (.ref cc.InWire)) (hb : Binds K fd ["self", "name", "number"] []) (c_Wire___init__ : Cf P w0 K mg base CX0 1 cc.Wire "__init__" ["self", "name"] (sp_base1 K "name")) : Nw P w0 K mg base CX0 3 cc.InWire "InWire" ["self", "name", "number"] (sp_InWire___init__ K cc) := by
  refine ⟨f, fd, FU.ok sc_InWire___init__ (fun vs H Q E h => ?_) (fun cdv A outer s H0 vs Q E hr h => ?_), hm, hg, hb⟩
  · obtain ⟨_, _, _, _, _, _, rfl, _⟩ := h; rfl
  · obtain ⟨F0, ob, dx, name1, number1, R, rfl, hob, nob, wf, hW, hQ⟩ := h
    have nd := sc_InWire___init__.nd
    refine ⟨(tSeq (tDrop (tCf cc.Wire (sp_base1 K "name") E0 (tC (.ref cc.Wire)) (tCons (tVar 0) (tCons (tVar 1) tNil)))) (sFld K (tVar 0) (tVar 2) "number")), (pss_cons (ps_expr (pe_cf c_Wire___init__ T.cr_Wire (hr.mono (by decide)) (pe_glob (by rfl) T.g_Wire rfl) (pa_cons (pv 0) (pa_cons (pv 1) pa_nil)))) (pss_one (ps_fld (pv 0) (pv 2) rfl))), ?_⟩
    have xs := Xc.start nob hob
    have w := Wf.start wf nob
    generalize hH0 : wo H0 ob = Hb at xs w hQ
    refine q_sq fun N1 hN1 => ?_
    refine a_dropE ?_
    refine e_cf ?_
    refine e_val (v := .ref cc.Wire) val_c ?_
    refine ⟨rfl, ?_⟩
    refine a_val (v := (.ref ob)) (val_var rfl) ?_
    refine a_val (v := (.str (name1))) (val_var rfl) ?_
    refine a_nil ?_
    refine n_base1 T.cl_InWire T.na_InWire_name xs w (fun H1 w1 x1 kp1 => ?_)
    replace w := w1
    refine hN1 _ _ ?_
    refine e_fld ?_
    refine e_val (v := (.int ((number1 : Nat) : Int))) (val_var rfl) ?_
    refine a_fld T.cl_InWire T.na_InWire_number x1 w (show 1 < 1000 from by decide) (val_var rfl) (fun H2 w2 x2 kp2 => ?_)
    replace w := w2
    replace x2 : Xc Hb F0 H2 ob (.ins cc.InWire dx [("name", (.str (name1))), ("number", (.int ((number1 : Nat) : Int)))]) := Xc.cast x2 ((put_ne (by decide +kernel)).trans (congrArg _ rfl))
    obtain ⟨F1, w3, g1, h1⟩ := x2.frzE w
    exact hQ _ hW _ _ w3 ⟨ob, dx, _, rfl, h1, _, _, rfl, rfl, rfl⟩
abbrev s_InWire_kind : Stmt := inClass (topS 20) 1
/-! InWire.kind -/
def W_InWire_kind (self1 : Str × Nat) (R : Str → Prop) : Prop := R (PySem.Str.ofString "in")
def sp_InWire_kind (K : PySem.W.Frag) (cc : Cz) : Sp := fun vs H Q _ => ∃ (F : Hp) (v1 : V) (self1 : Str × Nat) (R : Str → Prop), vs = [v1] ∧ Ex F H ∧ (pO2 cc.InWire "name" "number" pS pN).r F v1 self1 ∧ W_InWire_kind self1 R ∧ ∀ z, R z → ∀ F' H', Wf F H F' H' → Q (.str (z)) H'
abbrev N_InWire_kind : List Str := ["self"]
theorem sc_InWire_kind : FnScope N_InWire_kind ["self"] (defScope s_InWire_kind) := ⟨rfl, rfl, rfl, by decide +kernel, rfl, by decide +kernel, by decide +kernel⟩
theorem ok_InWire_kind {P : Program} {w0 : World} {K : PySem.W.Frag} {mg : Str → Option Value} {base : Heap} {f : Addr} {fd : FuncData} {cc : Cz} (T : Tz K mg cc) (FU : Fun K "kind" "InWire.kind" s_InWire_kind f fd) (hm : Meth K cc.InWire "kind" f) (hb : Binds K fd ["self"] []) : Md P w0 K mg base CX0 1 cc.InWire "kind" ["self"] (sp_InWire_kind K cc) := by
  refine ⟨f, fd, FU.ok sc_InWire_kind (fun vs H Q E h => ?_) (fun cdv A outer s H0 vs Q E hr h => ?_), hm, hb⟩
  · obtain ⟨_, _, _, _, rfl, _⟩ := h; rfl
  · obtain ⟨F0, v1, self1, R, rfl, wf, r1, hW, hQ⟩ := h
    have nd := sc_InWire_kind.nd
    refine ⟨(tRet (tC (.str (PySem.Str.ofString "in")))), (pss_one (ps_ret pe_str)), ?_⟩
    have w := Wf.id wf
    refine a_ret (v := (.str ((PySem.Str.ofString "in")))) val_c ?_
    exact hQ _ hW _ _ w
abbrev s_InWire_bit : Stmt := inClass (topS 20) 2
/-! InWire.bit -/
def W_InWire_bit (self1 : Str × Nat) (known1 : List (Str × Nat)) (row1 : Nat) (state1 : Nat) (R : Nat → Prop) : Prop := R ((row1 >>> self1.2) &&& 1)
def sp_InWire_bit (K : PySem.W.Frag) (cc : Cz) : Sp := fun vs H Q _ => ∃ (F : Hp) (v1 : V) (self1 : Str × Nat) (v2 : V) (known1 : List (Str × Nat)) (row1 : Nat) (state1 : Nat) (R : Nat → Prop), vs = [v1, v2, (.int ((row1 : Nat) : Int)), (.int ((state1 : Nat) : Int))] ∧ Ex F H ∧ (pO2 cc.InWire "name" "number" pS pN).r F v1 self1 ∧ (pD (κ := Str) pN).r F v2 known1 ∧ W_InWire_bit self1 known1 row1 state1 R ∧ ∀ z, R z → ∀ F' H', Wf F H F' H' → Q (.int ((z : Nat) : Int)) H'
abbrev N_InWire_bit : List Str := ["self", "known", "row", "state"]
theorem sc_InWire_bit : FnScope N_InWire_bit ["self", "known", "row", "state"] (defScope s_InWire_bit) := ⟨rfl, rfl, rfl, by decide +kernel, rfl, by decide +kernel, by decide +kernel⟩
theorem ok_InWire_bit {P : Program} {w0 : World} {K : PySem.W.Frag} {mg : Str → Option Value} {base : Heap} {f : Addr} {fd : FuncData} {cc : Cz} (T : Tz K mg cc) (FU : Fun K "bit" "InWire.bit" s_InWire_bit f fd) (hm : Meth K cc.InWire "bit" f) (hb : Binds K fd ["self", "known", "row", "state"] []) : Md P w0 K mg base CX0 1 cc.InWire "bit" ["self", "known", "row", "state"] (sp_InWire_bit K cc) := by
  refine ⟨f, fd, FU.ok sc_InWire_bit (fun vs H Q E h => ?_) (fun cdv A outer s H0 vs Q E hr h => ?_), hm, hb⟩
  · obtain ⟨_, _, _, _, _, _, _, _, rfl, _⟩ := h; rfl
  · obtain ⟨F0, v1, self1, v2, known1, row1, state1, R, rfl, wf, r1, r2, hW, hQ⟩ := h
    have nd := sc_InWire_bit.nd
    refine ⟨(tRet (tOp kAnd (tOp kShr (tVar 2) (tFld K (tVar 0) "number")) (tC (.int 1)))), (pss_one (ps_ret (pe_op op_and (pe_op op_shr (pv 2) (pe_fld (pv 0) rfl)) pe_int))), ?_⟩
    have w := Wf.id wf
    obtain ⟨_, rfl, fl1⟩ := fl_22 (K := K) T.cl_InWire T.na_InWire_number r1 w.f
    refine a_ret (v := (.int (((row1 >>> self1.2) &&& 1 : Nat) : Int))) (vn_and (vn_shr (val_var rfl) (fl1 (val_var rfl))) val_c) ?_
    exact hQ _ hW _ _ w
abbrev s_InWire_hang : Stmt := inClass (topS 20) 3
/-! InWire.hang -/
def W_InWire_hang (self1 : Str × Nat) (known1 : List (Str × (Nat × Nat))) (R : (Nat × Nat) → Prop) : Prop := (self1.2 < 100000000) ∧ R (0, 2 ^ self1.2)
def sp_InWire_hang (K : PySem.W.Frag) (cc : Cz) : Sp := fun vs H Q _ => ∃ (F : Hp) (v1 : V) (self1 : Str × Nat) (v2 : V) (known1 : List (Str × (Nat × Nat))) (R : (Nat × Nat) → Prop), vs = [v1, v2] ∧ Ex F H ∧ (pO2 cc.InWire "name" "number" pS pN).r F v1 self1 ∧ (pD (κ := Str) (pT2 pN pN)).r F v2 known1 ∧ W_InWire_hang self1 known1 R ∧ ∀ z, R z → ∀ v F' H', Wf F H F' H' → (pT2 pN pN).r F' v z → Q v H'
abbrev N_InWire_hang : List Str := ["self", "known"]
theorem sc_InWire_hang : FnScope N_InWire_hang ["self", "known"] (defScope s_InWire_hang) := ⟨rfl, rfl, rfl, by decide +kernel, rfl, by decide +kernel, by decide +kernel⟩
theorem ok_InWire_hang {P : Program} {w0 : World} {K : PySem.W.Frag} {mg : Str → Option Value} {base : Heap} {f : Addr} {fd : FuncData} {cc : Cz} (T : Tz K mg cc) (FU : Fun K "hang" "InWire.hang" s_InWire_hang f fd) (hm : Meth K cc.InWire "hang" f) (hb : Binds K fd ["self", "known"] []) : Md P w0 K mg base CX0 1 cc.InWire "hang" ["self", "known"] (sp_InWire_hang K cc) := by
  refine ⟨f, fd, FU.ok sc_InWire_hang (fun vs H Q E h => ?_) (fun cdv A outer s H0 vs Q E hr h => ?_), hm, hb⟩
  · obtain ⟨_, _, _, _, _, _, rfl, _⟩ := h; rfl
  · obtain ⟨F0, v1, self1, v2, known1, R, rfl, wf, r1, r2, hW, hQ⟩ := h
    have nd := sc_InWire_hang.nd
    refine ⟨(tRet (tTup (tCons (tC (.int 0)) (tCons (tOp kShl (tC (.int 1)) (tFld K (tVar 0) "number")) tNil)))), (pss_one (ps_ret (pe_tup (pa_cons pe_int (pa_cons (pe_op op_shlW pe_int (pe_fld (pv 0) rfl)) pa_nil))))), ?_⟩
    have w := Wf.id wf
    refine a_retE ?_
    refine e_tup ?_
    refine a_val (v := (.int ((0 : Nat) : Int))) val_c ?_
    obtain ⟨_, rfl, fl1⟩ := fl_22 (K := K) T.cl_InWire T.na_InWire_number r1 w.f
    obtain ⟨c1, hW⟩ := hW
    refine a_val (v := (.int ((2 ^ self1.2 : Nat) : Int))) (vn_one val_c (fl1 (val_var rfl)) c1) ?_
    refine a_nil ?_
    refine n_tup2 (e := pN) (f := pN) (x := 0) (y := 2 ^ self1.2) rfl rfl w ?_
    intro p1 F1 H1 s1 r4
    replace r1 := Rep.mono _ s1.g r1
    replace r2 := Rep.mono _ s1.g r2
    replace w := w.tr s1
    exact hQ _ hW _ _ _ w r4
abbrev s_SumWire___init__ : Stmt := inClass (topS 21) 0
/-! SumWire.__init__ -/
def W_SumWire___init__ (name1 : Str) (wires1 : List (Str)) (R : (Str × List Str) → Prop) : Prop := R (name1, wires1)
def sp_SumWire___init__ (K : PySem.W.Frag) (cc : Cz) : Sp := fun vs H Q _ => ∃ (F : Hp) (ob dx : Addr) (name1 : Str) (p1 : Addr) (wires1 : List (Str)) (R : (Str × List Str) → Prop), vs = [(.ref ob), (.str (name1)), (.ref p1)] ∧ H ob = some (.ins cc.SumWire dx []) ∧ F ob = none ∧ Ex F H ∧ BL pS F H p1 wires1 ∧ W_SumWire___init__ name1 wires1 R ∧ ∀ z, R z → ∀ F' H', Wf F (wo H ob) F' H' → (pO2 cc.SumWire "name" "wires" pS (pTL pS)).r F' (.ref ob) z → Q .non H'
abbrev N_SumWire___init__ : List Str := ["self", "name", "wires"]
theorem sc_SumWire___init__ : FnScope N_SumWire___init__ ["self", "name", "wires"] (defScope s_SumWire___init__) := ⟨rfl, rfl, rfl, by decide +kernel, rfl, by decide +kernel, by decide +kernel⟩
theorem ok_SumWire___init__ {P : Program} {w0 : World} {K : PySem.W.Frag} {mg : Str → Option Value} {base : Heap} {f : Addr} {fd : FuncData} {cc : Cz} (T : Tz K mg cc) (FU : Fun K "__init__" "SumWire.__init__" s_SumWire___init__ f fd) (hm : Mk K cc.SumWire f) (hg : mg "SumWire" = some (.ref cc.SumWire)) (hb : Binds K fd ["self", "name", "wires"] []) (c_Wire___init__ : Cf P w0 K mg base CX0 1 cc.Wire "__init__" ["self", "name"] (sp_base1 K "name")) (n_tuple : mg "tuple" = none) : Nw P w0 K mg base CX0 3 cc.SumWire "SumWire" ["self", "name", "wires"] (sp_SumWire___init__ K cc) := by
  refine ⟨f, fd, FU.ok sc_SumWire___init__ (fun vs H Q E h => ?_) (fun cdv A outer s H0 vs Q E hr h => ?_), hm, hg, hb⟩
  · obtain ⟨_, _, _, _, _, _, _, rfl, _⟩ := h; rfl
  · obtain ⟨F0, ob, dx, name1, p1, wires1, R, rfl, hob, nob, wf, r1, hW, hQ⟩ := h
    have nd := sc_SumWire___init__.nd
    refine ⟨(tSeq (tDrop (tCf cc.Wire (sp_base1 K "name") E0 (tC (.ref cc.Wire)) (tCons (tVar 0) (tCons (tVar 1) tNil)))) (sFld K (tVar 0) (tCB (rTupOf K) (tCons (tVar 2) tNil)) "wires")), (pss_cons (ps_expr (pe_cf c_Wire___init__ T.cr_Wire (hr.mono (by decide)) (pe_glob (by rfl) T.g_Wire rfl) (pa_cons (pv 0) (pa_cons (pv 1) pa_nil)))) (pss_one (ps_fld (pv 0) (pe_callTy call_tuple_of (by rfl) n_tuple PyProof.Rows.boot_tuple (pa_cons (pv 2) pa_nil)) rfl))), ?_⟩
    have xs := Xc.start nob hob
    have w := Wf.start wf nob
    have ne_r1 := r1.neI hob
    generalize hH0 : wo H0 ob = Hb at xs w hQ
    refine q_sq fun N1 hN1 => ?_
    refine a_dropE ?_
    refine e_cf ?_
    refine e_val (v := .ref cc.Wire) val_c ?_
    refine ⟨rfl, ?_⟩
    refine a_val (v := (.ref ob)) (val_var rfl) ?_
    refine a_val (v := (.str (name1))) (val_var rfl) ?_
    refine a_nil ?_
    refine n_base1 T.cl_SumWire T.na_SumWire_name xs w (fun H1 w1 x1 kp1 => ?_)
    replace r1 := r1.kept kp1 ne_r1
    replace w := w1
    refine hN1 _ _ ?_
    refine e_fld ?_
    refine e_cb ?_
    refine a_val (v := (.ref p1)) (val_var rfl) ?_
    refine a_nil ?_
    refine n_tupB r1 w ?_
    intro p2 F1 H2 s1 r2
    replace r1 := r1.step s1
    replace x1 := x1.step s1
    replace w := w.tr s1
    refine a_fld T.cl_SumWire T.na_SumWire_wires x1 w (show 1 < 1000 from by decide) (val_var rfl) (fun H3 w2 x2 kp2 => ?_)
    replace r1 := r1.kept kp2 ne_r1
    replace w := w2
    replace x2 : Xc Hb F1 H3 ob (.ins cc.SumWire dx [("name", (.str (name1))), ("wires", (.ref p2))]) := Xc.cast x2 ((put_ne (by decide +kernel)).trans (congrArg _ rfl))
    obtain ⟨F2, w3, g1, h1⟩ := x2.frzE w
    exact hQ _ hW _ _ w3 ⟨ob, dx, _, rfl, h1, _, _, rfl, rfl, (Rep.mono _ g1 r2)⟩
abbrev s_SumWire_kind : Stmt := inClass (topS 21) 1
/-! SumWire.kind -/
def W_SumWire_kind (self1 : Str × List Str) (R : Str → Prop) : Prop := R (PySem.Str.ofString "sum")
def sp_SumWire_kind (K : PySem.W.Frag) (cc : Cz) : Sp := fun vs H Q _ => ∃ (F : Hp) (v1 : V) (self1 : Str × List Str) (R : Str → Prop), vs = [v1] ∧ Ex F H ∧ (pO2 cc.SumWire "name" "wires" pS (pTL pS)).r F v1 self1 ∧ W_SumWire_kind self1 R ∧ ∀ z, R z → ∀ F' H', Wf F H F' H' → Q (.str (z)) H'
abbrev N_SumWire_kind : List Str := ["self"]
theorem sc_SumWire_kind : FnScope N_SumWire_kind ["self"] (defScope s_SumWire_kind) := ⟨rfl, rfl, rfl, by decide +kernel, rfl, by decide +kernel, by decide +kernel⟩
theorem ok_SumWire_kind {P : Program} {w0 : World} {K : PySem.W.Frag} {mg : Str → Option Value} {base : Heap} {f : Addr} {fd : FuncData} {cc : Cz} (T : Tz K mg cc) (FU : Fun K "kind" "SumWire.kind" s_SumWire_kind f fd) (hm : Meth K cc.SumWire "kind" f) (hb : Binds K fd ["self"] []) : Md P w0 K mg base CX0 1 cc.SumWire "kind" ["self"] (sp_SumWire_kind K cc) := by
  refine ⟨f, fd, FU.ok sc_SumWire_kind (fun vs H Q E h => ?_) (fun cdv A outer s H0 vs Q E hr h => ?_), hm, hb⟩
  · obtain ⟨_, _, _, _, rfl, _⟩ := h; rfl
  · obtain ⟨F0, v1, self1, R, rfl, wf, r1, hW, hQ⟩ := h
    have nd := sc_SumWire_kind.nd
    refine ⟨(tRet (tC (.str (PySem.Str.ofString "sum")))), (pss_one (ps_ret pe_str)), ?_⟩
    have w := Wf.id wf
    refine a_ret (v := (.str ((PySem.Str.ofString "sum")))) val_c ?_
    exact hQ _ hW _ _ w
abbrev s_SumWire_needs : Stmt := inClass (topS 21) 2
/-! SumWire.needs -/
def W_SumWire_needs (self1 : Str × List Str) (R : (List Str) → Prop) : Prop := R self1.2
def sp_SumWire_needs (K : PySem.W.Frag) (cc : Cz) : Sp := fun vs H Q _ => ∃ (F : Hp) (v1 : V) (self1 : Str × List Str) (R : (List Str) → Prop), vs = [v1] ∧ Ex F H ∧ (pO2 cc.SumWire "name" "wires" pS (pTL pS)).r F v1 self1 ∧ W_SumWire_needs self1 R ∧ ∀ z, R z → ∀ p F' H', Wf F H F' H' → XL pS H F' H' p z → Q (.ref p) H'
abbrev N_SumWire_needs : List Str := ["self"]
theorem sc_SumWire_needs : FnScope N_SumWire_needs ["self"] (defScope s_SumWire_needs) := ⟨rfl, rfl, rfl, by decide +kernel, rfl, by decide +kernel, by decide +kernel⟩
theorem ok_SumWire_needs {P : Program} {w0 : World} {K : PySem.W.Frag} {mg : Str → Option Value} {base : Heap} {f : Addr} {fd : FuncData} {cc : Cz} (T : Tz K mg cc) (FU : Fun K "needs" "SumWire.needs" s_SumWire_needs f fd) (hm : Meth K cc.SumWire "needs" f) (hb : Binds K fd ["self"] []) (n_list : mg "list" = none) : Md P w0 K mg base CX0 1 cc.SumWire "needs" ["self"] (sp_SumWire_needs K cc) := by
  refine ⟨f, fd, FU.ok sc_SumWire_needs (fun vs H Q E h => ?_) (fun cdv A outer s H0 vs Q E hr h => ?_), hm, hb⟩
  · obtain ⟨_, _, _, _, rfl, _⟩ := h; rfl
  · obtain ⟨F0, v1, self1, R, rfl, wf, r1, hW, hQ⟩ := h
    have nd := sc_SumWire_needs.nd
    refine ⟨(tRet (tCB (rListOf K) (tCons (tFld K (tVar 0) "wires") tNil))), (pss_one (ps_ret (pe_callTy call_list_of (by rfl) n_list PyProof.Rows.boot_list (pa_cons (pe_fld (pv 0) rfl) pa_nil)))), ?_⟩
    have w := Wf.id wf
    refine a_retE ?_
    refine e_cb ?_
    obtain ⟨v2, r2, fl1⟩ := fl_22 (K := K) T.cl_SumWire T.na_SumWire_wires r1 w.f
    refine a_val (v := v2) (fl1 (val_var rfl)) ?_
    refine a_nil ?_
    refine n_listXT r2 w ?_
    intro p1 H1 hp1 s1 x1
    replace r1 := Rep.mono _ s1.g r1
    replace r2 := Rep.mono _ s1.g r2
    replace w := w.tr s1
    exact hQ _ hW _ _ _ w x1
abbrev s_SumWire_bit : Stmt := inClass (topS 21) 3
/-! SumWire.bit -/
def W_SumWire_bit (self1 : Str × List Str) (known1 : List (Str × Nat)) (row1 : Nat) (state1 : Nat) (R : Nat → Prop) : Prop := forW self1.2 0 (fun name1 found1 nx1 bk1 => ∃ x1, valT known1 name1 = some x1 ∧ ∀ found2 : Nat, found2 = found1 ^^^ x1 → nx1 found2) fun found1 => R found1
def sp_SumWire_bit (K : PySem.W.Frag) (cc : Cz) : Sp := fun vs H Q _ => ∃ (F : Hp) (v1 : V) (self1 : Str × List Str) (v2 : V) (known1 : List (Str × Nat)) (row1 : Nat) (state1 : Nat) (R : Nat → Prop), vs = [v1, v2, (.int ((row1 : Nat) : Int)), (.int ((state1 : Nat) : Int))] ∧ Ex F H ∧ (pO2 cc.SumWire "name" "wires" pS (pTL pS)).r F v1 self1 ∧ (pD (κ := Str) pN).r F v2 known1 ∧ W_SumWire_bit self1 known1 row1 state1 R ∧ ∀ z, R z → ∀ F' H', Wf F H F' H' → Q (.int ((z : Nat) : Int)) H'
abbrev N_SumWire_bit : List Str := ["self", "known", "row", "state", "found", "name"]
theorem sc_SumWire_bit : FnScope N_SumWire_bit ["self", "known", "row", "state"] (defScope s_SumWire_bit) := ⟨rfl, rfl, rfl, by decide +kernel, rfl, by decide +kernel, by decide +kernel⟩
theorem ok_SumWire_bit {P : Program} {w0 : World} {K : PySem.W.Frag} {mg : Str → Option Value} {base : Heap} {f : Addr} {fd : FuncData} {cc : Cz} (T : Tz K mg cc) (FU : Fun K "bit" "SumWire.bit" s_SumWire_bit f fd) (hm : Meth K cc.SumWire "bit" f) (hb : Binds K fd ["self", "known", "row", "state"] []) : Md P w0 K mg base CX0 1 cc.SumWire "bit" ["self", "known", "row", "state"] (sp_SumWire_bit K cc) := by
  refine ⟨f, fd, FU.ok sc_SumWire_bit (fun vs H Q E h => ?_) (fun cdv A outer s H0 vs Q E hr h => ?_), hm, hb⟩
  · obtain ⟨_, _, _, _, _, _, _, _, rfl, _⟩ := h; rfl
  · obtain ⟨F0, v1, self1, v2, known1, row1, state1, R, rfl, wf, r1, r2, hW, hQ⟩ := h
    have nd := sc_SumWire_bit.nd
    refine ⟨(tSeq (tAsg (tC (.int 0)) (gName 4)) (tSeq (tFor (iTup K (tFld K (tVar 0) "wires")) (gName 5) (tAsg (tOp kXor (tVar 4) (tDGet (tVar 1) (tVar 5))) (gName 4))) (tRet (tVar 4)))), (pss_cons (ps_set (i := 4) nd rfl (Or.inl rfl) pe_int) (pss_cons (ps_for PassesOwn.never rfl (pi_tup (pe_fld (pv 0) rfl)) (pg_name (i := 5) nd rfl (Or.inl rfl)) (pss_one (ps_set (i := 4) nd rfl (Or.inl rfl) (pe_op op_xor (pv 4) (pe_dget (hu_of hr) (pv 1) (pv 5) (fun _ _ => rfl)))))) (pss_one (ps_ret (pv 4))))), ?_⟩
    have w := Wf.id wf
    refine q_sq fun N1 hN1 => ?_
    refine a_asg (v := (.int ((0 : Nat) : Int))) val_c ?_
    refine hN1 _ _ ?_
    refine q_sq fun N2 hN2 => ?_
    refine f_J ?_
    obtain ⟨v3, r3, fl1⟩ := fl_22 (K := K) T.cl_SumWire T.na_SumWire_wires r1 w.f
    refine e_val (v := v3) (fl1 (val_var rfl)) ?_
    refine src_tup r3 w.f (fun a1 T1 => ?_)
    refine w_forG (S := Nat) T1 (fun found1 σ' F' H' => ∃ (o1 : Option V), Wf F0 H0 F' H' ∧ Ex F0 F' ∧ σ' = [some v1, some v2, some (.int ((row1 : Nat) : Int)), some (.int ((state1 : Nat) : Int)), some (.int ((found1 : Nat) : Int)), o1]) hW ⟨_, w, Ex.rfl', rfl⟩ (fun s σ' F' H' hI => by obtain ⟨_, w', gx', _⟩ := hI; exact ⟨gx', w'.f⟩) w.f ?_ ?_
    · intro N3 Bk1 name1 u1 found1 σ' F1 H1 F2 H2 nx1 bk1 hI1 hx1 s2 ru1 hW hN3 hB1
      obtain ⟨o1, w, gx1, rfl⟩ := hI1
      have r1 := Rep.mono _ gx1 r1
      have r2 := Rep.mono _ gx1 r2
      have r3 := Rep.mono _ gx1 r3
      replace r1 := Rep.mono _ s2.g r1
      replace r2 := Rep.mono _ s2.g r2
      replace r3 := Rep.mono _ s2.g r3
      replace w := w.tr s2
      replace gx1 := Ex.tr gx1 s2.g
      obtain rfl : u1 = (.str (name1)) := ru1
      refine g_name ?_
      obtain ⟨x1, hx2, hW⟩ := hW
      obtain ⟨_, rfl, ix1⟩ := ix_D r2 w.f hx2
      obtain ⟨found2, efound1⟩ : ∃ found2 : Nat, found2 = found1 ^^^ x1 := ⟨_, rfl⟩
      replace hW := hW found2 efound1
      refine a_asg (v := (.int ((found2 : Nat) : Int))) (v_eq (vn_xor (val_var rfl) (ix1 (val_var rfl) (val_var rfl))) (by rw [efound1])) ?_
      exact hN3 found2 _ _ _ ⟨_, w, gx1, rfl⟩ hW
    · intro found1 σ' F3 H3 hI2 hW
      obtain ⟨o1, w, gx2, rfl⟩ := hI2
      have r1 := Rep.mono _ gx2 r1
      have r2 := Rep.mono _ gx2 r2
      have r3 := Rep.mono _ gx2 r3
      refine hN2 _ _ ?_
      refine a_ret (v := (.int ((found1 : Nat) : Int))) (val_var rfl) ?_
      exact hQ _ hW _ _ w
abbrev s_SumWire_hang : Stmt := inClass (topS 21) 4
/-! SumWire.hang -/
def W_SumWire_hang (self1 : Str × List Str) (known1 : List (Str × (Nat × Nat))) (R : (Nat × Nat) → Prop) : Prop := forW self1.2 (0, 0) (fun name1 (stores1, inputs1) nx1 bk1 => ∃ x1, valT known1 name1 = some x1 ∧ ∃ x2, valT known1 name1 = some x2 ∧ ∀ stores2 : Nat, stores2 = stores1 ^^^ x2.1 → ∃ x3, valT known1 name1 = some x3 ∧ ∃ x4, valT known1 name1 = some x4 ∧ ∀ inputs2 : Nat, inputs2 = inputs1 ^^^ x4.2 → nx1 (stores2, inputs2)) fun (stores1, inputs1) => R (stores1, inputs1)
def sp_SumWire_hang (K : PySem.W.Frag) (cc : Cz) : Sp := fun vs H Q _ => ∃ (F : Hp) (v1 : V) (self1 : Str × List Str) (v2 : V) (known1 : List (Str × (Nat × Nat))) (R : (Nat × Nat) → Prop), vs = [v1, v2] ∧ Ex F H ∧ (pO2 cc.SumWire "name" "wires" pS (pTL pS)).r F v1 self1 ∧ (pD (κ := Str) (pT2 pN pN)).r F v2 known1 ∧ W_SumWire_hang self1 known1 R ∧ ∀ z, R z → ∀ v F' H', Wf F H F' H' → (pT2 pN pN).r F' v z → Q v H'
abbrev N_SumWire_hang : List Str := ["self", "known", "stores", "inputs", "name"]
theorem sc_SumWire_hang : FnScope N_SumWire_hang ["self", "known"] (defScope s_SumWire_hang) := ⟨rfl, rfl, rfl, by decide +kernel, rfl, by decide +kernel, by decide +kernel⟩
theorem ok_SumWire_hang {P : Program} {w0 : World} {K : PySem.W.Frag} {mg : Str → Option Value} {base : Heap} {f : Addr} {fd : FuncData} {cc : Cz} (T : Tz K mg cc) (FU : Fun K "hang" "SumWire.hang" s_SumWire_hang f fd) (hm : Meth K cc.SumWire "hang" f) (hb : Binds K fd ["self", "known"] []) : Md P w0 K mg base CX0 1 cc.SumWire "hang" ["self", "known"] (sp_SumWire_hang K cc) := by
  refine ⟨f, fd, FU.ok sc_SumWire_hang (fun vs H Q E h => ?_) (fun cdv A outer s H0 vs Q E hr h => ?_), hm, hb⟩
  · obtain ⟨_, _, _, _, _, _, rfl, _⟩ := h; rfl
  · obtain ⟨F0, v1, self1, v2, known1, R, rfl, wf, r1, r2, hW, hQ⟩ := h
    have nd := sc_SumWire_hang.nd
    refine ⟨(tSeq (tAsg (tC (.int 0)) (gName 2)) (tSeq (tAsg (tC (.int 0)) (gName 3)) (tSeq (tFor (iTup K (tFld K (tVar 0) "wires")) (gName 4) (tSeq (tAsg (tOp kXor (tVar 2) (tOp (L2.rIxT K) (tDGet (tVar 1) (tVar 4)) (tC (.int 0)))) (gName 2)) (tAsg (tOp kXor (tVar 3) (tOp (L2.rIxT K) (tDGet (tVar 1) (tVar 4)) (tC (.int 1)))) (gName 3)))) (tRet (tTup (tCons (tVar 2) (tCons (tVar 3) tNil))))))), (pss_cons (ps_set (i := 2) nd rfl (Or.inl rfl) pe_int) (pss_cons (ps_set (i := 3) nd rfl (Or.inl rfl) pe_int) (pss_cons (ps_for PassesOwn.never rfl (pi_tup (pe_fld (pv 0) rfl)) (pg_name (i := 4) nd rfl (Or.inl rfl)) (pss_cons (ps_set (i := 2) nd rfl (Or.inl rfl) (pe_op op_xor (pv 2) (pe_ix ix_tup (pe_dget (hu_of hr) (pv 1) (pv 4) (fun _ _ => rfl)) pe_int (fun _ _ => rfl)))) (pss_one (ps_set (i := 3) nd rfl (Or.inl rfl) (pe_op op_xor (pv 3) (pe_ix ix_tup (pe_dget (hu_of hr) (pv 1) (pv 4) (fun _ _ => rfl)) pe_int (fun _ _ => rfl))))))) (pss_one (ps_ret (pe_tup (pa_cons (pv 2) (pa_cons (pv 3) pa_nil)))))))), ?_⟩
    have w := Wf.id wf
    refine q_sq fun N1 hN1 => ?_
    refine a_asg (v := (.int ((0 : Nat) : Int))) val_c ?_
    refine hN1 _ _ ?_
    refine q_sq fun N2 hN2 => ?_
    refine a_asg (v := (.int ((0 : Nat) : Int))) val_c ?_
    refine hN2 _ _ ?_
    refine q_sq fun N3 hN3 => ?_
    refine f_J ?_
    obtain ⟨v3, r3, fl1⟩ := fl_22 (K := K) T.cl_SumWire T.na_SumWire_wires r1 w.f
    refine e_val (v := v3) (fl1 (val_var rfl)) ?_
    refine src_tup r3 w.f (fun a1 T1 => ?_)
    refine w_forG (S := Nat × Nat) T1 (fun s σ' F' H' => match s with | (stores1, inputs1) => ∃ (o1 : Option V), Wf F0 H0 F' H' ∧ Ex F0 F' ∧ σ' = [some v1, some v2, some (.int ((stores1 : Nat) : Int)), some (.int ((inputs1 : Nat) : Int)), o1]) hW ⟨_, w, Ex.rfl', rfl⟩ (fun s σ' F' H' hI => by obtain ⟨stores1, inputs1⟩ := s; obtain ⟨_, w', gx', _⟩ := hI; exact ⟨gx', w'.f⟩) w.f ?_ ?_
    · intro N4 Bk1 name1 u1 s1 σ' F1 H1 F2 H2 nx1 bk1 hI1 hx1 s2 ru1 hW hN4 hB1
      obtain ⟨stores1, inputs1⟩ := s1
      obtain ⟨o1, w, gx1, rfl⟩ := hI1
      have r1 := Rep.mono _ gx1 r1
      have r2 := Rep.mono _ gx1 r2
      have r3 := Rep.mono _ gx1 r3
      replace r1 := Rep.mono _ s2.g r1
      replace r2 := Rep.mono _ s2.g r2
      replace r3 := Rep.mono _ s2.g r3
      replace w := w.tr s2
      replace gx1 := Ex.tr gx1 s2.g
      obtain rfl : u1 = (.str (name1)) := ru1
      refine g_name ?_
      refine q_sq fun N5 hN5 => ?_
      obtain ⟨x1, hx2, hW⟩ := hW
      obtain ⟨v4, r4, ix1⟩ := ix_D r2 w.f hx2
      obtain ⟨x2, hx3, hW⟩ := hW
      obtain ⟨v5, r5, ix2⟩ := ix_D r2 w.f hx3
      obtain ⟨_, rfl, ix3⟩ := ix_2a (K := K) r5 w.f
      obtain ⟨stores2, estores1⟩ : ∃ stores2 : Nat, stores2 = stores1 ^^^ x2.1 := ⟨_, rfl⟩
      replace hW := hW stores2 estores1
      refine a_asg (v := (.int ((stores2 : Nat) : Int))) (v_eq (vn_xor (val_var rfl) (ix3 (ix2 (val_var rfl) (val_var rfl)) val_c)) (by rw [estores1])) ?_
      refine hN5 _ _ ?_
      obtain ⟨x3, hx4, hW⟩ := hW
      obtain ⟨v7, r7, ix4⟩ := ix_D r2 w.f hx4
      obtain ⟨x4, hx5, hW⟩ := hW
      obtain ⟨v8, r8, ix5⟩ := ix_D r2 w.f hx5
      obtain ⟨_, rfl, ix6⟩ := ix_2b (K := K) r8 w.f
      obtain ⟨inputs2, einputs1⟩ : ∃ inputs2 : Nat, inputs2 = inputs1 ^^^ x4.2 := ⟨_, rfl⟩
      replace hW := hW inputs2 einputs1
      refine a_asg (v := (.int ((inputs2 : Nat) : Int))) (v_eq (vn_xor (val_var rfl) (ix6 (ix5 (val_var rfl) (val_var rfl)) val_c)) (by rw [einputs1])) ?_
      exact hN4 (stores2, inputs2) _ _ _ ⟨_, w, gx1, rfl⟩ hW
    · intro s3 σ' F3 H3 hI2 hW
      obtain ⟨stores1, inputs1⟩ := s3
      obtain ⟨o1, w, gx2, rfl⟩ := hI2
      have r1 := Rep.mono _ gx2 r1
      have r2 := Rep.mono _ gx2 r2
      have r3 := Rep.mono _ gx2 r3
      refine hN3 _ _ ?_
      refine a_retE ?_
      refine e_tup ?_
      refine a_val (v := (.int ((stores1 : Nat) : Int))) (val_var rfl) ?_
      refine a_val (v := (.int ((inputs1 : Nat) : Int))) (val_var rfl) ?_
      refine a_nil ?_
      refine n_tup2 (e := pN) (f := pN) (x := stores1) (y := inputs1) rfl rfl w ?_
      intro p1 F4 H4 s4 r10
      replace r1 := Rep.mono _ s4.g r1
      replace r2 := Rep.mono _ s4.g r2
      replace w := w.tr s4
      replace gx2 := Ex.tr gx2 s4.g
      exact hQ _ hW _ _ _ w r10
abbrev s_StoreWire___init__ : Stmt := inClass (topS 22) 0
/-! StoreWire.__init__ -/
def W_StoreWire___init__ (name1 : Str) (wire1 : Str) (number1 : Nat) (R : (Str × Str × Nat) → Prop) : Prop := R (name1, wire1, number1)
def sp_StoreWire___init__ (K : PySem.W.Frag) (cc : Cz) : Sp := fun vs H Q _ => ∃ (F : Hp) (ob dx : Addr) (name1 : Str) (wire1 : Str) (number1 : Nat) (R : (Str × Str × Nat) → Prop), vs = [(.ref ob), (.str (name1)), (.str (wire1)), (.int ((number1 : Nat) : Int))] ∧ H ob = some (.ins cc.StoreWire dx []) ∧ F ob = none ∧ Ex F H ∧ W_StoreWire___init__ name1 wire1 number1 R ∧ ∀ z, R z → ∀ F' H', Wf F (wo H ob) F' H' → (pO3 cc.StoreWire "name" "wire" "number" pS pS pN).r F' (.ref ob) z → Q .non H'
abbrev N_StoreWire___init__ : List Str := ["self", "name", "wire", "number"]
theorem sc_StoreWire___init__ : FnScope N_StoreWire___init__ ["self", "name", "wire", "number"] (defScope s_StoreWire___init__) := ⟨rfl, rfl, rfl, by decide +kernel, rfl, by decide +kernel, by decide +kernel⟩
theorem ok_StoreWire___init__ {P : Program} {w0 : World} {K : PySem.W.Frag} {mg : Str → Option Value} {base : Heap} {f : Addr} {fd : FuncData} {cc : Cz} (T : Tz K mg cc) (FU : Fun K "__init__" "StoreWire.__init__" s_StoreWire___init__ f fd) (hm : Mk K cc.StoreWire f) (hg : mg "StoreWire" = some (.ref cc.StoreWire)) (hb : Binds K fd ["self", "name", "wire", "number"] []) (c_Wire___init__ : Cf P w0 K mg base CX0 1 cc.Wire "__init__" ["self", "name"] (sp_base1 K "name")) : Nw P w0 K mg base CX0 3 cc.StoreWire "StoreWire" ["self", "name", "wire", "number"] (sp_StoreWire___init__ K cc) := by
  refine ⟨f, fd, FU.ok sc_StoreWire___init__ (fun vs H Q E h => ?_) (fun cdv A outer s H0 vs Q E hr h => ?_), hm, hg, hb⟩
  · obtain ⟨_, _, _, _, _, _, _, rfl, _⟩ := h; rfl
  · obtain ⟨F0, ob, dx, name1, wire1, number1, R, rfl, hob, nob, wf, hW, hQ⟩ := h
    have nd := sc_StoreWire___init__.nd
    refine ⟨(tSeq (tDrop (tCf cc.Wire (sp_base1 K "name") E0 (tC (.ref cc.Wire)) (tCons (tVar 0) (tCons (tVar 1) tNil)))) (tSeq (sFld K (tVar 0) (tVar 2) "wire") (sFld K (tVar 0) (tVar 3) "number"))), (pss_cons (ps_expr (pe_cf c_Wire___init__ T.cr_Wire (hr.mono (by decide)) (pe_glob (by rfl) T.g_Wire rfl) (pa_cons (pv 0) (pa_cons (pv 1) pa_nil)))) (pss_cons (ps_fld (pv 0) (pv 2) rfl) (pss_one (ps_fld (pv 0) (pv 3) rfl)))), ?_⟩
    have xs := Xc.start nob hob
    have w := Wf.start wf nob
    generalize hH0 : wo H0 ob = Hb at xs w hQ
    refine q_sq fun N1 hN1 => ?_
    refine a_dropE ?_
    refine e_cf ?_
    refine e_val (v := .ref cc.Wire) val_c ?_
    refine ⟨rfl, ?_⟩
    refine a_val (v := (.ref ob)) (val_var rfl) ?_
    refine a_val (v := (.str (name1))) (val_var rfl) ?_
    refine a_nil ?_
    refine n_base1 T.cl_StoreWire T.na_StoreWire_name xs w (fun H1 w1 x1 kp1 => ?_)
    replace w := w1
    refine hN1 _ _ ?_
    refine q_sq fun N2 hN2 => ?_
    refine e_fld ?_
    refine e_val (v := (.str (wire1))) (val_var rfl) ?_
    refine a_fld T.cl_StoreWire T.na_StoreWire_wire x1 w (show 1 < 1000 from by decide) (val_var rfl) (fun H2 w2 x2 kp2 => ?_)
    replace w := w2
    replace x2 : Xc Hb F0 H2 ob (.ins cc.StoreWire dx [("name", (.str (name1))), ("wire", (.str (wire1)))]) := Xc.cast x2 ((put_ne (by decide +kernel)).trans (congrArg _ rfl))
    refine hN2 _ _ ?_
    refine e_fld ?_
    refine e_val (v := (.int ((number1 : Nat) : Int))) (val_var rfl) ?_
    refine a_fld T.cl_StoreWire T.na_StoreWire_number x2 w (show 2 < 1000 from by decide) (val_var rfl) (fun H3 w3 x3 kp3 => ?_)
    replace w := w3
    replace x3 : Xc Hb F0 H3 ob (.ins cc.StoreWire dx [("name", (.str (name1))), ("wire", (.str (wire1))), ("number", (.int ((number1 : Nat) : Int)))]) := Xc.cast x3 ((put_ne (by decide +kernel)).trans (congrArg _ ((put_ne (by decide +kernel)).trans (congrArg _ rfl))))
    obtain ⟨F1, w4, g1, h1⟩ := x3.frzE w
    exact hQ _ hW _ _ w4 ⟨ob, dx, _, rfl, h1, _, _, _, rfl, rfl, rfl, rfl⟩
abbrev s_StoreWire_kind : Stmt := inClass (topS 22) 1
/-! StoreWire.kind -/
def W_StoreWire_kind (self1 : Str × Str × Nat) (R : Str → Prop) : Prop := R (PySem.Str.ofString "store")
def sp_StoreWire_kind (K : PySem.W.Frag) (cc : Cz) : Sp := fun vs H Q _ => ∃ (F : Hp) (v1 : V) (self1 : Str × Str × Nat) (R : Str → Prop), vs = [v1] ∧ Ex F H ∧ (pO3 cc.StoreWire "name" "wire" "number" pS pS pN).r F v1 self1 ∧ W_StoreWire_kind self1 R ∧ ∀ z, R z → ∀ F' H', Wf F H F' H' → Q (.str (z)) H'
abbrev N_StoreWire_kind : List Str := ["self"]
theorem sc_StoreWire_kind : FnScope N_StoreWire_kind ["self"] (defScope s_StoreWire_kind) := ⟨rfl, rfl, rfl, by decide +kernel, rfl, by decide +kernel, by decide +kernel⟩
theorem ok_StoreWire_kind {P : Program} {w0 : World} {K : PySem.W.Frag} {mg : Str → Option Value} {base : Heap} {f : Addr} {fd : FuncData} {cc : Cz} (T : Tz K mg cc) (FU : Fun K "kind" "StoreWire.kind" s_StoreWire_kind f fd) (hm : Meth K cc.StoreWire "kind" f) (hb : Binds K fd ["self"] []) : Md P w0 K mg base CX0 1 cc.StoreWire "kind" ["self"] (sp_StoreWire_kind K cc) := by
  refine ⟨f, fd, FU.ok sc_StoreWire_kind (fun vs H Q E h => ?_) (fun cdv A outer s H0 vs Q E hr h => ?_), hm, hb⟩
  · obtain ⟨_, _, _, _, rfl, _⟩ := h; rfl
  · obtain ⟨F0, v1, self1, R, rfl, wf, r1, hW, hQ⟩ := h
    have nd := sc_StoreWire_kind.nd
    refine ⟨(tRet (tC (.str (PySem.Str.ofString "store")))), (pss_one (ps_ret pe_str)), ?_⟩
    have w := Wf.id wf
    refine a_ret (v := (.str ((PySem.Str.ofString "store")))) val_c ?_
    exact hQ _ hW _ _ w
abbrev s_StoreWire_bit : Stmt := inClass (topS 22) 2
/-! StoreWire.bit -/
def W_StoreWire_bit (self1 : Str × Str × Nat) (known1 : List (Str × Nat)) (row1 : Nat) (state1 : Nat) (R : Nat → Prop) : Prop := R ((state1 >>> self1.2.2) &&& 1)
def sp_StoreWire_bit (K : PySem.W.Frag) (cc : Cz) : Sp := fun vs H Q _ => ∃ (F : Hp) (v1 : V) (self1 : Str × Str × Nat) (v2 : V) (known1 : List (Str × Nat)) (row1 : Nat) (state1 : Nat) (R : Nat → Prop), vs = [v1, v2, (.int ((row1 : Nat) : Int)), (.int ((state1 : Nat) : Int))] ∧ Ex F H ∧ (pO3 cc.StoreWire "name" "wire" "number" pS pS pN).r F v1 self1 ∧ (pD (κ := Str) pN).r F v2 known1 ∧ W_StoreWire_bit self1 known1 row1 state1 R ∧ ∀ z, R z → ∀ F' H', Wf F H F' H' → Q (.int ((z : Nat) : Int)) H'
abbrev N_StoreWire_bit : List Str := ["self", "known", "row", "state"]
theorem sc_StoreWire_bit : FnScope N_StoreWire_bit ["self", "known", "row", "state"] (defScope s_StoreWire_bit) := ⟨rfl, rfl, rfl, by decide +kernel, rfl, by decide +kernel, by decide +kernel⟩
theorem ok_StoreWire_bit {P : Program} {w0 : World} {K : PySem.W.Frag} {mg : Str → Option Value} {base : Heap} {f : Addr} {fd : FuncData} {cc : Cz} (T : Tz K mg cc) (FU : Fun K "bit" "StoreWire.bit" s_StoreWire_bit f fd) (hm : Meth K cc.StoreWire "bit" f) (hb : Binds K fd ["self", "known", "row", "state"] []) : Md P w0 K mg base CX0 1 cc.StoreWire "bit" ["self", "known", "row", "state"] (sp_StoreWire_bit K cc) := by
  refine ⟨f, fd, FU.ok sc_StoreWire_bit (fun vs H Q E h => ?_) (fun cdv A outer s H0 vs Q E hr h => ?_), hm, hb⟩
  · obtain ⟨_, _, _, _, _, _, _, _, rfl, _⟩ := h; rfl
  · obtain ⟨F0, v1, self1, v2, known1, row1, state1, R, rfl, wf, r1, r2, hW, hQ⟩ := h
    have nd := sc_StoreWire_bit.nd
    refine ⟨(tRet (tOp kAnd (tOp kShr (tVar 3) (tFld K (tVar 0) "number")) (tC (.int 1)))), (pss_one (ps_ret (pe_op op_and (pe_op op_shr (pv 3) (pe_fld (pv 0) rfl)) pe_int))), ?_⟩
    have w := Wf.id wf
    obtain ⟨_, rfl, fl1⟩ := fl_33 (K := K) T.cl_StoreWire T.na_StoreWire_number r1 w.f
    refine a_ret (v := (.int (((state1 >>> self1.2.2) &&& 1 : Nat) : Int))) (vn_and (vn_shr (val_var rfl) (fl1 (val_var rfl))) val_c) ?_
    exact hQ _ hW _ _ w
abbrev s_StoreWire_hang : Stmt := inClass (topS 22) 3
/-! StoreWire.hang -/
def W_StoreWire_hang (self1 : Str × Str × Nat) (known1 : List (Str × (Nat × Nat))) (R : (Nat × Nat) → Prop) : Prop := (self1.2.2 < 100000000) ∧ R (2 ^ self1.2.2, 0)
def sp_StoreWire_hang (K : PySem.W.Frag) (cc : Cz) : Sp := fun vs H Q _ => ∃ (F : Hp) (v1 : V) (self1 : Str × Str × Nat) (v2 : V) (known1 : List (Str × (Nat × Nat))) (R : (Nat × Nat) → Prop), vs = [v1, v2] ∧ Ex F H ∧ (pO3 cc.StoreWire "name" "wire" "number" pS pS pN).r F v1 self1 ∧ (pD (κ := Str) (pT2 pN pN)).r F v2 known1 ∧ W_StoreWire_hang self1 known1 R ∧ ∀ z, R z → ∀ v F' H', Wf F H F' H' → (pT2 pN pN).r F' v z → Q v H'
abbrev N_StoreWire_hang : List Str := ["self", "known"]
theorem sc_StoreWire_hang : FnScope N_StoreWire_hang ["self", "known"] (defScope s_StoreWire_hang) := ⟨rfl, rfl, rfl, by decide +kernel, rfl, by decide +kernel, by decide +kernel⟩
theorem ok_StoreWire_hang {P : Program} {w0 : World} {K : PySem.W.Frag} {mg : Str → Option Value} {base : Heap} {f : Addr} {fd : FuncData} {cc : Cz} (T : Tz K mg cc) (FU : Fun K "hang" "StoreWire.hang" s_StoreWire_hang f fd) (hm : Meth K cc.StoreWire "hang" f) (hb : Binds K fd ["self", "known"] []) : Md P w0 K mg base CX0 1 cc.StoreWire "hang" ["self", "known"] (sp_StoreWire_hang K cc) := by
  refine ⟨f, fd, FU.ok sc_StoreWire_hang (fun vs H Q E h => ?_) (fun cdv A outer s H0 vs Q E hr h => ?_), hm, hb⟩
  · obtain ⟨_, _, _, _, _, _, rfl, _⟩ := h; rfl
  · obtain ⟨F0, v1, self1, v2, known1, R, rfl, wf, r1, r2, hW, hQ⟩ := h
    have nd := sc_StoreWire_hang.nd
    refine ⟨(tRet (tTup (tCons (tOp kShl (tC (.int 1)) (tFld K (tVar 0) "number")) (tCons (tC (.int 0)) tNil)))), (pss_one (ps_ret (pe_tup (pa_cons (pe_op op_shlW pe_int (pe_fld (pv 0) rfl)) (pa_cons pe_int pa_nil))))), ?_⟩
    have w := Wf.id wf
    refine a_retE ?_
    refine e_tup ?_
    obtain ⟨_, rfl, fl1⟩ := fl_33 (K := K) T.cl_StoreWire T.na_StoreWire_number r1 w.f
    obtain ⟨c1, hW⟩ := hW
    refine a_val (v := (.int ((2 ^ self1.2.2 : Nat) : Int))) (vn_one val_c (fl1 (val_var rfl)) c1) ?_
    refine a_val (v := (.int ((0 : Nat) : Int))) val_c ?_
    refine a_nil ?_
    refine n_tup2 (e := pN) (f := pN) (x := 2 ^ self1.2.2) (y := 0) rfl rfl w ?_
    intro p1 F1 H1 s1 r4
    replace r1 := Rep.mono _ s1.g r1
    replace r2 := Rep.mono _ s1.g r2
    replace w := w.tr s1
    exact hQ _ hW _ _ _ w r4
/-! kind, of any wire -/
def W_P_kind (self1 : WireV)  (R : Str → Prop) : Prop := match self1 with | .inl y => W_InWire_kind y R | .inr (.inl y) => W_SumWire_kind y R | .inr (.inr y) => W_StoreWire_kind y R
def U_P_kind (K : PySem.W.Frag) (cc : Cz) : List (Addr × Sp) := [(cc.InWire, sp_InWire_kind K cc), (cc.SumWire, sp_SumWire_kind K cc), (cc.StoreWire, sp_StoreWire_kind K cc)]
def sp_P_kind (K : PySem.W.Frag) (cc : Cz) (self1 : WireV) : Sp := fun vs H Q _ => ∃ (F : Hp) (v1 : V)  (R : Str → Prop), vs = [v1] ∧ Ex F H ∧ (pW cc.InWire cc.SumWire cc.StoreWire).r F v1 self1 ∧ W_P_kind self1 R ∧ ∀ z, R z → ∀ F' H', Wf F H F' H' → Q (.str (z)) H'
theorem u_P_kind {K : PySem.W.Frag} {cc : Cz} {F1 H1 H2 : Hp} {x : WireV} {v : V} {vs : List V} {Q : VK} {E : XK} (r : (pW cc.InWire cc.SumWire cc.StoreWire).r F1 v x) (h : Ex F1 H1) (k : sp_P_kind K cc x (v :: vs) H2 Q E) : ∀ C, IsC H1 v C → ∃ sp, (C, sp) ∈ U_P_kind K cc ∧ sp (v :: vs) H2 Q E := by
  intro C c
  rw [IsC.eq r h c]
  obtain ⟨F, v1, R, e, wf, r1, hW, hQ⟩ := k
  match x, r1, hW with
  | .inl y, r1, hW => exact ⟨sp_InWire_kind K cc, List.mem_cons_self .., F, v1, y, R, e, wf, r1, hW, hQ⟩
  | .inr (.inl y), r1, hW => exact ⟨sp_SumWire_kind K cc, List.mem_cons_of_mem _ (List.mem_cons_self ..), F, v1, y, R, e, wf, r1, hW, hQ⟩
  | .inr (.inr y), r1, hW => exact ⟨sp_StoreWire_kind K cc, List.mem_cons_of_mem _ (List.mem_cons_of_mem _ (List.mem_cons_self ..)), F, v1, y, R, e, wf, r1, hW, hQ⟩
theorem ok_P_kind {P : Program} {w0 : World} {K : PySem.W.Frag} {mg : Str → Option Value} {base : Heap} {cc : Cz} (T : Tz K mg cc) (c_InWire : Md P w0 K mg base CX0 1 cc.InWire "kind" ["self"] (sp_InWire_kind K cc)) (c_SumWire : Md P w0 K mg base CX0 1 cc.SumWire "kind" ["self"] (sp_SumWire_kind K cc)) (c_StoreWire : Md P w0 K mg base CX0 1 cc.StoreWire "kind" ["self"] (sp_StoreWire_kind K cc)) : MdU P w0 K mg base CX0 1 (U_P_kind K cc) "kind" ["self"] := MdU.three (c_InWire.mono (by decide)) T.cl_InWire (c_SumWire.mono (by decide)) T.cl_SumWire (c_StoreWire.mono (by decide)) T.cl_StoreWire
/-! needs, of any wire -/
def W_P_needs (self1 : WireV)  (R : (List Str) → Prop) : Prop := match self1 with | .inl y => W_Wire_needs (.inl y) R | .inr (.inl y) => W_SumWire_needs y R | .inr (.inr y) => W_Wire_needs (.inr (.inr y)) R
def U_P_needs (K : PySem.W.Frag) (cc : Cz) : List (Addr × Sp) := [(cc.InWire, sp_Wire_needs K cc), (cc.SumWire, sp_SumWire_needs K cc), (cc.StoreWire, sp_Wire_needs K cc)]
def sp_P_needs (K : PySem.W.Frag) (cc : Cz) (self1 : WireV) : Sp := fun vs H Q _ => ∃ (F : Hp) (v1 : V)  (R : (List Str) → Prop), vs = [v1] ∧ Ex F H ∧ (pW cc.InWire cc.SumWire cc.StoreWire).r F v1 self1 ∧ W_P_needs self1 R ∧ ∀ z, R z → ∀ p F' H', Wf F H F' H' → XL pS H F' H' p z → Q (.ref p) H'
theorem u_P_needs {K : PySem.W.Frag} {cc : Cz} {F1 H1 H2 : Hp} {x : WireV} {v : V} {vs : List V} {Q : VK} {E : XK} (r : (pW cc.InWire cc.SumWire cc.StoreWire).r F1 v x) (h : Ex F1 H1) (k : sp_P_needs K cc x (v :: vs) H2 Q E) : ∀ C, IsC H1 v C → ∃ sp, (C, sp) ∈ U_P_needs K cc ∧ sp (v :: vs) H2 Q E := by
  intro C c
  rw [IsC.eq r h c]
  obtain ⟨F, v1, R, e, wf, r1, hW, hQ⟩ := k
  match x, r1, hW with
  | .inl y, r1, hW => exact ⟨sp_Wire_needs K cc, List.mem_cons_self .., F, v1, (.inl y), R, e, wf, r1, hW, hQ⟩
  | .inr (.inl y), r1, hW => exact ⟨sp_SumWire_needs K cc, List.mem_cons_of_mem _ (List.mem_cons_self ..), F, v1, y, R, e, wf, r1, hW, hQ⟩
  | .inr (.inr y), r1, hW => exact ⟨sp_Wire_needs K cc, List.mem_cons_of_mem _ (List.mem_cons_of_mem _ (List.mem_cons_self ..)), F, v1, (.inr (.inr y)), R, e, wf, r1, hW, hQ⟩
theorem ok_P_needs {P : Program} {w0 : World} {K : PySem.W.Frag} {mg : Str → Option Value} {base : Heap} {cc : Cz} (T : Tz K mg cc) (c_InWire : Md P w0 K mg base CX0 1 cc.InWire "needs" ["self"] (sp_Wire_needs K cc)) (c_SumWire : Md P w0 K mg base CX0 1 cc.SumWire "needs" ["self"] (sp_SumWire_needs K cc)) (c_StoreWire : Md P w0 K mg base CX0 1 cc.StoreWire "needs" ["self"] (sp_Wire_needs K cc)) : MdU P w0 K mg base CX0 1 (U_P_needs K cc) "needs" ["self"] := MdU.three (c_InWire.mono (by decide)) T.cl_InWire (c_SumWire.mono (by decide)) T.cl_SumWire (c_StoreWire.mono (by decide)) T.cl_StoreWire
/-! bit, of any wire -/
def W_P_bit (self1 : WireV) (known1 : List (Str × Nat)) (row1 : Nat) (state1 : Nat) (R : Nat → Prop) : Prop := match self1 with | .inl y => W_InWire_bit y known1 row1 state1 R | .inr (.inl y) => W_SumWire_bit y known1 row1 state1 R | .inr (.inr y) => W_StoreWire_bit y known1 row1 state1 R
def U_P_bit (K : PySem.W.Frag) (cc : Cz) : List (Addr × Sp) := [(cc.InWire, sp_InWire_bit K cc), (cc.SumWire, sp_SumWire_bit K cc), (cc.StoreWire, sp_StoreWire_bit K cc)]
def sp_P_bit (K : PySem.W.Frag) (cc : Cz) (self1 : WireV) : Sp := fun vs H Q _ => ∃ (F : Hp) (v1 : V) (v2 : V) (known1 : List (Str × Nat)) (row1 : Nat) (state1 : Nat) (R : Nat → Prop), vs = [v1, v2, (.int ((row1 : Nat) : Int)), (.int ((state1 : Nat) : Int))] ∧ Ex F H ∧ (pW cc.InWire cc.SumWire cc.StoreWire).r F v1 self1 ∧ (pD (κ := Str) pN).r F v2 known1 ∧ W_P_bit self1 known1 row1 state1 R ∧ ∀ z, R z → ∀ F' H', Wf F H F' H' → Q (.int ((z : Nat) : Int)) H'
theorem u_P_bit {K : PySem.W.Frag} {cc : Cz} {F1 H1 H2 : Hp} {x : WireV} {v : V} {vs : List V} {Q : VK} {E : XK} (r : (pW cc.InWire cc.SumWire cc.StoreWire).r F1 v x) (h : Ex F1 H1) (k : sp_P_bit K cc x (v :: vs) H2 Q E) : ∀ C, IsC H1 v C → ∃ sp, (C, sp) ∈ U_P_bit K cc ∧ sp (v :: vs) H2 Q E := by
  intro C c
  rw [IsC.eq r h c]
  obtain ⟨F, v1, v2, known1, row1, state1, R, e, wf, r1, r2, hW, hQ⟩ := k
  match x, r1, hW with
  | .inl y, r1, hW => exact ⟨sp_InWire_bit K cc, List.mem_cons_self .., F, v1, y, v2, known1, row1, state1, R, e, wf, r1, r2, hW, hQ⟩
  | .inr (.inl y), r1, hW => exact ⟨sp_SumWire_bit K cc, List.mem_cons_of_mem _ (List.mem_cons_self ..), F, v1, y, v2, known1, row1, state1, R, e, wf, r1, r2, hW, hQ⟩
  | .inr (.inr y), r1, hW => exact ⟨sp_StoreWire_bit K cc, List.mem_cons_of_mem _ (List.mem_cons_of_mem _ (List.mem_cons_self ..)), F, v1, y, v2, known1, row1, state1, R, e, wf, r1, r2, hW, hQ⟩
theorem ok_P_bit {P : Program} {w0 : World} {K : PySem.W.Frag} {mg : Str → Option Value} {base : Heap} {cc : Cz} (T : Tz K mg cc) (c_InWire : Md P w0 K mg base CX0 1 cc.InWire "bit" ["self", "known", "row", "state"] (sp_InWire_bit K cc)) (c_SumWire : Md P w0 K mg base CX0 1 cc.SumWire "bit" ["self", "known", "row", "state"] (sp_SumWire_bit K cc)) (c_StoreWire : Md P w0 K mg base CX0 1 cc.StoreWire "bit" ["self", "known", "row", "state"] (sp_StoreWire_bit K cc)) : MdU P w0 K mg base CX0 1 (U_P_bit K cc) "bit" ["self", "known", "row", "state"] := MdU.three (c_InWire.mono (by decide)) T.cl_InWire (c_SumWire.mono (by decide)) T.cl_SumWire (c_StoreWire.mono (by decide)) T.cl_StoreWire
/-! hang, of any wire -/
def W_P_hang (self1 : WireV) (known1 : List (Str × (Nat × Nat))) (R : (Nat × Nat) → Prop) : Prop := match self1 with | .inl y => W_InWire_hang y known1 R | .inr (.inl y) => W_SumWire_hang y known1 R | .inr (.inr y) => W_StoreWire_hang y known1 R
def U_P_hang (K : PySem.W.Frag) (cc : Cz) : List (Addr × Sp) := [(cc.InWire, sp_InWire_hang K cc), (cc.SumWire, sp_SumWire_hang K cc), (cc.StoreWire, sp_StoreWire_hang K cc)]
def sp_P_hang (K : PySem.W.Frag) (cc : Cz) (self1 : WireV) : Sp := fun vs H Q _ => ∃ (F : Hp) (v1 : V) (v2 : V) (known1 : List (Str × (Nat × Nat))) (R : (Nat × Nat) → Prop), vs = [v1, v2] ∧ Ex F H ∧ (pW cc.InWire cc.SumWire cc.StoreWire).r F v1 self1 ∧ (pD (κ := Str) (pT2 pN pN)).r F v2 known1 ∧ W_P_hang self1 known1 R ∧ ∀ z, R z → ∀ v F' H', Wf F H F' H' → (pT2 pN pN).r F' v z → Q v H'
theorem u_P_hang {K : PySem.W.Frag} {cc : Cz} {F1 H1 H2 : Hp} {x : WireV} {v : V} {vs : List V} {Q : VK} {E : XK} (r : (pW cc.InWire cc.SumWire cc.StoreWire).r F1 v x) (h : Ex F1 H1) (k : sp_P_hang K cc x (v :: vs) H2 Q E) : ∀ C, IsC H1 v C → ∃ sp, (C, sp) ∈ U_P_hang K cc ∧ sp (v :: vs) H2 Q E := by
  intro C c
  rw [IsC.eq r h c]
  obtain ⟨F, v1, v2, known1, R, e, wf, r1, r2, hW, hQ⟩ := k
  match x, r1, hW with
  | .inl y, r1, hW => exact ⟨sp_InWire_hang K cc, List.mem_cons_self .., F, v1, y, v2, known1, R, e, wf, r1, r2, hW, hQ⟩
  | .inr (.inl y), r1, hW => exact ⟨sp_SumWire_hang K cc, List.mem_cons_of_mem _ (List.mem_cons_self ..), F, v1, y, v2, known1, R, e, wf, r1, r2, hW, hQ⟩
  | .inr (.inr y), r1, hW => exact ⟨sp_StoreWire_hang K cc, List.mem_cons_of_mem _ (List.mem_cons_of_mem _ (List.mem_cons_self ..)), F, v1, y, v2, known1, R, e, wf, r1, r2, hW, hQ⟩
theorem ok_P_hang {P : Program} {w0 : World} {K : PySem.W.Frag} {mg : Str → Option Value} {base : Heap} {cc : Cz} (T : Tz K mg cc) (c_InWire : Md P w0 K mg base CX0 1 cc.InWire "hang" ["self", "known"] (sp_InWire_hang K cc)) (c_SumWire : Md P w0 K mg base CX0 1 cc.SumWire "hang" ["self", "known"] (sp_SumWire_hang K cc)) (c_StoreWire : Md P w0 K mg base CX0 1 cc.StoreWire "hang" ["self", "known"] (sp_StoreWire_hang K cc)) : MdU P w0 K mg base CX0 1 (U_P_hang K cc) "hang" ["self", "known"] := MdU.three (c_InWire.mono (by decide)) T.cl_InWire (c_SumWire.mono (by decide)) T.cl_SumWire (c_StoreWire.mono (by decide)) T.cl_StoreWire
abbrev s_is_whole : Stmt := topS 12
/-! is_whole -/
def W_is_whole (thing1 : An) (R : Bool → Prop) : Prop := R (decide (((isA "int" thing1) = true) ∧ (¬ ((isA "bool" thing1) = true))))
def sp_is_whole (K : PySem.W.Frag) (cc : Cz) : Sp := fun vs H Q _ => ∃ (F : Hp) (v1 : V) (thing1 : An) (R : Bool → Prop), vs = [v1] ∧ Ex F H ∧ pA.r F v1 thing1 ∧ W_is_whole thing1 R ∧ ∀ z, R z → ∀ F' H', Wf F H F' H' → Q (.bl (z)) H'
abbrev N_is_whole : List Str := ["thing"]
theorem sc_is_whole : FnScope N_is_whole ["thing"] (defScope s_is_whole) := ⟨rfl, rfl, rfl, by decide +kernel, rfl, by decide +kernel, by decide +kernel⟩
theorem ok_is_whole {P : Program} {w0 : World} {K : PySem.W.Frag} {mg : Str → Option Value} {base : Heap} {f : Addr} {fd : FuncData} {cc : Cz} (T : Tz K mg cc) (FU : Fun K "is_whole" "is_whole" s_is_whole f fd) (hm : mg "is_whole" = some (.ref f)) (hb : Binds K fd ["thing"] []) (n_bool : mg "bool" = none) (n_int : mg "int" = none) (n_isinstance : mg "isinstance" = none) : Fn P w0 K mg base CX0 1 "is_whole" ["thing"] (sp_is_whole K cc) := by
  refine ⟨f, fd, FU.ok sc_is_whole (fun vs H Q E h => ?_) (fun cdv A outer s H0 vs Q E hr h => ?_), hm, FU.kp, hb⟩
  · obtain ⟨_, _, _, _, rfl, _⟩ := h; rfl
  · obtain ⟨F0, v1, thing1, R, rfl, wf, r1, hW, hQ⟩ := h
    have nd := sc_is_whole.nd
    refine ⟨(tRet (tAndV (tCB (rIsi K) (tCons (tVar 0) (tCons (tC (.ty "int")) tNil))) (tNotV (tCB (rIsi K) (tCons (tVar 0) (tCons (tC (.ty "bool")) tNil)))))), (pss_one (ps_ret (pe_and (pe_callB call_isi (by rfl) n_isinstance PyProof.Rows.boot_isinstance (pa_cons (pv 0) (pa_cons (pe_bltn (v := .ty "int") (by rfl) n_int PyProof.Rows.boot_int rfl) pa_nil))) (pe_one (pe_not (pe_callB call_isi (by rfl) n_isinstance PyProof.Rows.boot_isinstance (pa_cons (pv 0) (pa_cons (pe_bltn (v := .ty "bool") (by rfl) n_bool PyProof.Rows.boot_bool rfl) pa_nil)))))))), ?_⟩
    have w := Wf.id wf
    refine a_ret (v := (.bl (decide (((isA "int" thing1) = true) ∧ (¬ ((isA "bool" thing1) = true)))))) (vt_and (vb_of (v_isiA "int" (val_var rfl) r1 w.f) dec_tt) (fun _ => (vt_not (vb_of (v_isiA "bool" (val_var rfl) r1 w.f) dec_tt)))) ?_
    exact hQ _ hW _ _ w
abbrev s_is_mask : Stmt := topS 13
/-! is_mask -/
def W_is_mask (thing1 : An) (width1 : Nat) (R : Bool → Prop) : Prop := jn (fun kk => W_is_whole thing1 fun z1 => if z1 = true then (∃ y1 : Int, thing1 = An.i y1 ∧ (width1 < 100000000) ∧ kk (decide (((0 : Nat) : Int) ≤ y1 ∧ y1 < ((2 ^ width1 : Nat) : Int)))) else (kk false)) fun b1 => R b1
def sp_is_mask (K : PySem.W.Frag) (cc : Cz) : Sp := fun vs H Q _ => ∃ (F : Hp) (v1 : V) (thing1 : An) (width1 : Nat) (R : Bool → Prop), vs = [v1, (.int ((width1 : Nat) : Int))] ∧ Ex F H ∧ pA.r F v1 thing1 ∧ W_is_mask thing1 width1 R ∧ ∀ z, R z → ∀ F' H', Wf F H F' H' → Q (.bl (z)) H'
abbrev N_is_mask : List Str := ["thing", "width"]
theorem sc_is_mask : FnScope N_is_mask ["thing", "width"] (defScope s_is_mask) := ⟨rfl, rfl, rfl, by decide +kernel, rfl, by decide +kernel, by decide +kernel⟩
theorem ok_is_mask {P : Program} {w0 : World} {K : PySem.W.Frag} {mg : Str → Option Value} {base : Heap} {f : Addr} {fd : FuncData} {cc : Cz} (T : Tz K mg cc) (FU : Fun K "is_mask" "is_mask" s_is_mask f fd) (hm : mg "is_mask" = some (.ref f)) (hb : Binds K fd ["thing", "width"] []) (c_is_whole : Fn P w0 K mg base CX0 1 "is_whole" ["thing"] (sp_is_whole K cc)) : Fn P w0 K mg base CX0 2 "is_mask" ["thing", "width"] (sp_is_mask K cc) := by
  refine ⟨f, fd, FU.ok sc_is_mask (fun vs H Q E h => ?_) (fun cdv A outer s H0 vs Q E hr h => ?_), hm, FU.kp, hb⟩
  · obtain ⟨_, _, _, _, _, rfl, _⟩ := h; rfl
  · obtain ⟨F0, v1, thing1, width1, R, rfl, wf, r1, hW, hQ⟩ := h
    have nd := sc_is_mask.nd
    refine ⟨(tRet (tAndV (tCall (sp_is_whole K cc) [] E0 (tCons (tVar 0) tNil)) (tChain kLe kLt (tC (.int 0)) (tVar 0) (tOp kShl (tC (.int 1)) (tVar 1))))), (pss_one (ps_ret (pe_and (pe_fn c_is_whole (hr.mono (by decide)) rfl (pa_cons (pv 0) pa_nil)) (pe_one (pe_chain op_le op_lt pe_int (pv 0) (pe_op op_shlW pe_int (pv 1))))))), ?_⟩
    have w := Wf.id wf
    refine a_retE ?_
    refine e_jnV hW (fun b F' H' => b = b ∧ Wf F0 H0 F' H' ∧ Ex F0 F') ?_ ?_
    · intro N1 hN1 hW
      have gx1 : Ex F0 F0 := Ex.rfl'
      refine e_AndV ?_
      refine e_call ?_
      refine a_val (v := v1) (val_var rfl) ?_
      refine a_nil ?_
      refine ⟨F0, (v1), (thing1), _, rfl, w.f, r1, hW, ?_⟩
      intro z1 hW F1 H1 s1
      replace r1 := Rep.mono _ s1.g r1
      replace w := w.tr s1
      replace gx1 := Ex.tr gx1 s1.g
      refine bl_if ?_
      refine bb_if (fun hc1 => ?_) (fun hc1 => ?_)
      · have hW := ifP hW hc1
        obtain ⟨y1, hy1, hW⟩ := hW
        have hv1 := an_i r1 hy1
        obtain ⟨c1, hW⟩ := hW
        refine e_val (v := .bl (decide (((0 : Nat) : Int) ≤ y1 ∧ y1 < ((2 ^ width1 : Nat) : Int)))) (vb_of (v_chain (b1 := decide (((0 : Nat) : Int) ≤ y1)) (b2 := decide (y1 < ((2 ^ width1 : Nat) : Int))) (x := (.int ((0 : Nat) : Int))) (y := (.int (y1))) (z := (.int ((2 ^ width1 : Nat) : Int))) val_c (v_eq (val_var rfl) hv1) (vn_one val_c (val_var rfl) c1) (fun Q k => rv2 (c_le val_c val_c) k) (fun Q k => rv2 (c_lt val_c val_c) k)) dec_and) ?_
        exact hN1 (decide (((0 : Nat) : Int) ≤ y1 ∧ y1 < ((2 ^ width1 : Nat) : Int))) _ _ ⟨rfl, w, gx1⟩ hW
      · have hW := ifN hW hc1
        exact hN1 false _ _ ⟨rfl, w, gx1⟩ hW
    intro b1 F2 H2 hI1 hW
    obtain ⟨_, w, gx2⟩ := hI1
    have r1 := Rep.mono _ gx2 r1
    exact hQ _ hW _ _ w
abbrev s_is_name : Stmt := topS 14
/-! is_name -/
def W_is_name (thing1 : An) (R : Bool → Prop) : Prop := jn (fun kk => if ¬ ((isA "str" thing1) = true) then (kk true) else (∃ ys1 : Str, thing1 = An.s ys1 ∧ ((ys1).length < 1000000) ∧ kk (decide (¬ (1 ≤ ((ys1).length) ∧ ((ys1).length) ≤ 6))))) fun b1 => if b1 = true then (R false) else (∃ ys2 : Str, thing1 = An.s ys2 ∧ forW ys2.cps.toList () (fun sign1 _ nx1 bk1 => if (¬ (sign1 ∈ (PySem.Str.ofString "abcdefghijklmnopqrstuvwxyz").cps.toList)) ∧ (¬ (sign1 ∈ (PySem.Str.ofString "0123456789").cps.toList)) then (R false) else (nx1 ())) fun _ => (ys2.length < 1000000) ∧ ∃ c3 : Nat, ys2.cps.toList[0]? = some c3 ∧ R (decide (c3 ∈ (PySem.Str.ofString "abcdefghijklmnopqrstuvwxyz").cps.toList)))
def sp_is_name (K : PySem.W.Frag) (cc : Cz) : Sp := fun vs H Q _ => ∃ (F : Hp) (v1 : V) (thing1 : An) (R : Bool → Prop), vs = [v1] ∧ Ex F H ∧ pA.r F v1 thing1 ∧ W_is_name thing1 R ∧ ∀ z, R z → ∀ F' H', Wf F H F' H' → Q (.bl (z)) H'
abbrev N_is_name : List Str := ["thing", "sign"]
theorem sc_is_name : FnScope N_is_name ["thing"] (defScope s_is_name) := ⟨rfl, rfl, rfl, by decide +kernel, rfl, by decide +kernel, by decide +kernel⟩
theorem ok_is_name {P : Program} {w0 : World} {K : PySem.W.Frag} {mg : Str → Option Value} {base : Heap} {f : Addr} {fd : FuncData} {cc : Cz} (T : Tz K mg cc) (FU : Fun K "is_name" "is_name" s_is_name f fd) (hm : mg "is_name" = some (.ref f)) (hb : Binds K fd ["thing"] []) (n_isinstance : mg "isinstance" = none) (n_len : mg "len" = none) (n_str : mg "str" = none) : Fn P w0 K mg base CX0 1 "is_name" ["thing"] (sp_is_name K cc) := by
  refine ⟨f, fd, FU.ok sc_is_name (fun vs H Q E h => ?_) (fun cdv A outer s H0 vs Q E hr h => ?_), hm, FU.kp, hb⟩
  · obtain ⟨_, _, _, _, rfl, _⟩ := h; rfl
  · obtain ⟨F0, v1, thing1, R, rfl, wf, r1, hW, hQ⟩ := h
    have nd := sc_is_name.nd
    refine ⟨(tSeq (tIfS (tOr (tNot (tB (tCB (rIsi K) (tCons (tVar 0) (tCons (tC (.ty "str")) tNil))))) (tNot (tTest (tChain kLe kLe (tC (.int 1)) (tCB rLenS (tCons (tVar 0) tNil)) (tC (.int 6)))))) (tRet (tC (.bl false))) tNext) (tSeq (tFor (iStr (tVar 0)) (gName 1) (tIfS (tAnd (tTest (tOp kNotInS (tVar 1) (tC (.str (PySem.Str.ofString "abcdefghijklmnopqrstuvwxyz"))))) (tTest (tOp kNotInS (tVar 1) (tC (.str (PySem.Str.ofString "0123456789")))))) (tRet (tC (.bl false))) tNext)) (tRet (tOp kInS (tOp L2.rIxS (tVar 0) (tC (.int 0))) (tC (.str (PySem.Str.ofString "abcdefghijklmnopqrstuvwxyz"))))))), (pss_cons (ps_if (PW.pt (pw_or (pt_not (pt_val (pe_callB call_isi (by rfl) n_isinstance PyProof.Rows.boot_isinstance (pa_cons (pv 0) (pa_cons (pe_bltn (v := .ty "str") (by rfl) n_str PyProof.Rows.boot_str rfl) pa_nil))))) (pw_or1 (pt_not (pt_chain op_le op_le pe_int (pe_callB call_len_str (by rfl) n_len PySem.boot_len (pa_cons (pv 0) pa_nil)) pe_int))))) (pss_one (ps_ret pe_bl)) pss_nil) (pss_cons (ps_for PassesOwn.never rfl (pi_str (pv 0)) (pg_name (i := 1) nd rfl (Or.inl rfl)) (pss_one (ps_if (PW.pt (pw_and (pt_cmpR op_notInSg (pv 1) (pe_globE T.gl_LETTERS rfl) rfl) (pw_and1 (pt_cmpR op_notInSg (pv 1) (pe_globE T.gl_FIGURES rfl) rfl)))) (pss_one (ps_ret pe_bl)) pss_nil))) (pss_one (ps_ret (pe_cmpR op_inSg (pe_ix ix_str (pv 0) pe_int (fun _ _ => rfl)) (pe_globE T.gl_LETTERS rfl) rfl))))), ?_⟩
    have w := Wf.id wf
    refine q_sq fun N1 hN1 => ?_
    refine a_ifE ?_
    refine e_jnT hW (fun b F' H' => b = b ∧ Wf F0 H0 F' H' ∧ Ex F0 F') ?_ ?_
    · intro N2 hN2 hW
      have gx1 : Ex F0 F0 := Ex.rfl'
      refine e_tOr ?_
      refine e_ans (b := decide (¬ ((isA "str" thing1) = true))) (t_not (t_ofB (vb_of (v_isiA "str" (val_var rfl) r1 w.f) dec_tt))) ?_
      refine b_if (fun hc1 => ?_) (fun hc1 => ?_)
      · have hW := ifP hW hc1
        exact hN2 true _ _ ⟨rfl, w, gx1⟩ hW
      · have hW := ifN hW hc1
        obtain ⟨ys1, hy1, hW⟩ := hW
        obtain rfl : v1 = .str ys1 := an_str r1 hy1
        obtain ⟨c1, hW⟩ := hW
        refine e_ans (b := decide (¬ (1 ≤ ((ys1).length) ∧ ((ys1).length) ≤ 6))) (t_not (t_of (vb_of (v_chain (b1 := decide (1 ≤ ((ys1).length))) (b2 := decide (((ys1).length) ≤ 6)) (x := (.int ((1 : Nat) : Int))) (y := (.int (((ys1).length : Nat) : Int))) (z := (.int ((6 : Nat) : Int))) val_c (len_Str c1 (val_var rfl)) val_c (fun Q k => rv2 (vb_dec (c_le val_c val_c) n_le) k) (fun Q k => rv2 (vb_dec (c_le val_c val_c) n_le) k)) dec_and))) ?_
        exact hN2 (decide (¬ (1 ≤ ((ys1).length) ∧ ((ys1).length) ≤ 6))) _ _ ⟨rfl, w, gx1⟩ hW
    intro b1 F1 H1 hI1 hW
    obtain ⟨_, w, gx2⟩ := hI1
    have r1 := Rep.mono _ gx2 r1
    refine bb_if (fun hc2 => ?_) (fun hc2 => ?_)
    · have hW := ifP hW hc2
      refine a_ret (v := (.bl (false))) val_c ?_
      exact hQ _ hW _ _ w
    · have hW := ifN hW hc2
      refine hN1 _ _ ?_
      refine q_sq fun N3 hN3 => ?_
      obtain ⟨ys2, hy2, hW⟩ := hW
      obtain rfl : v1 = .str ys2 := an_str r1 hy2
      refine f_J ?_
      refine e_val (v := (.str (ys2))) (val_var rfl) ?_
      refine src_str (F := F1) w.f (fun T1 => ?_)
      refine w_forG (S := Unit) T1 (fun _ σ' F' H' => ∃ (o1 : Option V), Wf F0 H0 F' H' ∧ Ex F1 F' ∧ σ' = [some (.str (ys2)), o1]) hW ⟨_, w, Ex.rfl', rfl⟩ (fun s σ' F' H' hI => by obtain ⟨_, w', gx', _⟩ := hI; exact ⟨gx', w'.f⟩) w.f ?_ ?_
      · intro N4 Bk1 sign1 u1 s1 σ' F2 H2 F3 H3 nx1 bk1 hI2 hx1 s2 ru1 hW hN4 hB1
        obtain ⟨o1, w, gx3, rfl⟩ := hI2
        replace w := w.tr s2
        replace gx3 := Ex.tr gx3 s2.g
        obtain rfl : u1 = (.str (sg sign1)) := ru1
        refine g_name ?_
        refine a_ifE ?_
        refine e_ans (b := decide ((¬ (sign1 ∈ (PySem.Str.ofString "abcdefghijklmnopqrstuvwxyz").cps.toList)) ∧ (¬ (sign1 ∈ (PySem.Str.ofString "0123456789").cps.toList)))) (t_iff (p := (¬ sign1 ∈ (PySem.Str.ofString "abcdefghijklmnopqrstuvwxyz").cps.toList) ∧ (¬ sign1 ∈ (PySem.Str.ofString "0123456789").cps.toList)) (q := (¬ (sign1 ∈ (PySem.Str.ofString "abcdefghijklmnopqrstuvwxyz").cps.toList)) ∧ (¬ (sign1 ∈ (PySem.Str.ofString "0123456789").cps.toList))) (t_and (t_of (v_notInS (val_var rfl) val_c)) (fun _ => (t_of (v_notInS (val_var rfl) val_c)))) (by simp)) ?_
        refine b_if (fun hc3 => ?_) (fun hc3 => ?_)
        · have hW := ifP hW hc3
          refine a_ret (v := (.bl (false))) val_c ?_
          exact hQ _ hW _ _ w
        · have hW := ifN hW hc3
          exact hN4 () _ _ _ ⟨_, w, gx3, rfl⟩ hW
      · intro s3 σ' F4 H4 hI3 hW
        obtain ⟨o1, w, gx4, rfl⟩ := hI3
        refine hN3 _ _ ?_
        obtain ⟨c2, hW⟩ := hW
        obtain ⟨c3, hc4, hW⟩ := hW
        refine a_ret (v := (.bl (decide (c3 ∈ (PySem.Str.ofString "abcdefghijklmnopqrstuvwxyz").cps.toList)))) (v_inS (ix_Str (val_var rfl) val_c c2 hc4) val_c) ?_
        exact hQ _ hW _ _ w
abbrev s_need_sizes : Stmt := topS 29
/-! need_sizes -/
def W_need_sizes (ins1 : List Str) (sums1 : List (Str × List Str)) (stores1 : List (Str × Str)) (outs1 : List Str) (R : Unit → Prop) : Prop := if (6 < ins1.length) ∨ ((40 < sums1.length) ∨ ((16 < stores1.length) ∨ (6 < outs1.length))) then (False) else (forW sums1 () (fun it1 _ nx1 bk1 => if 24 < it1.2.length then (False) else (nx1 ())) fun _ => R ())
def sp_need_sizes (K : PySem.W.Frag) (cc : Cz) : Sp := fun vs H Q _ => ∃ (F : Hp) (v1 : V) (ins1 : List Str) (v2 : V) (sums1 : List (Str × List Str)) (v3 : V) (stores1 : List (Str × Str)) (v4 : V) (outs1 : List Str) (R : Unit → Prop), vs = [v1, v2, v3, v4] ∧ Ex F H ∧ (pL pS).r F v1 ins1 ∧ (pL (pT2 pS (pL pS))).r F v2 sums1 ∧ (pL (pT2 pS pS)).r F v3 stores1 ∧ (pL pS).r F v4 outs1 ∧ W_need_sizes ins1 sums1 stores1 outs1 R ∧ ∀ z, R z → ∀ F' H', Wf F H F' H' → Q .non H'
abbrev N_need_sizes : List Str := ["ins", "sums", "stores", "outs", "name", "wires"]
theorem sc_need_sizes : FnScope N_need_sizes ["ins", "sums", "stores", "outs"] (defScope s_need_sizes) := ⟨rfl, rfl, rfl, by decide +kernel, rfl, by decide +kernel, by decide +kernel⟩
theorem ok_need_sizes {P : Program} {w0 : World} {K : PySem.W.Frag} {mg : Str → Option Value} {base : Heap} {f : Addr} {fd : FuncData} {cc : Cz} (T : Tz K mg cc) (FU : Fun K "need_sizes" "need_sizes" s_need_sizes f fd) (hm : mg "need_sizes" = some (.ref f)) (hb : Binds K fd ["ins", "sums", "stores", "outs"] []) (n_len : mg "len" = none) : Fn P w0 K mg base CX0 1 "need_sizes" ["ins", "sums", "stores", "outs"] (sp_need_sizes K cc) := by
  refine ⟨f, fd, FU.ok sc_need_sizes (fun vs H Q E h => ?_) (fun cdv A outer s H0 vs Q E hr h => ?_), hm, FU.kp, hb⟩
  · obtain ⟨_, _, _, _, _, _, _, _, _, _, rfl, _⟩ := h; rfl
  · obtain ⟨F0, v1, ins1, v2, sums1, v3, stores1, v4, outs1, R, rfl, wf, r1, r2, r3, r4, hW, hQ⟩ := h
    have nd := sc_need_sizes.nd
    refine ⟨(tSeq (tIfS (tOr (tTest (tOp kGt (tCB (Wk.rLen K) (tCons (tVar 0) tNil)) (tC (.int 6)))) (tOr (tTest (tOp kGt (tCB (Wk.rLen K) (tCons (tVar 1) tNil)) (tC (.int 40)))) (tOr (tTest (tOp kGt (tCB (Wk.rLen K) (tCons (tVar 2) tNil)) (tC (.int 16)))) (tTest (tOp kGt (tCB (Wk.rLen K) (tCons (tVar 3) tNil)) (tC (.int 6))))))) tNever tNext) (tFor (iList K (tVar 1)) (gTup K 2 (gCons (gName 4) (gCons (gName 5) gNil))) (tIfS (tTest (tOp kGt (tCB (Wk.rLen K) (tCons (tVar 5) tNil)) (tC (.int 24)))) tNever tNext))), (pss_cons (ps_if (PW.pt (pw_or (pt_cmpR op_gt (pe_callB call_len_seq (by rfl) n_len PySem.boot_len (pa_cons (pv 0) pa_nil)) (pe_globE T.gl_MOST_INS rfl) (nomark _)) (pw_or (pt_cmpR op_gt (pe_callB call_len_seq (by rfl) n_len PySem.boot_len (pa_cons (pv 1) pa_nil)) (pe_globE T.gl_MOST_SUMS rfl) (nomark _)) (pw_or (pt_cmpR op_gt (pe_callB call_len_seq (by rfl) n_len PySem.boot_len (pa_cons (pv 2) pa_nil)) (pe_globE T.gl_MOST_STORES rfl) (nomark _)) (pw_or1 (pt_cmpR op_gt (pe_callB call_len_seq (by rfl) n_len PySem.boot_len (pa_cons (pv 3) pa_nil)) (pe_globE T.gl_MOST_OUTS rfl) (nomark _))))))) (pss_one ps_never) pss_nil) (pss_one (ps_for PassesOwn.never rfl (pi_list (pv 1)) (pg_tup rfl (pgs_cons (pg_name (i := 4) nd rfl (Or.inl rfl)) (pgs_cons (pg_name (i := 5) nd rfl (Or.inl rfl)) pgs_nil)) (by rfl)) (pss_one (ps_if (pt_cmpR op_gt (pe_callB call_len_seq (by rfl) n_len PySem.boot_len (pa_cons (pv 5) pa_nil)) (pe_globE T.gl_MOST_WIRES rfl) (nomark _)) (pss_one ps_never) pss_nil))))), ?_⟩
    have w := Wf.id wf
    refine q_sq fun N1 hN1 => ?_
    refine a_ifE ?_
    refine e_ans (b := decide ((6 < ins1.length) ∨ ((40 < sums1.length) ∨ ((16 < stores1.length) ∨ (6 < outs1.length))))) (t_or (t_of (vb_dec (c_gt (len_L r1 w.f (val_var rfl)) val_c) n_lt)) (fun _ => (t_or (t_of (vb_dec (c_gt (len_L r2 w.f (val_var rfl)) val_c) n_lt)) (fun _ => (t_or (t_of (vb_dec (c_gt (len_L r3 w.f (val_var rfl)) val_c) n_lt)) (fun _ => (t_of (vb_dec (c_gt (len_L r4 w.f (val_var rfl)) val_c) n_lt)))))))) ?_
    refine b_if (fun hc1 => ?_) (fun hc1 => ?_)
    · have hW := ifP hW hc1
      exact hW
    · have hW := ifN hW hc1
      refine hN1 _ _ ?_
      refine f_LE ?_
      refine e_val (v := v2) (val_var rfl) ?_
      refine w_forL (S := Unit) (fun _ σ' F' H' => ∃ (o1 : Option V) (o2 : Option V), Wf F0 H0 F' H' ∧ Ex F0 F' ∧ σ' = [some v1, some v2, some v3, some v4, o1, o2]) r2 hW ⟨_, _, w, Ex.rfl', rfl⟩ (fun s σ' F' H' hI => by obtain ⟨_, _, w', gx', _⟩ := hI; exact ⟨gx', w'.f⟩) w.f ?_ ?_
      · intro N2 Bk1 it1 u1 s1 σ' F1 H1 nx1 bk1 hI1 hx1 ru1 hW hN2 hB1
        obtain ⟨o1, o2, w, gx1, rfl⟩ := hI1
        have r1 := Rep.mono _ gx1 r1
        have r2 := Rep.mono _ gx1 r2
        have r3 := Rep.mono _ gx1 r3
        have r4 := Rep.mono _ gx1 r4
        obtain ⟨p1, u2, u3, rfl, h1, rfl, r5⟩ := ru1
        refine ⟨p1, _, rfl, SqT.of (w.f _ _ h1), rfl, _, _, rfl, _, _, rfl, rfl, ?_⟩
        refine a_ifE ?_
        refine e_ans (b := decide (24 < it1.2.length)) (t_of (vb_dec (c_gt (len_L r5 w.f (val_var rfl)) val_c) n_lt)) ?_
        refine b_if (fun hc2 => ?_) (fun hc2 => ?_)
        · have hW := ifP hW hc2
          exact hW
        · have hW := ifN hW hc2
          exact hN2 () _ _ _ ⟨_, _, w, gx1, rfl⟩ hW
      · intro s2 σ' F2 H2 hI2 hW
        obtain ⟨o1, o2, w, gx2, rfl⟩ := hI2
        have r1 := Rep.mono _ gx2 r1
        have r2 := Rep.mono _ gx2 r2
        have r3 := Rep.mono _ gx2 r3
        have r4 := Rep.mono _ gx2 r4
        exact hQ _ hW _ _ w
abbrev s_Net_put_in : Stmt := inClass (topS 30) 1
/-! Net.put_in -/
def W_Net_put_in (all1 : List (Str × WireV)) (name1 : Str) (one1 : WireV) (R : (List (Str × WireV)) → Prop) : Prop := W_is_name (An.s name1) fun z1 => if z1 = true then (if hasT all1 name1 = true then (False) else ((all1.length < 1000000) ∧ R (putT all1 name1 one1))) else (False)
def sp_Net_put_in (K : PySem.W.Frag) (cc : Cz) : Sp := fun vs H Q _ => ∃ (F : Hp) (ob dx : Addr) (fs : List (Str × V)) (d_all : Addr) (all1 : List (Str × WireV)) (name1 : Str) (v1 : V) (one1 : WireV) (R : (List (Str × WireV)) → Prop), vs = [(.ref ob), (.str (name1)), v1] ∧ Ex F H ∧ H ob = some (.ins cc.Net dx fs) ∧ fs.lookup ("all" : Str) = some (V.ref d_all) ∧ XD (pW cc.InWire cc.SumWire cc.StoreWire) (woL H [d_all]) F H d_all all1 ∧ (pW cc.InWire cc.SumWire cc.StoreWire).r F v1 one1 ∧ W_Net_put_in all1 name1 one1 R ∧ ∀ z, R z → ∀ F' H', Wf F (woL H [d_all]) F' H' → XD (pW cc.InWire cc.SumWire cc.StoreWire) (woL H [d_all]) F' H' d_all z → Q .non H'
abbrev N_Net_put_in : List Str := ["self", "name", "one"]
theorem sc_Net_put_in : FnScope N_Net_put_in ["self", "name", "one"] (defScope s_Net_put_in) := ⟨rfl, rfl, rfl, by decide +kernel, rfl, by decide +kernel, by decide +kernel⟩
theorem ok_Net_put_in {P : Program} {w0 : World} {K : PySem.W.Frag} {mg : Str → Option Value} {base : Heap} {f : Addr} {fd : FuncData} {cc : Cz} (T : Tz K mg cc) (FU : Fun K "put_in" "Net.put_in" s_Net_put_in f fd) (hm : Meth K cc.Net "put_in" f) (hb : Binds K fd ["self", "name", "one"] []) (c_is_name : Fn P w0 K mg base CX0 1 "is_name" ["thing"] (sp_is_name K cc)) : Md P w0 K mg base CX0 2 cc.Net "put_in" ["self", "name", "one"] (sp_Net_put_in K cc) := by
  refine ⟨f, fd, FU.ok sc_Net_put_in (fun vs H Q E h => ?_) (fun cdv A outer s H0 vs Q E hr h => ?_), hm, hb⟩
  · obtain ⟨_, _, _, _, _, _, _, _, _, _, rfl, _⟩ := h; rfl
  · obtain ⟨F0, ob, dx, fs, d_all, all1, name1, v1, one1, R, rfl, wf, hob, lk_all, xf_all, r1, hW, hQ⟩ := h
    have nd := sc_Net_put_in.nd
    refine ⟨(tSeq (tIfS (tNot (tB (tCall (sp_is_name K cc) [] E0 (tCons (tVar 1) tNil)))) tNever tNext) (tSeq (tIfS (tB (tDIn (tVar 1) (tFld K (tVar 0) "all"))) tNever tNext) (sDPut (tFld K (tVar 0) "all") (tVar 1) (tVar 2)))), (pss_cons (ps_if (pt_not (pt_val (pe_fn c_is_name (hr.mono (by decide)) rfl (pa_cons (pv 1) pa_nil)))) (pss_one ps_never) pss_nil) (pss_cons (ps_if (pt_cmp (pc_din (hu_of hr) (pv 1) (pe_fld (pv 0) rfl))) (pss_one ps_never) pss_nil) (pss_one (ps_dput (hu_of hr) (pe_fld (pv 0) rfl) (pv 1) (pv 2) rfl)))), ?_⟩
    have bo : BO cc.Net F0 H0 ob dx fs := ⟨hob⟩
    have no_all : d_all ≠ ob := xf_all.bw.neO hob
    have w := Wf.startL (L := [d_all]) wf (allL1 xf_all.nF)
    generalize hH0 : woL H0 [d_all] = Hb at w hQ xf_all
    refine q_sq fun N1 hN1 => ?_
    refine a_ifE ?_
    refine e_tNot ?_
    refine e_tB ?_
    refine e_call ?_
    refine a_val (v := (.str (name1))) (val_var rfl) ?_
    refine a_nil ?_
    refine ⟨F0, ((.str (name1))), ((An.s name1)), _, rfl, w.f, (show pA.r _ (.str (name1)) (An.s name1) from rfl), hW, ?_⟩
    intro z1 hW F1 H1 s1
    replace xf_all := xf_all.step s1
    replace bo := bo.step s1
    replace r1 := Rep.mono _ s1.g r1
    replace w := w.tr s1
    refine bl_v ?_
    refine bb_ifn (fun hc1 => ?_) (fun hc1 => ?_)
    · have hW := ifP hW hc1
      refine hN1 _ _ ?_
      refine q_sq fun N2 hN2 => ?_
      refine a_ifE ?_
      refine e_ans (b := decide (hasT all1 name1 = true)) (t_ofB (vb_of (in_XD (j := name1) xf_all (val_var rfl) (fl_B (na := T.na_Net_all) T.cl_Net bo lk_all (val_var rfl))) dec_tt)) ?_
      refine b_if (fun hc2 => ?_) (fun hc2 => ?_)
      · have hW := ifP hW hc2
        exact hW
      · have hW := ifN hW hc2
        refine hN2 _ _ ?_
        refine e_dput ?_
        refine e_val (v := v1) (val_var rfl) ?_
        obtain ⟨c1, hW⟩ := hW
        refine d_put (j := name1) xf_all w c1 r1 (fl_B (na := T.na_Net_all) T.cl_Net bo lk_all (val_var rfl)) (val_var rfl) (fun H2 w1 x1 kp1 => ?_)
        replace bo := bo.kept kp1 (Ne.symm no_all)
        replace w := w1
        exact hQ (putT all1 name1 one1) hW _ _ w x1
    · have hW := ifN hW hc1
      exact hW
abbrev s_Net_of_kind : Stmt := inClass (topS 30) 2
/-! Net.of_kind -/
def W_Net_of_kind (all1 : List (Str × WireV)) (word1 : Str) (R : (List (WireV)) → Prop) : Prop := (all1.length < 1000000) ∧ compW (all1.map (·.2)) (fun one1 kk => W_P_kind one1 fun z1 => if z1 = word1 then (kk (some one1)) else (kk none)) fun ys1 => R ys1
def sp_Net_of_kind (K : PySem.W.Frag) (cc : Cz) : Sp := fun vs H Q _ => ∃ (F : Hp) (ob dx : Addr) (fs : List (Str × V)) (d_all : Addr) (all1 : List (Str × WireV)) (word1 : Str) (R : (List (WireV)) → Prop), vs = [(.ref ob), (.str (word1))] ∧ Ex F H ∧ H ob = some (.ins cc.Net dx fs) ∧ fs.lookup ("all" : Str) = some (V.ref d_all) ∧ BD (pW cc.InWire cc.SumWire cc.StoreWire) F H d_all all1 ∧ W_Net_of_kind all1 word1 R ∧ ∀ z, R z → ∀ p F' H', Wf F H F' H' → XL (pW cc.InWire cc.SumWire cc.StoreWire) H F' H' p z → Q (.ref p) H'
abbrev N_Net_of_kind : List Str := ["self", "word", "one"]
theorem sc_Net_of_kind : FnScope N_Net_of_kind ["self", "word"] (defScope s_Net_of_kind) := ⟨rfl, rfl, rfl, by decide +kernel, rfl, by decide +kernel, by decide +kernel⟩
theorem ok_Net_of_kind {P : Program} {w0 : World} {K : PySem.W.Frag} {mg : Str → Option Value} {base : Heap} {f : Addr} {fd : FuncData} {cc : Cz} (T : Tz K mg cc) (FU : Fun K "of_kind" "Net.of_kind" s_Net_of_kind f fd) (hm : Meth K cc.Net "of_kind" f) (hb : Binds K fd ["self", "word"] []) (c_P_kind : MdU P w0 K mg base CX0 1 (U_P_kind K cc) "kind" ["self"]) : Md P w0 K mg base CX0 2 cc.Net "of_kind" ["self", "word"] (sp_Net_of_kind K cc) := by
  refine ⟨f, fd, FU.ok sc_Net_of_kind (fun vs H Q E h => ?_) (fun cdv A outer s H0 vs Q E hr h => ?_), hm, hb⟩
  · obtain ⟨_, _, _, _, _, _, _, _, rfl, _⟩ := h; rfl
  · obtain ⟨F0, ob, dx, fs, d_all, all1, word1, R, rfl, wf, hob, lk_all, xf_all, hW, hQ⟩ := h
    have nd := sc_Net_of_kind.nd
    refine ⟨(tRet (tLockE (tLc (iVals (tFld K (tVar 0) "all")) (gName 2) (tTest (tOp L2.rEq (tMethU (U_P_kind K cc) "kind" E0 (tVar 2) tNil) (tVar 1))) (tVar 2) [2]))), (pss_one (ps_ret (pe_lock (pe_lc (own := [("one", 2)]) (wi := (iVals (tFld K (tVar 0) "all"))) (g := (gName 2)) (tt := (tTest (tOp L2.rEq (tMethU (U_P_kind K cc) "kind" E0 (tVar 2) tNil) (tVar 1)))) (te := (tVar 2)) rfl nd (pi_values (pe_fld (pv 0) rfl)) (blkOk_by (N := N_Net_of_kind) (sc := defScope s_Net_of_kind) (by decide +kernel)) (fun _ _ _ _ _ => (pg_name (i := 2) nd rfl (Or.inl rfl))) (fun _ _ _ _ _ => (pts_one (pt_cmpR op_eq (pe_mdU0 c_P_kind (hr.mono (by decide)) (pv 2)) (pv 1) (nomark _)))) (fun _ _ _ _ _ => (pv 2)))))), ?_⟩
    have bo : BO cc.Net F0 H0 ob dx fs := ⟨hob⟩
    have w := Wf.id wf
    refine a_retE ?_
    obtain ⟨c1, hW⟩ := hW
    refine w_compV (e := (pW cc.InWire cc.SumWire cc.StoreWire)) T.cl_Net T.na_Net_all bo lk_all xf_all NoD.W NoD.W w c1 (fun _ => val_var rfl) hW ?_ ?_
    · intro Qy Qn one1 u1 F1 H1 R1 q1 ru1 hW hy1 hn1
      have w := Wf.id q1
      refine ⟨rfl, ?_⟩
      refine e_tT ?_
      refine e_op ?_
      refine e_mdU ?_
      refine e_val (v := u1) (val_var rfl) ?_
      have rU1 := ru1
      have hU1 := w.f
      obtain ⟨p1, dx1, fs1, ev1, ho1, lm1⟩ := W_at (m := "kind") rU1 hU1
      refine ⟨⟨_, wCls_mem _, _, _, _, ev1, ho1, lm1⟩, ?_⟩
      refine a_nil ?_
      refine u_P_kind rU1 hU1 ?_
      refine ⟨F1, (u1), _, rfl, w.f, ru1, hW, ?_⟩
      intro z1 hW F2 H2 s1
      replace ru1 := Rep.mono _ s1.g ru1
      replace w := w.tr s1
      refine e_val (v := (.str (word1))) (val_var rfl) ?_
      refine rv2T (b := decide (z1 = word1)) (c_eqS val_c val_c) ?_
      refine b_if (fun hc1 => ?_) (fun hc1 => ?_)
      · have hW := ifP hW hc1
        refine e_val (v := u1) (val_var rfl) ?_
        exact hy1 _ _ _ _ w ru1 hW
      · have hW := ifN hW hc1
        exact hn1 _ _ w hW
    intro p2 ys1 F3 H3 hp1 s2 x1 hW
    have ne1 := xf_all.ne hp1
    have ne2 := bo.ne hp1
    replace xf_all := xf_all.step s2
    replace bo := bo.step s2
    replace w := w.tr s2
    exact hQ _ hW _ _ _ w x1
abbrev s_Net_readings : Stmt := inClass (topS 30) 3
/-! Net.readings -/
def W_Net_readings (all1 : List (Str × WireV)) (ends1 : List Str) (R : (List Str) → Prop) : Prop := W_Net_of_kind all1 (PySem.Str.ofString "sum") fun z1 => forW z1 ([] : List Str) (fun one1 found1 nx1 bk1 => W_P_needs one1 fun z2 => (found1.length + z2.length < 1000000) ∧ nx1 (found1 ++ z2)) fun found1 => W_Net_of_kind all1 (PySem.Str.ofString "store") fun z3 => (z3.length < 1000000) ∧ compW z3 (fun one2 kk => ∃ y1, wWire one2 = some y1 ∧ kk (some y1)) fun ys1 => (found1.length + ys1.length < 1000000) ∧ ((found1 ++ ys1).length + ends1.length < 1000000) ∧ R ((found1 ++ ys1) ++ ends1)
def sp_Net_readings (K : PySem.W.Frag) (cc : Cz) : Sp := fun vs H Q _ => ∃ (F : Hp) (ob dx : Addr) (fs : List (Str × V)) (d_all : Addr) (all1 : List (Str × WireV)) (v_ends : V) (ends1 : List Str) (R : (List Str) → Prop), vs = [(.ref ob)] ∧ Ex F H ∧ H ob = some (.ins cc.Net dx fs) ∧ fs.lookup ("all" : Str) = some (V.ref d_all) ∧ BD (pW cc.InWire cc.SumWire cc.StoreWire) F H d_all all1 ∧ fs.lookup ("ends" : Str) = some v_ends ∧ (pL pS).r F v_ends ends1 ∧ fs.lookup ("of_kind" : Str) = none ∧ W_Net_readings all1 ends1 R ∧ ∀ z, R z → ∀ p F' H', Wf F H F' H' → XL pS H F' H' p z → Q (.ref p) H'
abbrev N_Net_readings : List Str := ["self", "found", "one"]
theorem sc_Net_readings : FnScope N_Net_readings ["self"] (defScope s_Net_readings) := ⟨rfl, rfl, rfl, by decide +kernel, rfl, by decide +kernel, by decide +kernel⟩
theorem ok_Net_readings {P : Program} {w0 : World} {K : PySem.W.Frag} {mg : Str → Option Value} {base : Heap} {f : Addr} {fd : FuncData} {cc : Cz} (T : Tz K mg cc) (FU : Fun K "readings" "Net.readings" s_Net_readings f fd) (hm : Meth K cc.Net "readings" f) (hb : Binds K fd ["self"] []) (c_Net_of_kind : Md P w0 K mg base CX0 2 cc.Net "of_kind" ["self", "word"] (sp_Net_of_kind K cc)) (c_P_needs : MdU P w0 K mg base CX0 1 (U_P_needs K cc) "needs" ["self"]) : Md P w0 K mg base CX0 3 cc.Net "readings" ["self"] (sp_Net_readings K cc) := by
  refine ⟨f, fd, FU.ok sc_Net_readings (fun vs H Q E h => ?_) (fun cdv A outer s H0 vs Q E hr h => ?_), hm, hb⟩
  · obtain ⟨_, _, _, _, _, _, _, _, _, rfl, _⟩ := h; rfl
  · obtain ⟨F0, ob, dx, fs, d_all, all1, v_ends, ends1, R, rfl, wf, hob, lk_all, xf_all, lk_ends, xf_ends, lm_of_kind, hW, hQ⟩ := h
    have nd := sc_Net_readings.nd
    refine ⟨(tSeq (tAsg (tLst tNil) (gName 1)) (tSeq (tFor (iList K (tMeth cc.Net "of_kind" (sp_Net_of_kind K cc) [] E0 (tVar 0) (tCons (tC (.str (PySem.Str.ofString "sum"))) tNil))) (gName 2) (tDrop (tBM K "list" rExtend (tVar 1) (tCons (tMethU (U_P_needs K cc) "needs" E0 (tVar 2) tNil) tNil)))) (tRet (tOp L2.rCat (tOp L2.rCat (tVar 1) (tLc (iList K (tMeth cc.Net "of_kind" (sp_Net_of_kind K cc) [] E0 (tVar 0) (tCons (tC (.str (PySem.Str.ofString "store"))) tNil))) (gName 2) tYes (tFld K (tVar 2) "wire") [2])) (tFld K (tVar 0) "ends"))))), (pss_cons (ps_set (i := 1) nd rfl (Or.inl rfl) (pe_lst pa_nil)) (pss_cons (ps_for PassesOwn.never rfl (pi_list (pe_md c_Net_of_kind T.cl_Net (hr.mono (by decide)) (pv 0) (pa_cons pe_str pa_nil))) (pg_name (i := 2) nd rfl (Or.inl rfl)) (pss_one (ps_expr (pe_bm PySem.F.plainAttrs_list PySem.F.slot_list_extend PySem.F.type_list_extend mt_extend (pv 1) (pa_cons (pe_mdU0 c_P_needs (hr.mono (by decide)) (pv 2)) pa_nil))))) (pss_one (ps_ret (pe_op op_cat (pe_op op_cat (pv 1) (pe_lc (own := [("one", 2)]) (wi := (iList K (tMeth cc.Net "of_kind" (sp_Net_of_kind K cc) [] E0 (tVar 0) (tCons (tC (.str (PySem.Str.ofString "store"))) tNil)))) (g := (gName 2)) (tt := tYes) (te := (tFld K (tVar 2) "wire")) rfl nd (pi_list (pe_md c_Net_of_kind T.cl_Net (hr.mono (by decide)) (pv 0) (pa_cons pe_str pa_nil))) (blkOk_by (N := N_Net_readings) (sc := defScope s_Net_readings) (by decide +kernel)) (fun _ _ _ _ _ => (pg_name (i := 2) nd rfl (Or.inl rfl))) (fun _ _ _ _ _ => pts_nil) (fun _ _ _ _ _ => (pe_fld (pv 2) rfl)))) (pe_fld (pv 0) rfl)))))), ?_⟩
    have bo : BO cc.Net F0 H0 ob dx fs := ⟨hob⟩
    have w := Wf.id wf
    refine q_sq fun N1 hN1 => ?_
    refine a_asgE ?_
    refine e_lst ?_
    refine a_nil ?_
    refine n_lstX (e := pS) (xs := []) (vs := []) (show All pS _ [] [] from trivial) (show 0 < 1000000 from by decide) w ?_
    intro p1 H1 hp1 s1 x1
    have ne1 := xf_all.ne hp1
    have ne2 := bo.ne hp1
    replace xf_all := xf_all.step s1
    replace xf_ends := Rep.mono _ s1.g xf_ends
    replace bo := bo.step s1
    replace w := w.tr s1
    refine hN1 _ _ ?_
    refine q_sq fun N2 hN2 => ?_
    refine f_LE ?_
    refine e_md ?_
    refine e_val (v := (.ref ob)) (val_var rfl) ?_
    refine ⟨_, _, _, rfl, bo.h, lm_of_kind, ?_⟩
    refine a_val (v := (.str ((PySem.Str.ofString "sum")))) val_c ?_
    refine a_nil ?_
    refine ⟨F0, ob, dx, fs, d_all, (all1), ((PySem.Str.ofString "sum")), _, rfl, w.f, bo.h, lk_all, xf_all, hW, ?_⟩
    intro z1 hW p2 F1 H2 s2 x2
    have ne3 := xf_all.ne x2.zero
    have ne4 := bo.ne x2.zero
    have ne5 := x1.ne x2.zero
    replace x2 := x2.base w
    replace xf_all := xf_all.step s2
    replace xf_ends := Rep.mono _ s2.g xf_ends
    replace bo := bo.step s2
    replace x1 := x1.step s2
    replace w := w.tr s2
    obtain ⟨F2, w1, g1, r1, fz1⟩ := x2.frzE w
    replace xf_all := xf_all.frzO fz1 ne3 g1
    replace xf_ends := Rep.mono _ g1 xf_ends
    replace bo := bo.frzO fz1 ne4 g1
    replace x1 := x1.frzO fz1 ne5 g1
    replace w := w1
    refine w_forL (S := List Str) (fun found1 σ' F' H' => ∃ (o1 : Option V), Wf F0 H0 F' H' ∧ Ex F2 F' ∧ σ' = [some (.ref ob), some ((.ref p1)), o1] ∧ XL pS H0 F' H' p1 found1 ∧ BD (pW cc.InWire cc.SumWire cc.StoreWire) F' H' d_all all1 ∧ BO cc.Net F' H' ob dx fs) r1 hW ⟨_, w, Ex.rfl', rfl, x1, xf_all, bo⟩ (fun s σ' F' H' hI => by obtain ⟨_, w', gx', _⟩ := hI; exact ⟨gx', w'.f⟩) w.f ?_ ?_
    · intro N3 Bk1 one1 u1 found1 σ' F3 H3 nx1 bk1 hI1 hx1 ru1 hW hN3 hB1
      obtain ⟨o1, w, gx1, rfl, x3, x4, x5⟩ := hI1
      have xf_ends := Rep.mono _ gx1 xf_ends
      have r1 := Rep.mono _ gx1 r1
      refine g_name ?_
      refine a_dropE ?_
      refine m_list x3 (val_var rfl) ?_
      refine a_cons ?_
      refine e_mdU ?_
      refine e_val (v := u1) (val_var rfl) ?_
      have rU1 := ru1
      have hU1 := w.f
      obtain ⟨p3, dx1, fs1, ev1, ho1, lm1⟩ := W_at (m := "needs") rU1 hU1
      refine ⟨⟨_, wCls_mem _, _, _, _, ev1, ho1, lm1⟩, ?_⟩
      refine a_nil ?_
      refine u_P_needs rU1 hU1 ?_
      refine ⟨F3, (u1), _, rfl, w.f, ru1, hW, ?_⟩
      intro z2 hW p4 F4 H4 s4 x6
      have ne6 := x4.ne x6.zero
      have ne7 := x5.ne x6.zero
      have ne8 := x3.ne x6.zero
      replace x6 := x6.base w
      replace x4 := x4.step s4
      replace xf_ends := Rep.mono _ s4.g xf_ends
      replace x5 := x5.step s4
      replace x3 := x3.step s4
      replace ru1 := Rep.mono _ s4.g ru1
      replace w := w.tr s4
      replace gx1 := Ex.tr gx1 s4.g
      refine a_nil ?_
      obtain ⟨F5, w2, g2, r2, fz2⟩ := x6.frzE w
      replace x4 := x4.frzO fz2 ne6 g2
      replace xf_ends := Rep.mono _ g2 xf_ends
      replace x5 := x5.frzO fz2 ne7 g2
      replace x3 := x3.frzO fz2 ne8 g2
      replace ru1 := Rep.mono _ g2 ru1
      replace w := w2
      replace gx1 := Ex.tr gx1 g2
      obtain ⟨c1, hW⟩ := hW
      refine a_ext x3 r2 w c1 (fun H5 w3 x7 kp1 => ?_)
      replace x4 := x4.kept kp1 ne1
      replace x5 := x5.kept kp1 ne2
      replace w := w3
      exact hN3 (found1 ++ z2) _ _ _ ⟨_, w, gx1, rfl, x7, x4, x5⟩ hW
    · intro found1 σ' F6 H6 hI2 hW
      obtain ⟨o1, w, gx2, rfl, x3, x4, x5⟩ := hI2
      have xf_ends := Rep.mono _ gx2 xf_ends
      have r1 := Rep.mono _ gx2 r1
      refine hN2 _ _ ?_
      refine a_retE ?_
      refine e_op ?_
      refine e_op ?_
      refine e_val (v := (.ref p1)) (val_var rfl) ?_
      refine c_LE ?_
      refine e_md ?_
      refine e_val (v := (.ref ob)) (val_var rfl) ?_
      refine ⟨_, _, _, rfl, x5.h, lm_of_kind, ?_⟩
      refine a_val (v := (.str ((PySem.Str.ofString "store")))) val_c ?_
      refine a_nil ?_
      refine ⟨F6, ob, dx, fs, d_all, (all1), ((PySem.Str.ofString "store")), _, rfl, w.f, x5.h, lk_all, x4, hW, ?_⟩
      intro z3 hW p5 F7 H7 s6 x8
      have ne9 := x4.ne x8.zero
      have ne10 := x5.ne x8.zero
      have ne11 := x3.ne x8.zero
      replace x8 := x8.base w
      replace x4 := x4.step s6
      replace xf_ends := Rep.mono _ s6.g xf_ends
      replace x5 := x5.step s6
      replace x3 := x3.step s6
      replace w := w.tr s6
      replace gx2 := Ex.tr gx2 s6.g
      obtain ⟨F8, w4, g3, r3, fz3⟩ := x8.frzE w
      replace x4 := x4.frzO fz3 ne9 g3
      replace xf_ends := Rep.mono _ g3 xf_ends
      replace x5 := x5.frzO fz3 ne10 g3
      replace x3 := x3.frzO fz3 ne11 g3
      replace w := w4
      replace gx2 := Ex.tr gx2 g3
      obtain ⟨c2, hW⟩ := hW
      refine w_compL (e := pS) r3 w c2 hW ?_ ?_
      · intro Qy Qn one2 u2 F9 H8 R1 q1 hx2 ru2 hW hy1 hn1
        have x4 := x4.step q1
        have xf_ends := Rep.mono _ q1.g xf_ends
        have x5 := x5.step q1
        have x3 := x3.step q1
        have r3 := Rep.mono _ q1.g r3
        have w := Wf.id q1.f
        refine ⟨rfl, ?_⟩
        refine c_yes ?_
        obtain ⟨y1, hy2, hW⟩ := hW
        refine e_val (v := (.str (y1))) (fl_Wwire (tw_of T) ru2 w.f hy2 (val_var rfl)) ?_
        exact hy1 _ _ _ _ w rfl hW
      intro p6 ys1 F10 H9 hp2 s7 x9 hW
      have ne12 := x4.ne hp2
      have ne13 := x5.ne hp2
      have ne14 := x3.ne hp2
      replace x4 := x4.step s7
      replace xf_ends := Rep.mono _ s7.g xf_ends
      replace x5 := x5.step s7
      replace x3 := x3.step s7
      replace r3 := Rep.mono _ s7.g r3
      replace w := w.tr s7
      replace gx2 := Ex.tr gx2 s7.g
      obtain ⟨F11, w5, g4, r4, fz4⟩ := x3.frzE w
      replace x4 := x4.frzO fz4 ne1 g4
      replace xf_ends := Rep.mono _ g4 xf_ends
      replace x5 := x5.frzO fz4 ne2 g4
      replace r3 := Rep.mono _ g4 r3
      replace x9 := x9.frzO fz4 (Ne.symm ne14) g4
      replace w := w5
      replace gx2 := Ex.tr gx2 g4
      obtain ⟨F12, w6, g5, r5, fz5⟩ := x9.frzE w
      replace x4 := x4.frzO fz5 ne12 g5
      replace xf_ends := Rep.mono _ g5 xf_ends
      replace x5 := x5.frzO fz5 ne13 g5
      replace r4 := Rep.mono _ g5 r4
      replace r3 := Rep.mono _ g5 r3
      replace w := w6
      replace gx2 := Ex.tr gx2 g5
      obtain ⟨c3, hW⟩ := hW
      refine n_cat r4 r5 w c3 ?_
      intro p7 H10 hp3 s8 x10
      have ne15 := x4.ne hp3
      have ne16 := x5.ne hp3
      replace x4 := x4.step s8
      replace xf_ends := Rep.mono _ s8.g xf_ends
      replace x5 := x5.step s8
      replace r4 := Rep.mono _ s8.g r4
      replace r3 := Rep.mono _ s8.g r3
      replace r5 := Rep.mono _ s8.g r5
      replace w := w.tr s8
      replace gx2 := Ex.tr gx2 s8.g
      refine e_val (v := v_ends) (fl_B (na := T.na_Net_ends) T.cl_Net x5 lk_ends (val_var rfl)) ?_
      obtain ⟨F13, w7, g6, r6, fz6⟩ := x10.frzE w
      replace x4 := x4.frzO fz6 ne15 g6
      replace xf_ends := Rep.mono _ g6 xf_ends
      replace x5 := x5.frzO fz6 ne16 g6
      replace r4 := Rep.mono _ g6 r4
      replace r3 := Rep.mono _ g6 r3
      replace r5 := Rep.mono _ g6 r5
      replace w := w7
      replace gx2 := Ex.tr gx2 g6
      obtain ⟨c4, hW⟩ := hW
      refine n_cat r6 xf_ends w c4 ?_
      intro p8 H11 hp4 s9 x11
      have ne17 := x4.ne hp4
      have ne18 := x5.ne hp4
      replace x4 := x4.step s9
      replace xf_ends := Rep.mono _ s9.g xf_ends
      replace x5 := x5.step s9
      replace r4 := Rep.mono _ s9.g r4
      replace r3 := Rep.mono _ s9.g r3
      replace r5 := Rep.mono _ s9.g r5
      replace r6 := Rep.mono _ s9.g r6
      replace w := w.tr s9
      replace gx2 := Ex.tr gx2 s9.g
      exact hQ _ hW _ _ _ w x11
abbrev s_Net_wire_of : Stmt := inClass (topS 30) 10
/-! Net.wire_of -/
def W_Net_wire_of (all1 : List (Str × WireV)) (name1 : Str) (R : WireV → Prop) : Prop := jn (fun kk => W_is_name (An.s name1) fun z1 => if z1 = true then (kk (decide (¬ (hasT all1 name1 = true)))) else (kk true)) fun b1 => if b1 = true then (False) else (∃ x3, valT all1 name1 = some x3 ∧ R x3)
def sp_Net_wire_of (K : PySem.W.Frag) (cc : Cz) : Sp := fun vs H Q _ => ∃ (F : Hp) (ob dx : Addr) (fs : List (Str × V)) (d_all : Addr) (all1 : List (Str × WireV)) (name1 : Str) (R : WireV → Prop), vs = [(.ref ob), (.str (name1))] ∧ Ex F H ∧ H ob = some (.ins cc.Net dx fs) ∧ fs.lookup ("all" : Str) = some (V.ref d_all) ∧ BD (pW cc.InWire cc.SumWire cc.StoreWire) F H d_all all1 ∧ W_Net_wire_of all1 name1 R ∧ ∀ z, R z → ∀ v F' H', Wf F H F' H' → (pW cc.InWire cc.SumWire cc.StoreWire).r F' v z → Q v H'
abbrev N_Net_wire_of : List Str := ["self", "name"]
theorem sc_Net_wire_of : FnScope N_Net_wire_of ["self", "name"] (defScope s_Net_wire_of) := ⟨rfl, rfl, rfl, by decide +kernel, rfl, by decide +kernel, by decide +kernel⟩
theorem ok_Net_wire_of {P : Program} {w0 : World} {K : PySem.W.Frag} {mg : Str → Option Value} {base : Heap} {f : Addr} {fd : FuncData} {cc : Cz} (T : Tz K mg cc) (FU : Fun K "wire_of" "Net.wire_of" s_Net_wire_of f fd) (hm : Meth K cc.Net "wire_of" f) (hb : Binds K fd ["self", "name"] []) (c_is_name : Fn P w0 K mg base CX0 1 "is_name" ["thing"] (sp_is_name K cc)) : Md P w0 K mg base CX0 2 cc.Net "wire_of" ["self", "name"] (sp_Net_wire_of K cc) := by
  refine ⟨f, fd, FU.ok sc_Net_wire_of (fun vs H Q E h => ?_) (fun cdv A outer s H0 vs Q E hr h => ?_), hm, hb⟩
  · obtain ⟨_, _, _, _, _, _, _, _, rfl, _⟩ := h; rfl
  · obtain ⟨F0, ob, dx, fs, d_all, all1, name1, R, rfl, wf, hob, lk_all, xf_all, hW, hQ⟩ := h
    have nd := sc_Net_wire_of.nd
    refine ⟨(tSeq (tIfS (tOr (tNot (tB (tCall (sp_is_name K cc) [] E0 (tCons (tVar 1) tNil)))) (tB (tDNotIn (tVar 1) (tFld K (tVar 0) "all")))) tNever tNext) (tRet (tDGet (tFld K (tVar 0) "all") (tVar 1)))), (pss_cons (ps_if (PW.pt (pw_or (pt_not (pt_val (pe_fn c_is_name (hr.mono (by decide)) rfl (pa_cons (pv 1) pa_nil)))) (pw_or1 (pt_cmp (pc_dnotin (hu_of hr) (pv 1) (pe_fld (pv 0) rfl)))))) (pss_one ps_never) pss_nil) (pss_one (ps_ret (pe_dget (hu_of hr) (pe_fld (pv 0) rfl) (pv 1) (fun _ _ => rfl))))), ?_⟩
    have bo : BO cc.Net F0 H0 ob dx fs := ⟨hob⟩
    have w := Wf.id wf
    refine q_sq fun N1 hN1 => ?_
    refine a_ifE ?_
    refine e_jnT hW (fun b F' H' => b = b ∧ Wf F0 H0 F' H' ∧ Ex F0 F' ∧ BD (pW cc.InWire cc.SumWire cc.StoreWire) F' H' d_all all1 ∧ BO cc.Net F' H' ob dx fs) ?_ ?_
    · intro N2 hN2 hW
      have gx1 : Ex F0 F0 := Ex.rfl'
      refine e_tOr ?_
      refine e_tNot ?_
      refine e_tB ?_
      refine e_call ?_
      refine a_val (v := (.str (name1))) (val_var rfl) ?_
      refine a_nil ?_
      refine ⟨F0, ((.str (name1))), ((An.s name1)), _, rfl, w.f, (show pA.r _ (.str (name1)) (An.s name1) from rfl), hW, ?_⟩
      intro z1 hW F1 H1 s1
      replace xf_all := xf_all.step s1
      replace bo := bo.step s1
      replace w := w.tr s1
      replace gx1 := Ex.tr gx1 s1.g
      refine bl_v ?_
      refine bb_ifn (fun hc1 => ?_) (fun hc1 => ?_)
      · have hW := ifP hW hc1
        refine e_ans (b := decide (¬ (hasT all1 name1 = true))) (t_ofB (vb_of (nin_BD (j := name1) xf_all (val_var rfl) (fl_B (na := T.na_Net_all) T.cl_Net bo lk_all (val_var rfl))) dec_nt)) ?_
        exact hN2 (decide (¬ (hasT all1 name1 = true))) _ _ ⟨rfl, w, gx1, xf_all, bo⟩ hW
      · have hW := ifN hW hc1
        exact hN2 true _ _ ⟨rfl, w, gx1, xf_all, bo⟩ hW
    intro b1 F2 H2 hI1 hW
    obtain ⟨_, w, gx2, x1, x2⟩ := hI1
    refine bb_if (fun hc2 => ?_) (fun hc2 => ?_)
    · have hW := ifP hW hc2
      exact hW
    · have hW := ifN hW hc2
      refine hN1 _ _ ?_
      obtain ⟨x3, hx1, hW⟩ := hW
      obtain ⟨v1, r1, ix1⟩ := ix_BD x1 hx1
      refine a_ret (v := v1) (ix1 (fl_B (na := T.na_Net_all) T.cl_Net x2 lk_all (val_var rfl)) (val_var rfl)) ?_
      exact hQ _ hW _ _ _ w r1
abbrev s_Net_lay_out : Stmt := inClass (topS 30) 4
/-! Net.lay_out -/
def W_Net_lay_out (all1 : List (Str × WireV)) (line_up1 : List Str) (laid1 : List (Str × Bool)) (first1 : Str) (R : (List Str × List (Str × Bool)) → Prop) : Prop := whileW (fun (path1, self_laid1, self_line_up1) T => (okV (pL pS) path1 ∧ okV (pL pS) ([] : List Str)) ∧ T (decide (path1 ≠ ([] : List Str)))) (fun (path1, self_laid1, self_line_up1) nx1 bk1 => ∃ x8, path1.getLast? = some x8 ∧ ∃ x9, valT all1 x8 = some x9 ∧ W_P_needs x9 fun z1 => (z1.length < 1000000) ∧ compW z1 (fun name1 kk => jn (fun kk => ∃ x16, valT all1 name1 = some x16 ∧ W_P_kind x16 fun z2 => if z2 = (PySem.Str.ofString "sum") then (kk (decide (¬ (hasT self_laid1 name1 = true)))) else (kk false)) fun b1 => if b1 = true then (kk (some name1)) else (kk none)) fun ys1 => jn (fun kk => if hasT self_laid1 x8 = true then (kk true) else ((okV (pL pS) ys1 ∧ okV (pL pS) ([] : List Str)) ∧ kk (decide (ys1 = ([] : List Str))))) fun b2 => if b2 = true then ((path1 ≠ []) ∧ if ¬ (hasT self_laid1 x8 = true) then ((self_laid1.length < 1000000) ∧ (self_line_up1.length < 1000000) ∧ nx1 (path1.dropLast, putT self_laid1 x8 true, self_line_up1 ++ [x8])) else (nx1 (path1.dropLast, self_laid1, self_line_up1))) else (∃ x27, ys1[0]? = some x27 ∧ if x27 ∈ path1 then (False) else (∃ x28, ys1[0]? = some x28 ∧ (path1.length < 1000000) ∧ nx1 (path1 ++ [x28], self_laid1, self_line_up1)))) ([first1], laid1, line_up1) fun (path1, self_laid1, self_line_up1) => R (self_line_up1, self_laid1)
def sp_Net_lay_out (K : PySem.W.Frag) (cc : Cz) : Sp := fun vs H Q _ => ∃ (F : Hp) (ob dx : Addr) (fs : List (Str × V)) (d_all : Addr) (all1 : List (Str × WireV)) (d_line_up : Addr) (line_up1 : List Str) (d_laid : Addr) (laid1 : List (Str × Bool)) (first1 : Str) (R : (List Str × List (Str × Bool)) → Prop), vs = [(.ref ob), (.str (first1))] ∧ Ex F H ∧ H ob = some (.ins cc.Net dx fs) ∧ fs.lookup ("all" : Str) = some (V.ref d_all) ∧ BD (pW cc.InWire cc.SumWire cc.StoreWire) F H d_all all1 ∧ fs.lookup ("line_up" : Str) = some (V.ref d_line_up) ∧ XL pS (woL H [d_line_up, d_laid]) F H d_line_up line_up1 ∧ fs.lookup ("laid" : Str) = some (V.ref d_laid) ∧ XD pB (woL H [d_line_up, d_laid]) F H d_laid laid1 ∧ d_all ≠ d_line_up ∧ d_all ≠ d_laid ∧ d_line_up ≠ d_laid ∧ W_Net_lay_out all1 line_up1 laid1 first1 R ∧ ∀ z, R z → ∀ F' H', Wf F (woL H [d_line_up, d_laid]) F' H' → XL pS (woL H [d_line_up, d_laid]) F' H' d_line_up z.1 → XD pB (woL H [d_line_up, d_laid]) F' H' d_laid z.2 → Q .non H'
abbrev N_Net_lay_out : List Str := ["self", "first", "path", "here", "left", "name"]
theorem sc_Net_lay_out : FnScope N_Net_lay_out ["self", "first"] (defScope s_Net_lay_out) := ⟨rfl, rfl, rfl, by decide +kernel, rfl, by decide +kernel, by decide +kernel⟩
theorem ok_Net_lay_out {P : Program} {w0 : World} {K : PySem.W.Frag} {mg : Str → Option Value} {base : Heap} {f : Addr} {fd : FuncData} {cc : Cz} (T : Tz K mg cc) (FU : Fun K "lay_out" "Net.lay_out" s_Net_lay_out f fd) (hm : Meth K cc.Net "lay_out" f) (hb : Binds K fd ["self", "first"] []) (c_P_needs : MdU P w0 K mg base CX0 1 (U_P_needs K cc) "needs" ["self"]) (c_P_kind : MdU P w0 K mg base CX0 1 (U_P_kind K cc) "kind" ["self"]) : Md P w0 K mg base CX0 2 cc.Net "lay_out" ["self", "first"] (sp_Net_lay_out K cc) := by
  refine ⟨f, fd, FU.ok sc_Net_lay_out (fun vs H Q E h => ?_) (fun cdv A outer s H0 vs Q E hr h => ?_), hm, hb⟩
  · obtain ⟨_, _, _, _, _, _, _, _, _, _, _, _, rfl, _⟩ := h; rfl
  · obtain ⟨F0, ob, dx, fs, d_all, all1, d_line_up, line_up1, d_laid, laid1, first1, R, rfl, wf, hob, lk_all, xf_all, lk_line_up, xf_line_up, lk_laid, xf_laid, ne_all_line_up, ne_all_laid, ne_line_up_laid, hW, hQ⟩ := h
    have nd := sc_Net_lay_out.nd
    refine ⟨(tSeq (tAsg (tLst (tCons (tVar 1) tNil)) (gName 2)) (tWhile (tTest (tOp (L2.rNeD K) (tVar 2) (tLst tNil))) (tSeq (tAsg (tOp (L2.rIxL K) (tVar 2) (tUn kNeg (tC (.int 1)))) (gName 3)) (tSeq (tAsg (tLc (iList K (tMethU (U_P_needs K cc) "needs" E0 (tDGet (tFld K (tVar 0) "all") (tVar 3)) tNil)) (gName 5) (tAnd (tTest (tOp L2.rEq (tMethU (U_P_kind K cc) "kind" E0 (tDGet (tFld K (tVar 0) "all") (tVar 5)) tNil) (tC (.str (PySem.Str.ofString "sum"))))) (tB (tDNotIn (tVar 5) (tFld K (tVar 0) "laid")))) (tVar 5) [5]) (gName 4)) (tIfS (tOr (tB (tDIn (tVar 3) (tFld K (tVar 0) "laid"))) (tTest (tOp (L2.rEqD K) (tVar 4) (tLst tNil)))) (tSeq (tDrop (tBM0 K "list" rPop (tVar 2))) (tIfS (tB (tDNotIn (tVar 3) (tFld K (tVar 0) "laid"))) (tSeq (sDPut (tFld K (tVar 0) "laid") (tVar 3) (tC (.bl true))) (tDrop (tBM K "list" rAppend (tFld K (tVar 0) "line_up") (tCons (tVar 3) tNil)))) tNext)) (tIfS (tTest (tOp (rIn K false) (tOp (L2.rIxL K) (tVar 4) (tC (.int 0))) (tVar 2))) tNever (tDrop (tBM K "list" rAppend (tVar 2) (tCons (tOp (L2.rIxL K) (tVar 4) (tC (.int 0))) tNil))))))))), (pss_cons (ps_set (i := 2) nd rfl (Or.inl rfl) (pe_lst (pa_cons (pv 1) pa_nil))) (pss_one (ps_while PassesOwn.never (pt_cmpR (op_neD hr.units) (pv 2) (pe_lst pa_nil) (nomark _)) (pss_cons (ps_set (i := 3) nd rfl (Or.inl rfl) (pe_ix ix_list (pv 2) (pe_un un_neg pe_int) (fun _ _ => rfl))) (pss_cons (ps_setLc (i := 4) (own := [("name", 5)]) (wi := (iList K (tMethU (U_P_needs K cc) "needs" E0 (tDGet (tFld K (tVar 0) "all") (tVar 3)) tNil))) (g := (gName 5)) (tt := (tAnd (tTest (tOp L2.rEq (tMethU (U_P_kind K cc) "kind" E0 (tDGet (tFld K (tVar 0) "all") (tVar 5)) tNil) (tC (.str (PySem.Str.ofString "sum"))))) (tB (tDNotIn (tVar 5) (tFld K (tVar 0) "laid"))))) (te := (tVar 5)) rfl nd rfl rfl (sw_true rfl rfl rfl (by decide +kernel)) (pi_list (pe_mdU0 c_P_needs (hr.mono (by decide)) (pe_dget (hu_of hr) (pe_fld (pv 0) rfl) (pv 3) (fun _ _ => rfl)))) (blkOk_by (N := N_Net_lay_out) (sc := defScope s_Net_lay_out) (by decide +kernel)) (fun _ _ _ _ _ => (pg_name (i := 5) nd rfl (Or.inl rfl))) (fun _ _ _ _ _ => (pts_one (PW.pt (pw_and (pt_cmpR op_eq (pe_mdU0 c_P_kind (hr.mono (by decide)) (pe_dget (hu_of hr) (pe_fld (pv 0) rfl) (pv 5) (fun _ _ => rfl))) pe_str (nomark _)) (pw_and1 (pt_cmp (pc_dnotin (hu_of hr) (pv 5) (pe_fld (pv 0) rfl)))))))) (fun _ _ _ _ _ => (pv 5))) (pss_one (ps_if (PW.pt (pw_or (pt_cmp (pc_din (hu_of hr) (pv 3) (pe_fld (pv 0) rfl))) (pw_or1 (pt_cmpR (op_eqD hr.units) (pv 4) (pe_lst pa_nil) (nomark _))))) (pss_cons (ps_expr (pe_bm0 PySem.F.plainAttrs_list PySem.F.slot_list_pop PySem.F.type_list_pop mt_pop (pv 2))) (pss_one (ps_if (pt_cmp (pc_dnotin (hu_of hr) (pv 3) (pe_fld (pv 0) rfl))) (pss_cons (ps_dput (hu_of hr) (pe_fld (pv 0) rfl) (pv 3) pe_bl rfl) (pss_one (ps_expr (pe_bm PySem.F.plainAttrs_list PySem.F.slot_list_append PySem.F.type_list_append mt_append (pe_fld (pv 0) rfl) (pa_cons (pv 3) pa_nil))))) pss_nil))) (pss_one (ps_if (pt_cmpR op_in_seq (pe_ix ix_list (pv 4) pe_int (fun _ _ => rfl)) (pv 2) rfl) (pss_one ps_never) (pss_one (ps_expr (pe_bm PySem.F.plainAttrs_list PySem.F.slot_list_append PySem.F.type_list_append mt_append (pv 2) (pa_cons (pe_ix ix_list (pv 4) pe_int (fun _ _ => rfl)) pa_nil))))))))))))), ?_⟩
    have bo : BO cc.Net F0 H0 ob dx fs := ⟨hob⟩
    have no_line_up : d_line_up ≠ ob := xf_line_up.bw.neI hob
    have no_laid : d_laid ≠ ob := xf_laid.bw.neO hob
    have w := Wf.startL (L := [d_line_up, d_laid]) wf (allL2 xf_line_up.nF xf_laid.nF)
    generalize hH0 : woL H0 [d_line_up, d_laid] = Hb at w hQ xf_line_up xf_laid
    refine q_sq fun N1 hN1 => ?_
    refine a_asgE ?_
    refine e_lst ?_
    refine a_val (v := (.str (first1))) (val_var rfl) ?_
    refine a_nil ?_
    refine n_lstX (e := pS) (xs := [first1]) (vs := [(.str (first1))]) (show All pS _ [(.str (first1))] [first1] from ⟨rfl, trivial⟩) (show 1 < 1000000 from by decide) w ?_
    intro p1 H1 hp1 s1 x1
    have ne1 := xf_all.ne hp1
    have ne2 := xf_line_up.ne hp1
    have ne3 := xf_laid.ne hp1
    have ne4 := bo.ne hp1
    replace xf_all := xf_all.step s1
    replace xf_line_up := xf_line_up.step s1
    replace xf_laid := xf_laid.step s1
    replace bo := bo.step s1
    replace w := w.tr s1
    refine hN1 _ _ ?_
    refine w_while (S := List Str × (List (Str × Bool)) × List Str) (fun s σ' F' H' => match s with | (path1, self_laid1, self_line_up1) => ∃ (o1 : Option V) (o2 : Option V), Wf F0 Hb F' H' ∧ Ex F0 F' ∧ σ' = [some (.ref ob), some (.str (first1)), some ((.ref p1)), o1, o2, none] ∧ XL pS Hb F' H' p1 path1 ∧ XD pB Hb F' H' d_laid self_laid1 ∧ XL pS Hb F' H' d_line_up self_line_up1 ∧ BD (pW cc.InWire cc.SumWire cc.StoreWire) F' H' d_all all1 ∧ BO cc.Net F' H' ob dx fs) hW ⟨_, _, w, Ex.rfl', rfl, x1, xf_laid, xf_line_up, xf_all, bo⟩ ?_ ?_ ?_
    · intro s2 σ' F1 H2 T1 Qc1 hI1 hW hT1
      obtain ⟨path1, self_laid1, self_line_up1⟩ := s2
      obtain ⟨o1, o2, w, gx1, rfl, x2, x3, x4, x5, x6⟩ := hI1
      refine e_tT ?_
      refine e_op ?_
      refine e_val (v := (.ref p1)) (val_var rfl) ?_
      refine e_lst ?_
      refine a_nil ?_
      refine n_lstX (e := pS) (xs := []) (vs := []) (show All pS _ [] [] from trivial) (show 0 < 1000000 from by decide) w ?_
      intro p2 H3 hp2 s3 x7
      have ne5 := x5.ne hp2
      have ne6 := x4.ne hp2
      have ne7 := x3.ne hp2
      have ne8 := x6.ne hp2
      have ne9 := x2.ne hp2
      replace x5 := x5.step s3
      replace x4 := x4.step s3
      replace x3 := x3.step s3
      replace x6 := x6.step s3
      replace x2 := x2.step s3
      replace w := w.tr s3
      replace gx1 := Ex.tr gx1 s3.g
      obtain ⟨F2, w1, g1, r1, fz1⟩ := x7.frzE w
      replace x5 := x5.frzO fz1 ne5 g1
      replace x4 := x4.frzO fz1 ne6 g1
      replace x3 := x3.frzO fz1 ne7 g1
      replace x6 := x6.frzO fz1 ne8 g1
      replace x2 := x2.frzO fz1 ne9 g1
      replace w := w1
      replace gx1 := Ex.tr gx1 g1
      obtain ⟨Fl1, lf1, _, lr1⟩ := x2.lend w
      obtain ⟨c1, hW⟩ := hW
      refine rv2T (b := decide (path1 ≠ ([] : List Str))) (c_neO (K := K) (e := (pL pS)) val_c val_c lf1 lr1 w.f r1 c1) ?_
      exact hT1 _ _ _ ⟨_, _, w, gx1, rfl, x2, x3, x4, x5, x6⟩ hW
    · intro N2 Bk1 s4 σ' F3 H4 nx1 bk1 hI2 hW hN2 hB1
      obtain ⟨path1, self_laid1, self_line_up1⟩ := s4
      obtain ⟨o1, o2, w, gx2, rfl, x2, x3, x4, x5, x6⟩ := hI2
      refine q_sq fun N3 hN3 => ?_
      obtain ⟨x8, hx8_1, hW⟩ := hW
      obtain ⟨_, rfl, ix1⟩ := ix_Xm (K := K) x2 hx8_1
      refine a_asg (v := (.str (x8))) (ix1 (val_var rfl) (v_neg val_c)) ?_
      refine hN3 _ _ ?_
      refine q_sq fun N4 hN4 => ?_
      refine a_asgE ?_
      refine c_LE ?_
      refine e_mdU ?_
      obtain ⟨x9, hx1, hW⟩ := hW
      obtain ⟨v1, r2, ix2⟩ := ix_BD x5 hx1
      refine e_val (v := v1) (ix2 (fl_B (na := T.na_Net_all) T.cl_Net x6 lk_all (val_var rfl)) (val_var rfl)) ?_
      have rU1 := r2
      have hU1 := w.f
      obtain ⟨p3, dx1, fs1, ev1, ho1, lm1⟩ := W_at (m := "needs") rU1 hU1
      refine ⟨⟨_, wCls_mem _, _, _, _, ev1, ho1, lm1⟩, ?_⟩
      refine a_nil ?_
      refine u_P_needs rU1 hU1 ?_
      refine ⟨F3, (v1), _, rfl, w.f, r2, hW, ?_⟩
      intro z1 hW p4 F4 H5 s5 x10
      have ne10 := x5.ne x10.zero
      have ne11 := x4.ne x10.zero
      have ne12 := x3.ne x10.zero
      have ne13 := x6.ne x10.zero
      have ne14 := x2.ne x10.zero
      replace x10 := x10.base w
      replace x5 := x5.step s5
      replace x4 := x4.step s5
      replace x3 := x3.step s5
      replace x6 := x6.step s5
      replace x2 := x2.step s5
      replace r2 := Rep.mono _ s5.g r2
      replace w := w.tr s5
      replace gx2 := Ex.tr gx2 s5.g
      obtain ⟨F5, w2, g2, r3, fz2⟩ := x10.frzE w
      replace x5 := x5.frzO fz2 ne10 g2
      replace x4 := x4.frzO fz2 ne11 g2
      replace x3 := x3.frzO fz2 ne12 g2
      replace x6 := x6.frzO fz2 ne13 g2
      replace x2 := x2.frzO fz2 ne14 g2
      replace r2 := Rep.mono _ g2 r2
      replace w := w2
      replace gx2 := Ex.tr gx2 g2
      obtain ⟨c2, hW⟩ := hW
      refine w_compL (e := pS) r3 w c2 hW ?_ ?_
      · intro Qy Qn name1 u1 F6 H6 R1 q1 hx2 ru1 hW hy1 hn1
        have x5 := x5.step q1
        have x4 := x4.step q1
        have x3 := x3.step q1
        have x6 := x6.step q1
        have x2 := x2.step q1
        have r2 := Rep.mono _ q1.g r2
        have r3 := Rep.mono _ q1.g r3
        have w := Wf.id q1.f
        obtain rfl : u1 = (.str (name1)) := ru1
        refine ⟨rfl, ?_⟩
        refine e_jnT hW (fun b F' H' => b = b ∧ Wf F6 H6 F' H' ∧ Ex F6 F' ∧ BD (pW cc.InWire cc.SumWire cc.StoreWire) F' H' d_all all1 ∧ XL pS Hb F' H' d_line_up self_line_up1 ∧ XD pB Hb F' H' d_laid self_laid1 ∧ BO cc.Net F' H' ob dx fs ∧ XL pS Hb F' H' p1 path1) ?_ ?_
        · intro N5 hN5 hW
          have gx3 : Ex F6 F6 := Ex.rfl'
          refine e_tAnd ?_
          refine e_tT ?_
          refine e_op ?_
          refine e_mdU ?_
          obtain ⟨x16, hx3, hW⟩ := hW
          obtain ⟨v2, r4, ix3⟩ := ix_BD x5 hx3
          refine e_val (v := v2) (ix3 (fl_B (na := T.na_Net_all) T.cl_Net x6 lk_all (val_var rfl)) (val_var rfl)) ?_
          have rU2 := r4
          have hU2 := w.f
          obtain ⟨p5, dx2, fs2, ev2, ho2, lm2⟩ := W_at (m := "kind") rU2 hU2
          refine ⟨⟨_, wCls_mem _, _, _, _, ev2, ho2, lm2⟩, ?_⟩
          refine a_nil ?_
          refine u_P_kind rU2 hU2 ?_
          refine ⟨F6, (v2), _, rfl, w.f, r4, hW, ?_⟩
          intro z2 hW F7 H7 s6
          replace x5 := x5.step s6
          replace x4 := x4.step s6
          replace x3 := x3.step s6
          replace x6 := x6.step s6
          replace x2 := x2.step s6
          replace r2 := Rep.mono _ s6.g r2
          replace r3 := Rep.mono _ s6.g r3
          replace r4 := Rep.mono _ s6.g r4
          replace w := w.tr s6
          replace gx3 := Ex.tr gx3 s6.g
          refine e_val (v := (.str ((PySem.Str.ofString "sum")))) val_c ?_
          refine rv2T (b := decide (z2 = (PySem.Str.ofString "sum"))) (c_eqS val_c val_c) ?_
          refine b_if (fun hc1 => ?_) (fun hc1 => ?_)
          · have hW := ifP hW hc1
            refine e_ans (b := decide (¬ (hasT self_laid1 name1 = true))) (t_ofB (vb_of (nin_XD (j := name1) x3 (val_var rfl) (fl_B (na := T.na_Net_laid) T.cl_Net x6 lk_laid (val_var rfl))) dec_nt)) ?_
            exact hN5 (decide (¬ (hasT self_laid1 name1 = true))) _ _ ⟨rfl, w, gx3, x5, x4, x3, x6, x2⟩ hW
          · have hW := ifN hW hc1
            exact hN5 false _ _ ⟨rfl, w, gx3, x5, x4, x3, x6, x2⟩ hW
        intro b1 F8 H8 hI3 hW
        obtain ⟨_, w, gx4, x11, x12, x13, x14, x15⟩ := hI3
        have r2 := Rep.mono _ gx4 r2
        have r3 := Rep.mono _ gx4 r3
        refine bb_if (fun hc2 => ?_) (fun hc2 => ?_)
        · have hW := ifP hW hc2
          refine e_val (v := (.str (name1))) (val_var rfl) ?_
          exact hy1 _ _ _ _ w rfl hW
        · have hW := ifN hW hc2
          exact hn1 _ _ w hW
      intro p6 ys1 F9 H9 hp3 s7 x17 hW
      have ne15 := x5.ne hp3
      have ne16 := x4.ne hp3
      have ne17 := x3.ne hp3
      have ne18 := x6.ne hp3
      have ne19 := x2.ne hp3
      replace x5 := x5.step s7
      replace x4 := x4.step s7
      replace x3 := x3.step s7
      replace x6 := x6.step s7
      replace x2 := x2.step s7
      replace r2 := Rep.mono _ s7.g r2
      replace r3 := Rep.mono _ s7.g r3
      replace w := w.tr s7
      replace gx2 := Ex.tr gx2 s7.g
      obtain ⟨F10, w3, g3, r5, fz3⟩ := x17.frzE w
      replace x5 := x5.frzO fz3 ne15 g3
      replace x4 := x4.frzO fz3 ne16 g3
      replace x3 := x3.frzO fz3 ne17 g3
      replace x6 := x6.frzO fz3 ne18 g3
      replace x2 := x2.frzO fz3 ne19 g3
      replace r2 := Rep.mono _ g3 r2
      replace r3 := Rep.mono _ g3 r3
      replace w := w3
      replace gx2 := Ex.tr gx2 g3
      refine hN4 _ _ ?_
      refine a_ifE ?_
      refine e_jnT hW (fun b F' H' => b = b ∧ Wf F0 Hb F' H' ∧ Ex F10 F' ∧ BD (pW cc.InWire cc.SumWire cc.StoreWire) F' H' d_all all1 ∧ XL pS Hb F' H' d_line_up self_line_up1 ∧ XD pB Hb F' H' d_laid self_laid1 ∧ BO cc.Net F' H' ob dx fs ∧ XL pS Hb F' H' p1 path1) ?_ ?_
      · intro N6 hN6 hW
        have gx5 : Ex F10 F10 := Ex.rfl'
        refine e_tOr ?_
        refine e_ans (b := decide (hasT self_laid1 x8 = true)) (t_ofB (vb_of (in_XD (j := x8) x3 (val_var rfl) (fl_B (na := T.na_Net_laid) T.cl_Net x6 lk_laid (val_var rfl))) dec_tt)) ?_
        refine b_if (fun hc3 => ?_) (fun hc3 => ?_)
        · have hW := ifP hW hc3
          exact hN6 true _ _ ⟨rfl, w, gx5, x5, x4, x3, x6, x2⟩ hW
        · have hW := ifN hW hc3
          refine e_tT ?_
          refine e_op ?_
          refine e_val (v := (.ref p6)) (val_var rfl) ?_
          refine e_lst ?_
          refine a_nil ?_
          refine n_lstX (e := pS) (xs := []) (vs := []) (show All pS _ [] [] from trivial) (show 0 < 1000000 from by decide) w ?_
          intro p7 H10 hp4 s8 x23
          have ne20 := x5.ne hp4
          have ne21 := x4.ne hp4
          have ne22 := x3.ne hp4
          have ne23 := x6.ne hp4
          have ne24 := x2.ne hp4
          replace x5 := x5.step s8
          replace x4 := x4.step s8
          replace x3 := x3.step s8
          replace x6 := x6.step s8
          replace x2 := x2.step s8
          replace r5 := Rep.mono _ s8.g r5
          replace w := w.tr s8
          replace gx5 := Ex.tr gx5 s8.g
          replace gx2 := Ex.tr gx2 s8.g
          obtain ⟨F11, w4, g4, r6, fz4⟩ := x23.frzE w
          replace x5 := x5.frzO fz4 ne20 g4
          replace x4 := x4.frzO fz4 ne21 g4
          replace x3 := x3.frzO fz4 ne22 g4
          replace x6 := x6.frzO fz4 ne23 g4
          replace x2 := x2.frzO fz4 ne24 g4
          replace r5 := Rep.mono _ g4 r5
          replace w := w4
          replace gx5 := Ex.tr gx5 g4
          replace gx2 := Ex.tr gx2 g4
          obtain ⟨c3, hW⟩ := hW
          refine rv2T (b := decide (ys1 = ([] : List Str))) (c_eqO (K := K) (e := (pL pS)) val_c val_c w.f r5 w.f r6 c3) ?_
          exact hN6 (decide (ys1 = ([] : List Str))) _ _ ⟨rfl, w, gx5, x5, x4, x3, x6, x2⟩ hW
      intro b2 F12 H11 hI4 hW
      obtain ⟨_, w, gx6, x18, x19, x20, x21, x22⟩ := hI4
      have r5 := Rep.mono _ gx6 r5
      have gx2 := Ex.tr gx2 gx6
      refine bb_if (fun hc4 => ?_) (fun hc4 => ?_)
      · have hW := ifP hW hc4
        refine q_sq fun N7 hN7 => ?_
        refine a_dropE ?_
        refine m_list0 x22 (val_var rfl) ?_
        obtain ⟨c4, hW⟩ := hW
        refine a_pop x22 w c4 (fun v3 H12 w5 x24 kp1 => ?_)
        replace x18 := x18.kept kp1 ne1
        replace x19 := x19.kept kp1 ne2
        replace x20 := x20.kept kp1 ne3
        replace x21 := x21.kept kp1 ne4
        replace w := w5
        refine hN7 _ _ ?_
        refine a_ifE ?_
        refine e_ans (b := decide (¬ (hasT self_laid1 x8 = true))) (t_ofB (vb_of (nin_XD (j := x8) x20 (val_var rfl) (fl_B (na := T.na_Net_laid) T.cl_Net x21 lk_laid (val_var rfl))) dec_nt)) ?_
        refine b_if (fun hc5 => ?_) (fun hc5 => ?_)
        · have hW := ifP hW hc5
          refine q_sq fun N8 hN8 => ?_
          refine e_dput ?_
          refine e_val (v := (.bl (true))) val_c ?_
          obtain ⟨c5, hW⟩ := hW
          refine d_put (j := x8) x20 w c5 rfl (fl_B (na := T.na_Net_laid) T.cl_Net x21 lk_laid (val_var rfl)) (val_var rfl) (fun H13 w6 x25 kp2 => ?_)
          replace x18 := x18.kept kp2 ne_all_laid
          replace x19 := x19.kept kp2 ne_line_up_laid
          replace x21 := x21.kept kp2 (Ne.symm no_laid)
          replace x24 := x24.kept kp2 (Ne.symm ne3)
          replace w := w6
          refine hN8 _ _ ?_
          refine a_dropE ?_
          refine m_list x19 (fl_B (na := T.na_Net_line_up) T.cl_Net x21 lk_line_up (val_var rfl)) ?_
          refine a_val (v := (.str (x8))) (val_var rfl) ?_
          refine a_nil ?_
          obtain ⟨c6, hW⟩ := hW
          refine a_app x19 w c6 rfl (fun H14 w7 x26 kp3 => ?_)
          replace x18 := x18.kept kp3 ne_all_line_up
          replace x25 := x25.kept kp3 (Ne.symm ne_line_up_laid)
          replace x21 := x21.kept kp3 (Ne.symm no_line_up)
          replace x24 := x24.kept kp3 (Ne.symm ne2)
          replace w := w7
          exact hN2 (path1.dropLast, putT self_laid1 x8 true, self_line_up1 ++ [x8]) _ _ _ ⟨_, _, w, gx2, rfl, x24, x25, x26, x18, x21⟩ hW
        · have hW := ifN hW hc5
          exact hN2 (path1.dropLast, self_laid1, self_line_up1) _ _ _ ⟨_, _, w, gx2, rfl, x24, x20, x19, x18, x21⟩ hW
      · have hW := ifN hW hc4
        refine a_ifE ?_
        obtain ⟨x27, hx27_1, hW⟩ := hW
        obtain ⟨_, rfl, ix4⟩ := ix_L (K := K) r5 w.f hx27_1
        obtain ⟨Fl2, lf2, _, lr2⟩ := x22.lend w
        refine e_ans (b := decide (x27 ∈ path1)) (t_of (v_inLS (K := K) (ix4 (val_var rfl) val_c) (val_var rfl) lr2 lf2)) ?_
        refine b_if (fun hc6 => ?_) (fun hc6 => ?_)
        · have hW := ifP hW hc6
          exact hW
        · have hW := ifN hW hc6
          refine a_dropE ?_
          refine m_list x22 (val_var rfl) ?_
          obtain ⟨x28, hx28_1, hW⟩ := hW
          obtain ⟨_, rfl, ix5⟩ := ix_L (K := K) r5 w.f hx28_1
          refine a_val (v := (.str (x28))) (ix5 (val_var rfl) val_c) ?_
          refine a_nil ?_
          obtain ⟨c7, hW⟩ := hW
          refine a_app x22 w c7 rfl (fun H15 w8 x29 kp4 => ?_)
          replace x18 := x18.kept kp4 ne1
          replace x19 := x19.kept kp4 ne2
          replace x20 := x20.kept kp4 ne3
          replace x21 := x21.kept kp4 ne4
          replace w := w8
          exact hN2 (path1 ++ [x28], self_laid1, self_line_up1) _ _ _ ⟨_, _, w, gx2, rfl, x29, x20, x19, x18, x21⟩ hW
    · intro s9 σ' F13 H16 hI5 hW
      obtain ⟨path1, self_laid1, self_line_up1⟩ := s9
      obtain ⟨o1, o2, w, gx7, rfl, x2, x3, x4, x5, x6⟩ := hI5
      exact hQ (self_line_up1, self_laid1) hW _ _ w x4 x3
abbrev s_Net___init__ : Stmt := inClass (topS 30) 0
/-! Net.__init__ -/
def W_Net___init__ (ins1 : List Str) (sums1 : List (Str × List Str)) (stores1 : List (Str × Str)) (outs1 : List Str) (R : (List (Str × WireV) × List Str × List Str × List (Str × Bool)) → Prop) : Prop := W_need_sizes ins1 sums1 stores1 outs1 fun z1 => forW ins1 ([] : List (Str × WireV)) (fun name1 self_all1 nx1 bk1 => W_InWire___init__ name1 self_all1.length fun z2 => W_Net_put_in self_all1 name1 (Sum.inl z2) fun all1 => nx1 all1) fun self_all1 => forW sums1 self_all1 (fun it1 self_all2 nx3 bk2 => W_SumWire___init__ it1.1 it1.2 fun z4 => W_Net_put_in self_all2 it1.1 (Sum.inr (Sum.inl z4)) fun all2 => nx3 all2) fun self_all2 => forW (enumT stores1) self_all2 (fun it2 self_all3 nx5 bk3 => W_StoreWire___init__ it2.2.1 it2.2.2 it2.1 fun z6 => W_Net_put_in self_all3 it2.2.1 (Sum.inr (Sum.inr z6)) fun all3 => nx5 all3) fun self_all3 => W_Net_readings self_all3 outs1 fun z8 => forW z8 () (fun name3 _ nx7 bk4 => W_Net_wire_of self_all3 name3 fun z9 => nx7 ()) fun _ => W_Net_of_kind self_all3 (PySem.Str.ofString "sum") fun z10 => forW z10 (([] : List Str), ([] : List (Str × Bool))) (fun one1 (self_line_up1, self_laid1) nx8 bk5 => W_Net_lay_out self_all3 self_line_up1 self_laid1 (wName one1) fun (line_up1, laid1) => nx8 (line_up1, laid1)) fun (self_line_up1, self_laid1) => R (self_all3, outs1, self_line_up1, self_laid1)
def sp_Net___init__ (K : PySem.W.Frag) (cc : Cz) : Sp := fun vs H Q _ => ∃ (F : Hp) (ob dx : Addr) (v1 : V) (ins1 : List Str) (v2 : V) (sums1 : List (Str × List Str)) (v3 : V) (stores1 : List (Str × Str)) (v4 : V) (outs1 : List Str) (R : (List (Str × WireV) × List Str × List Str × List (Str × Bool)) → Prop), vs = [(.ref ob), v1, v2, v3, v4] ∧ H ob = some (.ins cc.Net dx []) ∧ F ob = none ∧ Ex F H ∧ (pL pS).r F v1 ins1 ∧ (pL (pT2 pS (pL pS))).r F v2 sums1 ∧ (pL (pT2 pS pS)).r F v3 stores1 ∧ (pL pS).r F v4 outs1 ∧ W_Net___init__ ins1 sums1 stores1 outs1 R ∧ ∀ z, R z → ∀ F' H', Wf F (wo H ob) F' H' → (pO4 cc.Net "all" "ends" "line_up" "laid" (pD (κ := Str) (pW cc.InWire cc.SumWire cc.StoreWire)) (pL pS) (pL pS) (pD (κ := Str) pB)).r F' (.ref ob) z → Q .non H'
abbrev N_Net___init__ : List Str := ["self", "ins", "sums", "stores", "outs", "name", "wires", "number", "wire", "one"]
theorem sc_Net___init__ : FnScope N_Net___init__ ["self", "ins", "sums", "stores", "outs"] (defScope s_Net___init__) := ⟨rfl, rfl, rfl, by decide +kernel, rfl, by decide +kernel, by decide +kernel⟩
theorem ok_Net___init__ {P : Program} {w0 : World} {K : PySem.W.Frag} {mg : Str → Option Value} {base : Heap} {f : Addr} {fd : FuncData} {cc : Cz} (T : Tz K mg cc) (FU : Fun K "__init__" "Net.__init__" s_Net___init__ f fd) (hm : Mk K cc.Net f) (hg : mg "Net" = some (.ref cc.Net)) (hb : Binds K fd ["self", "ins", "sums", "stores", "outs"] []) (c_need_sizes : Fn P w0 K mg base CX0 1 "need_sizes" ["ins", "sums", "stores", "outs"] (sp_need_sizes K cc)) (c_InWire___init__ : Nw P w0 K mg base CX0 3 cc.InWire "InWire" ["self", "name", "number"] (sp_InWire___init__ K cc)) (c_Net_put_in : Md P w0 K mg base CX0 2 cc.Net "put_in" ["self", "name", "one"] (sp_Net_put_in K cc)) (c_SumWire___init__ : Nw P w0 K mg base CX0 3 cc.SumWire "SumWire" ["self", "name", "wires"] (sp_SumWire___init__ K cc)) (c_StoreWire___init__ : Nw P w0 K mg base CX0 3 cc.StoreWire "StoreWire" ["self", "name", "wire", "number"] (sp_StoreWire___init__ K cc)) (c_Net_readings : Md P w0 K mg base CX0 3 cc.Net "readings" ["self"] (sp_Net_readings K cc)) (c_Net_wire_of : Md P w0 K mg base CX0 2 cc.Net "wire_of" ["self", "name"] (sp_Net_wire_of K cc)) (c_Net_of_kind : Md P w0 K mg base CX0 2 cc.Net "of_kind" ["self", "word"] (sp_Net_of_kind K cc)) (c_Net_lay_out : Md P w0 K mg base CX0 2 cc.Net "lay_out" ["self", "first"] (sp_Net_lay_out K cc)) (n_enumerate : mg "enumerate" = none) (n_len : mg "len" = none) (n_list : mg "list" = none) : Nw P w0 K mg base CX0 5 cc.Net "Net" ["self", "ins", "sums", "stores", "outs"] (sp_Net___init__ K cc) := by
  refine ⟨f, fd, FU.ok sc_Net___init__ (fun vs H Q E h => ?_) (fun cdv A outer s H0 vs Q E hr h => ?_), hm, hg, hb⟩
  · obtain ⟨_, _, _, _, _, _, _, _, _, _, _, _, rfl, _⟩ := h; rfl
  · obtain ⟨F0, ob, dx, v1, ins1, v2, sums1, v3, stores1, v4, outs1, R, rfl, hob, nob, wf, r1, r2, r3, r4, hW, hQ⟩ := h
    have nd := sc_Net___init__.nd
    refine ⟨(tSeq (tDrop (tCall (sp_need_sizes K cc) [] E0 (tCons (tVar 1) (tCons (tVar 2) (tCons (tVar 3) (tCons (tVar 4) tNil)))))) (tSeq (sFld K (tVar 0) tDNewK "all") (tSeq (tFor (iList K (tVar 1)) (gName 5) (tDrop (tMeth cc.Net "put_in" (sp_Net_put_in K cc) [] E0 (tVar 0) (tCons (tVar 5) (tCons (tMake cc.InWire (sp_InWire___init__ K cc) [] E0 (tCons (tVar 5) (tCons (tCB rLenD (tCons (tFld K (tVar 0) "all") tNil)) tNil))) tNil))))) (tSeq (tFor (iList K (tVar 2)) (gTup K 2 (gCons (gName 5) (gCons (gName 6) gNil))) (tDrop (tMeth cc.Net "put_in" (sp_Net_put_in K cc) [] E0 (tVar 0) (tCons (tVar 5) (tCons (tMake cc.SumWire (sp_SumWire___init__ K cc) [] E0 (tCons (tVar 5) (tCons (tVar 6) tNil))) tNil))))) (tSeq (tFor (iEnum K (tCons (tVar 3) tNil)) (gTup K 2 (gCons (gName 7) (gCons (gTup K 2 (gCons (gName 5) (gCons (gName 8) gNil))) gNil))) (tDrop (tMeth cc.Net "put_in" (sp_Net_put_in K cc) [] E0 (tVar 0) (tCons (tVar 5) (tCons (tMake cc.StoreWire (sp_StoreWire___init__ K cc) [] E0 (tCons (tVar 5) (tCons (tVar 8) (tCons (tVar 7) tNil)))) tNil))))) (tSeq (sFld K (tVar 0) (tCB (rListOf K) (tCons (tVar 4) tNil)) "ends") (tSeq (tFor (iList K (tMeth cc.Net "readings" (sp_Net_readings K cc) [] E0 (tVar 0) tNil)) (gName 5) (tDrop (tMeth cc.Net "wire_of" (sp_Net_wire_of K cc) [] E0 (tVar 0) (tCons (tVar 5) tNil)))) (tSeq (sFld K (tVar 0) (tLst tNil) "line_up") (tSeq (sFld K (tVar 0) tDNewK "laid") (tFor (iList K (tMeth cc.Net "of_kind" (sp_Net_of_kind K cc) [] E0 (tVar 0) (tCons (tC (.str (PySem.Str.ofString "sum"))) tNil))) (gName 9) (tDrop (tMeth cc.Net "lay_out" (sp_Net_lay_out K cc) [] E0 (tVar 0) (tCons (tFld K (tVar 9) "name") tNil))))))))))))), (pss_cons (ps_expr (pe_fn c_need_sizes (hr.mono (by decide)) rfl (pa_cons (pv 1) (pa_cons (pv 2) (pa_cons (pv 3) (pa_cons (pv 4) pa_nil)))))) (pss_cons (ps_fld (pv 0) pe_dnewK rfl) (pss_cons (ps_for PassesOwn.never rfl (pi_list (pv 1)) (pg_name (i := 5) nd rfl (Or.inl rfl)) (pss_one (ps_expr (pe_md c_Net_put_in T.cl_Net (hr.mono (by decide)) (pv 0) (pa_cons (pv 5) (pa_cons (pe_nw c_InWire___init__ (hr.mono (by decide)) rfl (pa_cons (pv 5) (pa_cons (pe_callB call_lenD (by rfl) n_len PySem.boot_len (pa_cons (pe_fld (pv 0) rfl) pa_nil)) pa_nil))) pa_nil)))))) (pss_cons (ps_for PassesOwn.never rfl (pi_list (pv 2)) (pg_tup rfl (pgs_cons (pg_name (i := 5) nd rfl (Or.inl rfl)) (pgs_cons (pg_name (i := 6) nd rfl (Or.inl rfl)) pgs_nil)) (by rfl)) (pss_one (ps_expr (pe_md c_Net_put_in T.cl_Net (hr.mono (by decide)) (pv 0) (pa_cons (pv 5) (pa_cons (pe_nw c_SumWire___init__ (hr.mono (by decide)) rfl (pa_cons (pv 5) (pa_cons (pv 6) pa_nil))) pa_nil)))))) (pss_cons (ps_for PassesOwn.never rfl (pi_enum (by rfl) n_enumerate (pa_cons (pv 3) pa_nil)) (pg_tup rfl (pgs_cons (pg_name (i := 7) nd rfl (Or.inl rfl)) (pgs_cons (pg_tup rfl (pgs_cons (pg_name (i := 5) nd rfl (Or.inl rfl)) (pgs_cons (pg_name (i := 8) nd rfl (Or.inl rfl)) pgs_nil)) (by rfl)) pgs_nil)) (by rfl)) (pss_one (ps_expr (pe_md c_Net_put_in T.cl_Net (hr.mono (by decide)) (pv 0) (pa_cons (pv 5) (pa_cons (pe_nw c_StoreWire___init__ (hr.mono (by decide)) rfl (pa_cons (pv 5) (pa_cons (pv 8) (pa_cons (pv 7) pa_nil)))) pa_nil)))))) (pss_cons (ps_fld (pv 0) (pe_callTy call_list_of (by rfl) n_list PyProof.Rows.boot_list (pa_cons (pv 4) pa_nil)) rfl) (pss_cons (ps_for PassesOwn.never rfl (pi_list (pe_md0 c_Net_readings T.cl_Net (hr.mono (by decide)) (pv 0))) (pg_name (i := 5) nd rfl (Or.inl rfl)) (pss_one (ps_expr (pe_md c_Net_wire_of T.cl_Net (hr.mono (by decide)) (pv 0) (pa_cons (pv 5) pa_nil))))) (pss_cons (ps_fld (pv 0) (pe_lst pa_nil) rfl) (pss_cons (ps_fld (pv 0) pe_dnewK rfl) (pss_one (ps_for PassesOwn.never rfl (pi_list (pe_md c_Net_of_kind T.cl_Net (hr.mono (by decide)) (pv 0) (pa_cons pe_str pa_nil))) (pg_name (i := 9) nd rfl (Or.inl rfl)) (pss_one (ps_expr (pe_md c_Net_lay_out T.cl_Net (hr.mono (by decide)) (pv 0) (pa_cons (pe_fld (pv 9) rfl) pa_nil))))))))))))))), ?_⟩
    have xs := Xc.start nob hob
    have w := Wf.start wf nob
    generalize hH0 : wo H0 ob = Hb at xs w hQ
    refine q_sq fun N1 hN1 => ?_
    refine a_dropE ?_
    refine e_call ?_
    refine a_val (v := v1) (val_var rfl) ?_
    refine a_val (v := v2) (val_var rfl) ?_
    refine a_val (v := v3) (val_var rfl) ?_
    refine a_val (v := v4) (val_var rfl) ?_
    refine a_nil ?_
    refine ⟨F0, (v1), (ins1), (v2), (sums1), (v3), (stores1), (v4), (outs1), _, rfl, w.f, r1, r2, r3, r4, hW, ?_⟩
    intro z1 hW F1 H1 s1
    replace r1 := Rep.mono _ s1.g r1
    replace r2 := Rep.mono _ s1.g r2
    replace r3 := Rep.mono _ s1.g r3
    replace r4 := Rep.mono _ s1.g r4
    replace xs := xs.step s1
    replace w := w.tr s1
    refine hN1 _ _ ?_
    refine q_sq fun N2 hN2 => ?_
    refine e_fld ?_
    refine n_dict (κ := Str) (e := (pW cc.InWire cc.SumWire cc.StoreWire)) w ?_
    intro p1 H2 hp1 s2 x1
    have ne1 := xs.ne hp1
    replace r1 := Rep.mono _ s2.g r1
    replace r2 := Rep.mono _ s2.g r2
    replace r3 := Rep.mono _ s2.g r3
    replace r4 := Rep.mono _ s2.g r4
    replace xs := xs.step s2
    replace w := w.tr s2
    refine a_fld T.cl_Net T.na_Net_all xs w (show 0 < 1000 from by decide) (val_var rfl) (fun H3 w1 x2 kp1 => ?_)
    replace x1 := x1.kept kp1 (Ne.symm ne1)
    replace w := w1
    replace x2 : Xc Hb F1 H3 ob (.ins cc.Net dx [("all", (.ref p1))]) := Xc.cast x2 rfl
    refine hN2 _ _ ?_
    refine q_sq fun N3 hN3 => ?_
    refine f_LE ?_
    refine e_val (v := v1) (val_var rfl) ?_
    refine w_forL (S := List (Str × WireV)) (fun self_all1 σ' F' H' => ∃ (o1 : Option V), Wf F0 Hb F' H' ∧ Ex F1 F' ∧ σ' = [some (.ref ob), some v1, some v2, some v3, some v4, o1, none, none, none, none] ∧ XD (pW cc.InWire cc.SumWire cc.StoreWire) Hb F' H' p1 self_all1 ∧ Xc Hb F' H' ob (.ins cc.Net dx [("all", (.ref p1))])) r1 hW ⟨_, w, Ex.rfl', rfl, x1, x2⟩ (fun s σ' F' H' hI => by obtain ⟨_, w', gx', _⟩ := hI; exact ⟨gx', w'.f⟩) w.f ?_ ?_
    · intro N4 Bk1 name1 u1 self_all1 σ' F2 H4 nx1 bk1 hI1 hx1 ru1 hW hN4 hB1
      obtain ⟨o1, w, gx1, rfl, x3, x4⟩ := hI1
      have r1 := Rep.mono _ gx1 r1
      have r2 := Rep.mono _ gx1 r2
      have r3 := Rep.mono _ gx1 r3
      have r4 := Rep.mono _ gx1 r4
      obtain rfl : u1 = (.str (name1)) := ru1
      refine g_name ?_
      refine a_dropE ?_
      refine e_md ?_
      refine e_val (v := (.ref ob)) (val_var rfl) ?_
      refine ⟨_, _, _, rfl, x4.h, ((lk_ne (by decide +kernel)).trans rfl), ?_⟩
      refine a_val (v := (.str (name1))) (val_var rfl) ?_
      refine a_cons ?_
      refine e_nw ?_
      refine a_val (v := (.str (name1))) (val_var rfl) ?_
      refine a_val (v := (.int ((self_all1.length : Nat) : Int))) (len_XD x3 (fl_X T.cl_Net T.na_Net_all x4 lk_eq (val_var rfl))) ?_
      refine a_nil ?_
      intro ob1 dx1 nx2 nd1 ne2
      refine ⟨F2, ob1, dx1, (name1), (self_all1.length), _, rfl, upd_same, (w.f.non nx2), (Ex.made w.f nx2 nd1), hW, ?_⟩
      intro z2 hW F3 H5 s4 r5
      refine ⟨rfl, ?_⟩
      replace s4 := Wf.made nx2 nd1 s4
      replace r1 := Rep.mono _ s4.g r1
      replace r2 := Rep.mono _ s4.g r2
      replace r3 := Rep.mono _ s4.g r3
      replace r4 := Rep.mono _ s4.g r4
      replace x4 := x4.step s4
      replace x3 := x3.step s4
      replace w := w.tr s4
      replace gx1 := Ex.tr gx1 s4.g
      refine a_nil ?_
      refine ⟨F3, ob, dx, _, p1, (self_all1), (name1), ((.ref ob1)), ((Sum.inl z2)), _, rfl, w.f, x4.h, lk_eq, (x3.toL (List.mem_cons_self ..)), r5, hW, ?_⟩
      intro all1 hW F4 H6 s5 x5
      replace x5 := x5.fromL x3.zero
      replace w := w.mcall (L := [p1]) (allL1 x3.zero) s5 (allL1 x5.nF)
      replace r1 := Rep.mono _ s5.g r1
      replace r2 := Rep.mono _ s5.g r2
      replace r3 := Rep.mono _ s5.g r3
      replace r4 := Rep.mono _ s5.g r4
      replace x4 := x4.away (nin1 ne1) s5
      replace r5 := Rep.mono _ s5.g r5
      replace gx1 := Ex.tr gx1 s5.g
      exact hN4 all1 _ _ _ ⟨_, w, gx1, rfl, x5, x4⟩ hW
    · intro self_all1 σ' F5 H7 hI2 hW
      obtain ⟨o1, w, gx2, rfl, x3, x4⟩ := hI2
      have r1 := Rep.mono _ gx2 r1
      have r2 := Rep.mono _ gx2 r2
      have r3 := Rep.mono _ gx2 r3
      have r4 := Rep.mono _ gx2 r4
      refine hN3 _ _ ?_
      refine q_sq fun N5 hN5 => ?_
      refine f_LE ?_
      refine e_val (v := v2) (val_var rfl) ?_
      refine w_forL (S := List (Str × WireV)) (fun self_all2 σ' F' H' => ∃ (o2 : Option V) (o3 : Option V), Wf F0 Hb F' H' ∧ Ex F5 F' ∧ σ' = [some (.ref ob), some v1, some v2, some v3, some v4, o2, o3, none, none, none] ∧ XD (pW cc.InWire cc.SumWire cc.StoreWire) Hb F' H' p1 self_all2 ∧ Xc Hb F' H' ob (.ins cc.Net dx [("all", (.ref p1))])) r2 hW ⟨_, _, w, Ex.rfl', rfl, x3, x4⟩ (fun s σ' F' H' hI => by obtain ⟨_, _, w', gx', _⟩ := hI; exact ⟨gx', w'.f⟩) w.f ?_ ?_
      · intro N6 Bk2 it1 u2 self_all2 σ' F6 H8 nx3 bk2 hI3 hx2 ru2 hW hN6 hB2
        obtain ⟨o2, o3, w, gx3, rfl, x6, x7⟩ := hI3
        have r1 := Rep.mono _ gx3 r1
        have r2 := Rep.mono _ gx3 r2
        have r3 := Rep.mono _ gx3 r3
        have r4 := Rep.mono _ gx3 r4
        have gx2 := Ex.tr gx2 gx3
        obtain ⟨p2, u3, u4, rfl, h1, rfl, r6⟩ := ru2
        refine ⟨p2, _, rfl, SqT.of (w.f _ _ h1), rfl, _, _, rfl, _, _, rfl, rfl, ?_⟩
        refine a_dropE ?_
        refine e_md ?_
        refine e_val (v := (.ref ob)) (val_var rfl) ?_
        refine ⟨_, _, _, rfl, x7.h, ((lk_ne (by decide +kernel)).trans rfl), ?_⟩
        refine a_val (v := (.str (it1.1))) (val_var rfl) ?_
        refine a_cons ?_
        refine e_nw ?_
        refine a_val (v := (.str (it1.1))) (val_var rfl) ?_
        refine a_val (v := u4) (val_var rfl) ?_
        refine a_nil ?_
        obtain ⟨p3, ev1, bl1⟩ := L_bw r6 w.f
        intro ob2 dx2 nx4 nd2 ne3
        refine ⟨F6, ob2, dx2, (it1.1), p3, (it1.2), _, (by rw [ev1]), upd_same, (w.f.non nx4), (Ex.made w.f nx4 nd2), (bl1.made nx4 nd2), hW, ?_⟩
        intro z4 hW F7 H9 s8 r7
        refine ⟨rfl, ?_⟩
        replace s8 := Wf.made nx4 nd2 s8
        replace r1 := Rep.mono _ s8.g r1
        replace r2 := Rep.mono _ s8.g r2
        replace r3 := Rep.mono _ s8.g r3
        replace r4 := Rep.mono _ s8.g r4
        replace x7 := x7.step s8
        replace x6 := x6.step s8
        replace r6 := Rep.mono _ s8.g r6
        replace w := w.tr s8
        replace gx3 := Ex.tr gx3 s8.g
        replace gx2 := Ex.tr gx2 s8.g
        refine a_nil ?_
        refine ⟨F7, ob, dx, _, p1, (self_all2), (it1.1), ((.ref ob2)), ((Sum.inr (Sum.inl z4))), _, rfl, w.f, x7.h, lk_eq, (x6.toL (List.mem_cons_self ..)), r7, hW, ?_⟩
        intro all2 hW F8 H10 s9 x8
        replace x8 := x8.fromL x6.zero
        replace w := w.mcall (L := [p1]) (allL1 x6.zero) s9 (allL1 x8.nF)
        replace r1 := Rep.mono _ s9.g r1
        replace r2 := Rep.mono _ s9.g r2
        replace r3 := Rep.mono _ s9.g r3
        replace r4 := Rep.mono _ s9.g r4
        replace x7 := x7.away (nin1 ne1) s9
        replace r6 := Rep.mono _ s9.g r6
        replace r7 := Rep.mono _ s9.g r7
        replace gx3 := Ex.tr gx3 s9.g
        replace gx2 := Ex.tr gx2 s9.g
        exact hN6 all2 _ _ _ ⟨_, _, w, gx3, rfl, x8, x7⟩ hW
      · intro self_all2 σ' F9 H11 hI4 hW
        obtain ⟨o2, o3, w, gx4, rfl, x6, x7⟩ := hI4
        have r1 := Rep.mono _ gx4 r1
        have r2 := Rep.mono _ gx4 r2
        have r3 := Rep.mono _ gx4 r3
        have r4 := Rep.mono _ gx4 r4
        have gx2 := Ex.tr gx2 gx4
        refine hN5 _ _ ?_
        refine q_sq fun N7 hN7 => ?_
        refine f_J ?_
        refine a_val (v := v3) (val_var rfl) ?_
        refine a_nil ?_
        refine src_enum r3 w.f (fun a1 T1 => ?_)
        refine w_forG (S := List (Str × WireV)) T1 (fun self_all3 σ' F' H' => ∃ (o4 : Option V) (o5 : Option V) (o6 : Option V), Wf F0 Hb F' H' ∧ Ex F9 F' ∧ σ' = [some (.ref ob), some v1, some v2, some v3, some v4, o4, o3, o5, o6, none] ∧ XD (pW cc.InWire cc.SumWire cc.StoreWire) Hb F' H' p1 self_all3 ∧ Xc Hb F' H' ob (.ins cc.Net dx [("all", (.ref p1))])) hW ⟨_, _, _, w, Ex.rfl', rfl, x6, x7⟩ (fun s σ' F' H' hI => by obtain ⟨_, _, _, w', gx', _⟩ := hI; exact ⟨gx', w'.f⟩) w.f ?_ ?_
        · intro N8 Bk3 it2 u5 self_all3 σ' F10 H12 F11 H13 nx5 bk3 hI5 hx3 s12 ru3 hW hN8 hB3
          obtain ⟨o4, o5, o6, w, gx5, rfl, x9, x10⟩ := hI5
          have r1 := Rep.mono _ gx5 r1
          have r2 := Rep.mono _ gx5 r2
          have r3 := Rep.mono _ gx5 r3
          have r4 := Rep.mono _ gx5 r4
          have gx4 := Ex.tr gx4 gx5
          have gx2 := Ex.tr gx2 gx5
          replace r1 := Rep.mono _ s12.g r1
          replace r2 := Rep.mono _ s12.g r2
          replace r3 := Rep.mono _ s12.g r3
          replace r4 := Rep.mono _ s12.g r4
          replace x10 := x10.step s12
          replace x9 := x9.step s12
          replace w := w.tr s12
          replace gx5 := Ex.tr gx5 s12.g
          replace gx4 := Ex.tr gx4 s12.g
          replace gx2 := Ex.tr gx2 s12.g
          obtain ⟨p4, u6, u7, rfl, h2, rfl, r8⟩ := ru3
          obtain ⟨p5, u8, u9, rfl, h3, rfl, rfl⟩ := r8
          refine ⟨p4, _, rfl, SqT.of (w.f _ _ h2), rfl, _, _, rfl, _, _, rfl, p5, _, rfl, SqT.of (w.f _ _ h3), rfl, _, _, rfl, _, _, rfl, rfl, rfl, ?_⟩
          refine a_dropE ?_
          refine e_md ?_
          refine e_val (v := (.ref ob)) (val_var rfl) ?_
          refine ⟨_, _, _, rfl, x10.h, ((lk_ne (by decide +kernel)).trans rfl), ?_⟩
          refine a_val (v := (.str (it2.2.1))) (val_var rfl) ?_
          refine a_cons ?_
          refine e_nw ?_
          refine a_val (v := (.str (it2.2.1))) (val_var rfl) ?_
          refine a_val (v := (.str (it2.2.2))) (val_var rfl) ?_
          refine a_val (v := (.int ((it2.1 : Nat) : Int))) (val_var rfl) ?_
          refine a_nil ?_
          intro ob3 dx3 nx6 nd3 ne4
          refine ⟨F11, ob3, dx3, (it2.2.1), (it2.2.2), (it2.1), _, rfl, upd_same, (w.f.non nx6), (Ex.made w.f nx6 nd3), hW, ?_⟩
          intro z6 hW F12 H14 s13 r9
          refine ⟨rfl, ?_⟩
          replace s13 := Wf.made nx6 nd3 s13
          replace r1 := Rep.mono _ s13.g r1
          replace r2 := Rep.mono _ s13.g r2
          replace r3 := Rep.mono _ s13.g r3
          replace r4 := Rep.mono _ s13.g r4
          replace x10 := x10.step s13
          replace x9 := x9.step s13
          replace w := w.tr s13
          replace gx5 := Ex.tr gx5 s13.g
          replace gx4 := Ex.tr gx4 s13.g
          replace gx2 := Ex.tr gx2 s13.g
          refine a_nil ?_
          refine ⟨F12, ob, dx, _, p1, (self_all3), (it2.2.1), ((.ref ob3)), ((Sum.inr (Sum.inr z6))), _, rfl, w.f, x10.h, lk_eq, (x9.toL (List.mem_cons_self ..)), r9, hW, ?_⟩
          intro all3 hW F13 H15 s14 x11
          replace x11 := x11.fromL x9.zero
          replace w := w.mcall (L := [p1]) (allL1 x9.zero) s14 (allL1 x11.nF)
          replace r1 := Rep.mono _ s14.g r1
          replace r2 := Rep.mono _ s14.g r2
          replace r3 := Rep.mono _ s14.g r3
          replace r4 := Rep.mono _ s14.g r4
          replace x10 := x10.away (nin1 ne1) s14
          replace r9 := Rep.mono _ s14.g r9
          replace gx5 := Ex.tr gx5 s14.g
          replace gx4 := Ex.tr gx4 s14.g
          replace gx2 := Ex.tr gx2 s14.g
          exact hN8 all3 _ _ _ ⟨_, _, _, w, gx5, rfl, x11, x10⟩ hW
        · intro self_all3 σ' F14 H16 hI6 hW
          obtain ⟨o4, o5, o6, w, gx6, rfl, x9, x10⟩ := hI6
          have r1 := Rep.mono _ gx6 r1
          have r2 := Rep.mono _ gx6 r2
          have r3 := Rep.mono _ gx6 r3
          have r4 := Rep.mono _ gx6 r4
          have gx4 := Ex.tr gx4 gx6
          have gx2 := Ex.tr gx2 gx6
          refine hN7 _ _ ?_
          refine q_sq fun N9 hN9 => ?_
          refine e_fld ?_
          refine e_cb ?_
          refine a_val (v := v4) (val_var rfl) ?_
          refine a_nil ?_
          refine n_listX r4 w ?_
          intro p6 H17 hp2 s16 x12
          have ne5 := x10.ne hp2
          have ne6 := x9.ne hp2
          replace r1 := Rep.mono _ s16.g r1
          replace r2 := Rep.mono _ s16.g r2
          replace r3 := Rep.mono _ s16.g r3
          replace r4 := Rep.mono _ s16.g r4
          replace x10 := x10.step s16
          replace x9 := x9.step s16
          replace w := w.tr s16
          replace gx6 := Ex.tr gx6 s16.g
          replace gx4 := Ex.tr gx4 s16.g
          replace gx2 := Ex.tr gx2 s16.g
          obtain ⟨F15, w2, g1, r10, fz1⟩ := x12.frzE w
          replace r1 := Rep.mono _ g1 r1
          replace r2 := Rep.mono _ g1 r2
          replace r3 := Rep.mono _ g1 r3
          replace r4 := Rep.mono _ g1 r4
          replace x10 := x10.frzO fz1 ne5 g1
          replace x9 := x9.frzO fz1 ne6 g1
          replace w := w2
          replace gx6 := Ex.tr gx6 g1
          replace gx4 := Ex.tr gx4 g1
          replace gx2 := Ex.tr gx2 g1
          refine a_fld T.cl_Net T.na_Net_ends x10 w (show 1 < 1000 from by decide) (val_var rfl) (fun H18 w3 x13 kp2 => ?_)
          replace x9 := x9.kept kp2 (Ne.symm ne1)
          replace w := w3
          replace x13 : Xc Hb F15 H18 ob (.ins cc.Net dx [("all", (.ref p1)), ("ends", (.ref p6))]) := Xc.cast x13 ((put_ne (by decide +kernel)).trans (congrArg _ rfl))
          refine hN9 _ _ ?_
          refine q_sq fun N10 hN10 => ?_
          refine f_LE ?_
          refine e_md ?_
          refine e_val (v := (.ref ob)) (val_var rfl) ?_
          refine ⟨_, _, _, rfl, x13.h, ((lk_ne (by decide +kernel)).trans ((lk_ne (by decide +kernel)).trans rfl)), ?_⟩
          refine a_nil ?_
          refine ⟨F15, ob, dx, _, p1, (self_all3), (.ref p6), (outs1), _, rfl, w.f, x13.h, lk_eq, x9.bw, ((lk_ne (by decide +kernel)).trans lk_eq), r10, ((lk_ne (by decide +kernel)).trans ((lk_ne (by decide +kernel)).trans rfl)), hW, ?_⟩
          intro z8 hW p7 F16 H19 s17 x14
          have ne7 := x13.ne x14.zero
          have ne8 := x9.ne x14.zero
          replace x14 := x14.base w
          replace r1 := Rep.mono _ s17.g r1
          replace r2 := Rep.mono _ s17.g r2
          replace r3 := Rep.mono _ s17.g r3
          replace r4 := Rep.mono _ s17.g r4
          replace x13 := x13.step s17
          replace x9 := x9.step s17
          replace r10 := Rep.mono _ s17.g r10
          replace w := w.tr s17
          replace gx6 := Ex.tr gx6 s17.g
          replace gx4 := Ex.tr gx4 s17.g
          replace gx2 := Ex.tr gx2 s17.g
          obtain ⟨F17, w4, g2, r11, fz2⟩ := x14.frzE w
          replace r1 := Rep.mono _ g2 r1
          replace r2 := Rep.mono _ g2 r2
          replace r3 := Rep.mono _ g2 r3
          replace r4 := Rep.mono _ g2 r4
          replace x13 := x13.frzO fz2 ne7 g2
          replace x9 := x9.frzO fz2 ne8 g2
          replace r10 := Rep.mono _ g2 r10
          replace w := w4
          replace gx6 := Ex.tr gx6 g2
          replace gx4 := Ex.tr gx4 g2
          replace gx2 := Ex.tr gx2 g2
          refine w_forL (S := Unit) (fun _ σ' F' H' => ∃ (o7 : Option V), Wf F0 Hb F' H' ∧ Ex F17 F' ∧ σ' = [some (.ref ob), some v1, some v2, some v3, some v4, o7, o3, o5, o6, none] ∧ Xc Hb F' H' ob (.ins cc.Net dx [("all", (.ref p1)), ("ends", (.ref p6))]) ∧ XD (pW cc.InWire cc.SumWire cc.StoreWire) Hb F' H' p1 self_all3) r11 hW ⟨_, w, Ex.rfl', rfl, x13, x9⟩ (fun s σ' F' H' hI => by obtain ⟨_, w', gx', _⟩ := hI; exact ⟨gx', w'.f⟩) w.f ?_ ?_
          · intro N11 Bk4 name3 u10 s18 σ' F18 H20 nx7 bk4 hI7 hx4 ru4 hW hN11 hB4
            obtain ⟨o7, w, gx7, rfl, x15, x16⟩ := hI7
            have r1 := Rep.mono _ gx7 r1
            have r2 := Rep.mono _ gx7 r2
            have r3 := Rep.mono _ gx7 r3
            have r4 := Rep.mono _ gx7 r4
            have r10 := Rep.mono _ gx7 r10
            have r11 := Rep.mono _ gx7 r11
            have gx6 := Ex.tr gx6 gx7
            have gx4 := Ex.tr gx4 gx7
            have gx2 := Ex.tr gx2 gx7
            obtain rfl : u10 = (.str (name3)) := ru4
            refine g_name ?_
            refine a_dropE ?_
            refine e_md ?_
            refine e_val (v := (.ref ob)) (val_var rfl) ?_
            refine ⟨_, _, _, rfl, x15.h, ((lk_ne (by decide +kernel)).trans ((lk_ne (by decide +kernel)).trans rfl)), ?_⟩
            refine a_val (v := (.str (name3))) (val_var rfl) ?_
            refine a_nil ?_
            refine ⟨F18, ob, dx, _, p1, (self_all3), (name3), _, rfl, w.f, x15.h, lk_eq, x16.bw, hW, ?_⟩
            intro z9 hW v5 F19 H21 s19 r12
            replace r1 := Rep.mono _ s19.g r1
            replace r2 := Rep.mono _ s19.g r2
            replace r3 := Rep.mono _ s19.g r3
            replace r4 := Rep.mono _ s19.g r4
            replace x15 := x15.step s19
            replace x16 := x16.step s19
            replace r10 := Rep.mono _ s19.g r10
            replace w := w.tr s19
            replace gx7 := Ex.tr gx7 s19.g
            replace gx6 := Ex.tr gx6 s19.g
            replace gx4 := Ex.tr gx4 s19.g
            replace gx2 := Ex.tr gx2 s19.g
            exact hN11 () _ _ _ ⟨_, w, gx7, rfl, x15, x16⟩ hW
          · intro s20 σ' F20 H22 hI8 hW
            obtain ⟨o7, w, gx8, rfl, x15, x16⟩ := hI8
            have r1 := Rep.mono _ gx8 r1
            have r2 := Rep.mono _ gx8 r2
            have r3 := Rep.mono _ gx8 r3
            have r4 := Rep.mono _ gx8 r4
            have r10 := Rep.mono _ gx8 r10
            have r11 := Rep.mono _ gx8 r11
            have gx6 := Ex.tr gx6 gx8
            have gx4 := Ex.tr gx4 gx8
            have gx2 := Ex.tr gx2 gx8
            refine hN10 _ _ ?_
            refine q_sq fun N12 hN12 => ?_
            refine e_fld ?_
            refine e_lst ?_
            refine a_nil ?_
            refine n_lstX (e := pS) (xs := []) (vs := []) (show All pS _ [] [] from trivial) (show 0 < 1000000 from by decide) w ?_
            intro p8 H23 hp3 s21 x17
            have ne9 := x15.ne hp3
            have ne10 := x16.ne hp3
            replace r1 := Rep.mono _ s21.g r1
            replace r2 := Rep.mono _ s21.g r2
            replace r3 := Rep.mono _ s21.g r3
            replace r4 := Rep.mono _ s21.g r4
            replace x15 := x15.step s21
            replace x16 := x16.step s21
            replace r10 := Rep.mono _ s21.g r10
            replace w := w.tr s21
            replace gx8 := Ex.tr gx8 s21.g
            replace gx6 := Ex.tr gx6 s21.g
            replace gx4 := Ex.tr gx4 s21.g
            replace gx2 := Ex.tr gx2 s21.g
            refine a_fld T.cl_Net T.na_Net_line_up x15 w (show 2 < 1000 from by decide) (val_var rfl) (fun H24 w5 x18 kp3 => ?_)
            replace x16 := x16.kept kp3 (Ne.symm ne1)
            replace x17 := x17.kept kp3 (Ne.symm ne9)
            replace w := w5
            replace x18 : Xc Hb F20 H24 ob (.ins cc.Net dx [("all", (.ref p1)), ("ends", (.ref p6)), ("line_up", (.ref p8))]) := Xc.cast x18 ((put_ne (by decide +kernel)).trans (congrArg _ ((put_ne (by decide +kernel)).trans (congrArg _ rfl))))
            refine hN12 _ _ ?_
            refine q_sq fun N13 hN13 => ?_
            refine e_fld ?_
            refine n_dict (κ := Str) (e := pB) w ?_
            intro p9 H25 hp4 s22 x19
            have ne11 := x18.ne hp4
            have ne12 := x16.ne hp4
            have ne13 := x17.ne hp4
            replace r1 := Rep.mono _ s22.g r1
            replace r2 := Rep.mono _ s22.g r2
            replace r3 := Rep.mono _ s22.g r3
            replace r4 := Rep.mono _ s22.g r4
            replace x18 := x18.step s22
            replace x16 := x16.step s22
            replace r10 := Rep.mono _ s22.g r10
            replace x17 := x17.step s22
            replace w := w.tr s22
            replace gx8 := Ex.tr gx8 s22.g
            replace gx6 := Ex.tr gx6 s22.g
            replace gx4 := Ex.tr gx4 s22.g
            replace gx2 := Ex.tr gx2 s22.g
            refine a_fld T.cl_Net T.na_Net_laid x18 w (show 3 < 1000 from by decide) (val_var rfl) (fun H26 w6 x20 kp4 => ?_)
            replace x16 := x16.kept kp4 (Ne.symm ne1)
            replace x17 := x17.kept kp4 (Ne.symm ne9)
            replace x19 := x19.kept kp4 (Ne.symm ne11)
            replace w := w6
            replace x20 : Xc Hb F20 H26 ob (.ins cc.Net dx [("all", (.ref p1)), ("ends", (.ref p6)), ("line_up", (.ref p8)), ("laid", (.ref p9))]) := Xc.cast x20 ((put_ne (by decide +kernel)).trans (congrArg _ ((put_ne (by decide +kernel)).trans (congrArg _ ((put_ne (by decide +kernel)).trans (congrArg _ rfl))))))
            refine hN13 _ _ ?_
            refine f_LE ?_
            refine e_md ?_
            refine e_val (v := (.ref ob)) (val_var rfl) ?_
            refine ⟨_, _, _, rfl, x20.h, ((lk_ne (by decide +kernel)).trans ((lk_ne (by decide +kernel)).trans ((lk_ne (by decide +kernel)).trans ((lk_ne (by decide +kernel)).trans rfl)))), ?_⟩
            refine a_val (v := (.str ((PySem.Str.ofString "sum")))) val_c ?_
            refine a_nil ?_
            refine ⟨F20, ob, dx, _, p1, (self_all3), ((PySem.Str.ofString "sum")), _, rfl, w.f, x20.h, lk_eq, x16.bw, hW, ?_⟩
            intro z10 hW p10 F21 H27 s23 x21
            have ne14 := x20.ne x21.zero
            have ne15 := x16.ne x21.zero
            have ne16 := x17.ne x21.zero
            have ne17 := x19.ne x21.zero
            replace x21 := x21.base w
            replace r1 := Rep.mono _ s23.g r1
            replace r2 := Rep.mono _ s23.g r2
            replace r3 := Rep.mono _ s23.g r3
            replace r4 := Rep.mono _ s23.g r4
            replace x20 := x20.step s23
            replace x16 := x16.step s23
            replace r10 := Rep.mono _ s23.g r10
            replace x17 := x17.step s23
            replace x19 := x19.step s23
            replace w := w.tr s23
            replace gx8 := Ex.tr gx8 s23.g
            replace gx6 := Ex.tr gx6 s23.g
            replace gx4 := Ex.tr gx4 s23.g
            replace gx2 := Ex.tr gx2 s23.g
            obtain ⟨F22, w7, g3, r13, fz3⟩ := x21.frzE w
            replace r1 := Rep.mono _ g3 r1
            replace r2 := Rep.mono _ g3 r2
            replace r3 := Rep.mono _ g3 r3
            replace r4 := Rep.mono _ g3 r4
            replace x20 := x20.frzO fz3 ne14 g3
            replace x16 := x16.frzO fz3 ne15 g3
            replace r10 := Rep.mono _ g3 r10
            replace x17 := x17.frzO fz3 ne16 g3
            replace x19 := x19.frzO fz3 ne17 g3
            replace w := w7
            replace gx8 := Ex.tr gx8 g3
            replace gx6 := Ex.tr gx6 g3
            replace gx4 := Ex.tr gx4 g3
            replace gx2 := Ex.tr gx2 g3
            refine w_forL (S := List Str × List (Str × Bool)) (fun s σ' F' H' => match s with | (self_line_up1, self_laid1) => ∃ (o8 : Option V), Wf F0 Hb F' H' ∧ Ex F22 F' ∧ σ' = [some (.ref ob), some v1, some v2, some v3, some v4, o7, o3, o5, o6, o8] ∧ XL pS Hb F' H' p8 self_line_up1 ∧ XD pB Hb F' H' p9 self_laid1 ∧ Xc Hb F' H' ob (.ins cc.Net dx [("all", (.ref p1)), ("ends", (.ref p6)), ("line_up", (.ref p8)), ("laid", (.ref p9))]) ∧ XD (pW cc.InWire cc.SumWire cc.StoreWire) Hb F' H' p1 self_all3) r13 hW ⟨_, w, Ex.rfl', rfl, x17, x19, x20, x16⟩ (fun s σ' F' H' hI => by obtain ⟨self_line_up1, self_laid1⟩ := s; obtain ⟨_, w', gx', _⟩ := hI; exact ⟨gx', w'.f⟩) w.f ?_ ?_
            · intro N14 Bk5 one1 u11 s24 σ' F23 H28 nx8 bk5 hI9 hx5 ru5 hW hN14 hB5
              obtain ⟨self_line_up1, self_laid1⟩ := s24
              obtain ⟨o8, w, gx9, rfl, x22, x23, x24, x25⟩ := hI9
              have r1 := Rep.mono _ gx9 r1
              have r2 := Rep.mono _ gx9 r2
              have r3 := Rep.mono _ gx9 r3
              have r4 := Rep.mono _ gx9 r4
              have r10 := Rep.mono _ gx9 r10
              have r13 := Rep.mono _ gx9 r13
              have gx8 := Ex.tr gx8 gx9
              have gx6 := Ex.tr gx6 gx9
              have gx4 := Ex.tr gx4 gx9
              have gx2 := Ex.tr gx2 gx9
              refine g_name ?_
              refine a_dropE ?_
              refine e_md ?_
              refine e_val (v := (.ref ob)) (val_var rfl) ?_
              refine ⟨_, _, _, rfl, x24.h, ((lk_ne (by decide +kernel)).trans ((lk_ne (by decide +kernel)).trans ((lk_ne (by decide +kernel)).trans ((lk_ne (by decide +kernel)).trans rfl)))), ?_⟩
              refine a_val (v := (.str (wName one1))) (fl_Wname (tw_of T) ru5 w.f (val_var rfl)) ?_
              refine a_nil ?_
              refine ⟨F23, ob, dx, _, p1, (self_all3), p8, (self_line_up1), p9, (self_laid1), (wName one1), _, rfl, w.f, x24.h, lk_eq, x25.bw, ((lk_ne (by decide +kernel)).trans ((lk_ne (by decide +kernel)).trans lk_eq)), (x22.toL (List.mem_cons_self ..)), ((lk_ne (by decide +kernel)).trans ((lk_ne (by decide +kernel)).trans ((lk_ne (by decide +kernel)).trans lk_eq))), (x23.toL (List.mem_cons_of_mem _ (List.mem_cons_self ..))), ne10, ne12, ne13, hW, ?_⟩
              intro zz4 hW F24 H29 s25 x26 x27
              obtain ⟨line_up1, laid1⟩ := zz4
              replace x26 := x26.fromL x22.zero
              replace x27 := x27.fromL x23.zero
              replace w := w.mcall (L := [p8, p9]) (allL2 x22.zero x23.zero) s25 (allL2 x26.nF x27.nF)
              replace r1 := Rep.mono _ s25.g r1
              replace r2 := Rep.mono _ s25.g r2
              replace r3 := Rep.mono _ s25.g r3
              replace r4 := Rep.mono _ s25.g r4
              replace x24 := x24.away (nin2 ne9 ne11) s25
              replace x25 := x25.away (nin2 ne10 ne12) s25
              replace r10 := Rep.mono _ s25.g r10
              replace ru5 := Rep.mono _ s25.g ru5
              replace gx9 := Ex.tr gx9 s25.g
              replace gx8 := Ex.tr gx8 s25.g
              replace gx6 := Ex.tr gx6 s25.g
              replace gx4 := Ex.tr gx4 s25.g
              replace gx2 := Ex.tr gx2 s25.g
              exact hN14 (line_up1, laid1) _ _ _ ⟨_, w, gx9, rfl, x26, x27, x24, x25⟩ hW
            · intro s26 σ' F25 H30 hI10 hW
              obtain ⟨self_line_up1, self_laid1⟩ := s26
              obtain ⟨o8, w, gx10, rfl, x22, x23, x24, x25⟩ := hI10
              have r1 := Rep.mono _ gx10 r1
              have r2 := Rep.mono _ gx10 r2
              have r3 := Rep.mono _ gx10 r3
              have r4 := Rep.mono _ gx10 r4
              have r10 := Rep.mono _ gx10 r10
              have r13 := Rep.mono _ gx10 r13
              have gx8 := Ex.tr gx8 gx10
              have gx6 := Ex.tr gx6 gx10
              have gx4 := Ex.tr gx4 gx10
              have gx2 := Ex.tr gx2 gx10
              obtain ⟨F26, w8, g4, r14, fz4⟩ := x25.frzE w
              replace r1 := Rep.mono _ g4 r1
              replace r2 := Rep.mono _ g4 r2
              replace r3 := Rep.mono _ g4 r3
              replace r4 := Rep.mono _ g4 r4
              replace x24 := x24.frzO fz4 ne1 g4
              replace r10 := Rep.mono _ g4 r10
              replace x22 := x22.frzO fz4 (Ne.symm ne10) g4
              replace x23 := x23.frzO fz4 (Ne.symm ne12) g4
              replace w := w8
              replace gx10 := Ex.tr gx10 g4
              replace gx8 := Ex.tr gx8 g4
              replace gx6 := Ex.tr gx6 g4
              replace gx4 := Ex.tr gx4 g4
              replace gx2 := Ex.tr gx2 g4
              obtain ⟨F27, w9, g5, r15, fz5⟩ := x22.frzE w
              replace r1 := Rep.mono _ g5 r1
              replace r2 := Rep.mono _ g5 r2
              replace r3 := Rep.mono _ g5 r3
              replace r4 := Rep.mono _ g5 r4
              replace x24 := x24.frzO fz5 ne9 g5
              replace r14 := Rep.mono _ g5 r14
              replace r10 := Rep.mono _ g5 r10
              replace x23 := x23.frzO fz5 (Ne.symm ne13) g5
              replace w := w9
              replace gx10 := Ex.tr gx10 g5
              replace gx8 := Ex.tr gx8 g5
              replace gx6 := Ex.tr gx6 g5
              replace gx4 := Ex.tr gx4 g5
              replace gx2 := Ex.tr gx2 g5
              obtain ⟨F28, w10, g6, r16, fz6⟩ := x23.frzE w
              replace r1 := Rep.mono _ g6 r1
              replace r2 := Rep.mono _ g6 r2
              replace r3 := Rep.mono _ g6 r3
              replace r4 := Rep.mono _ g6 r4
              replace x24 := x24.frzO fz6 ne11 g6
              replace r14 := Rep.mono _ g6 r14
              replace r10 := Rep.mono _ g6 r10
              replace r15 := Rep.mono _ g6 r15
              replace w := w10
              replace gx10 := Ex.tr gx10 g6
              replace gx8 := Ex.tr gx8 g6
              replace gx6 := Ex.tr gx6 g6
              replace gx4 := Ex.tr gx4 g6
              replace gx2 := Ex.tr gx2 g6
              obtain ⟨F29, w11, g7, h4⟩ := x24.frzE w
              exact hQ _ hW _ _ w11 ⟨ob, dx, _, rfl, h4, _, _, _, _, rfl, (Rep.mono _ g7 r14), (Rep.mono _ g7 r10), (Rep.mono _ g7 r15), (Rep.mono _ g7 r16)⟩
abbrev s_Net_in_names : Stmt := inClass (topS 30) 5
/-! Net.in_names -/
def W_Net_in_names (self1 : List (Str × WireV) × List Str × List Str × List (Str × Bool)) (R : (List Str) → Prop) : Prop := W_Net_of_kind self1.1 (PySem.Str.ofString "in") fun z1 => (z1.length < 1000000) ∧ compW z1 (fun one1 kk => kk (some (wName one1))) fun ys1 => R ys1
def sp_Net_in_names (K : PySem.W.Frag) (cc : Cz) : Sp := fun vs H Q _ => ∃ (F : Hp) (v1 : V) (self1 : List (Str × WireV) × List Str × List Str × List (Str × Bool)) (R : (List Str) → Prop), vs = [v1] ∧ Ex F H ∧ (pO4 cc.Net "all" "ends" "line_up" "laid" (pD (κ := Str) (pW cc.InWire cc.SumWire cc.StoreWire)) (pL pS) (pL pS) (pD (κ := Str) pB)).r F v1 self1 ∧ W_Net_in_names self1 R ∧ ∀ z, R z → ∀ p F' H', Wf F H F' H' → XL pS H F' H' p z → Q (.ref p) H'
abbrev N_Net_in_names : List Str := ["self", "one"]
theorem sc_Net_in_names : FnScope N_Net_in_names ["self"] (defScope s_Net_in_names) := ⟨rfl, rfl, rfl, by decide +kernel, rfl, by decide +kernel, by decide +kernel⟩
theorem ok_Net_in_names {P : Program} {w0 : World} {K : PySem.W.Frag} {mg : Str → Option Value} {base : Heap} {f : Addr} {fd : FuncData} {cc : Cz} (T : Tz K mg cc) (FU : Fun K "in_names" "Net.in_names" s_Net_in_names f fd) (hm : Meth K cc.Net "in_names" f) (hb : Binds K fd ["self"] []) (c_Net_of_kind : Md P w0 K mg base CX0 2 cc.Net "of_kind" ["self", "word"] (sp_Net_of_kind K cc)) : Md P w0 K mg base CX0 3 cc.Net "in_names" ["self"] (sp_Net_in_names K cc) := by
  refine ⟨f, fd, FU.ok sc_Net_in_names (fun vs H Q E h => ?_) (fun cdv A outer s H0 vs Q E hr h => ?_), hm, hb⟩
  · obtain ⟨_, _, _, _, rfl, _⟩ := h; rfl
  · obtain ⟨F0, v1, self1, R, rfl, wf, r1, hW, hQ⟩ := h
    have nd := sc_Net_in_names.nd
    refine ⟨(tRet (tLc (iList K (tMeth cc.Net "of_kind" (sp_Net_of_kind K cc) [] E0 (tVar 0) (tCons (tC (.str (PySem.Str.ofString "in"))) tNil))) (gName 1) tYes (tFld K (tVar 1) "name") [1])), (pss_one (ps_ret (pe_lc (own := [("one", 1)]) (wi := (iList K (tMeth cc.Net "of_kind" (sp_Net_of_kind K cc) [] E0 (tVar 0) (tCons (tC (.str (PySem.Str.ofString "in"))) tNil)))) (g := (gName 1)) (tt := tYes) (te := (tFld K (tVar 1) "name")) rfl nd (pi_list (pe_md c_Net_of_kind T.cl_Net (hr.mono (by decide)) (pv 0) (pa_cons pe_str pa_nil))) (blkOk_by (N := N_Net_in_names) (sc := defScope s_Net_in_names) (by decide +kernel)) (fun _ _ _ _ _ => (pg_name (i := 1) nd rfl (Or.inl rfl))) (fun _ _ _ _ _ => pts_nil) (fun _ _ _ _ _ => (pe_fld (pv 1) rfl))))), ?_⟩
    have w := Wf.id wf
    refine a_retE ?_
    refine c_LE ?_
    refine e_md ?_
    refine e_val (v := v1) (val_var rfl) ?_
    obtain ⟨p1, dx1, fs1, u1, u2, u3, u4, ev1, ho1, lk1, lk2, lk3, lk4, r2, r3, r4, r5, lm1⟩ := st_O4 r1 w.f
    have hu1 := w.f
    refine ⟨_, _, _, ev1, ho1, (lm1 _ (by decide +kernel) (by decide +kernel) (by decide +kernel) (by decide +kernel)), ?_⟩
    obtain ⟨d1, eq1, b1⟩ := D_bw r2 w.f
    refine a_val (v := (.str ((PySem.Str.ofString "in")))) val_c ?_
    refine a_nil ?_
    refine ⟨F0, p1, dx1, fs1, d1, (self1.1), ((PySem.Str.ofString "in")), _, (by rw [ev1]), w.f, ho1, (by rw [lk1, eq1]), b1, hW, ?_⟩
    intro z1 hW p2 F1 H1 s1 x1
    replace x1 := x1.base w
    replace r1 := Rep.mono _ s1.g r1
    replace w := w.tr s1
    obtain ⟨F2, w1, g1, r6, fz1⟩ := x1.frzE w
    replace r1 := Rep.mono _ g1 r1
    replace w := w1
    obtain ⟨c1, hW⟩ := hW
    refine w_compL (e := pS) r6 w c1 hW ?_ ?_
    · intro Qy Qn one1 u5 F3 H2 R1 q1 hx1 ru1 hW hy1 hn1
      have r1 := Rep.mono _ q1.g r1
      have r6 := Rep.mono _ q1.g r6
      have w := Wf.id q1.f
      refine ⟨rfl, ?_⟩
      refine c_yes ?_
      refine e_val (v := (.str (wName one1))) (fl_Wname (tw_of T) ru1 w.f (val_var rfl)) ?_
      exact hy1 _ _ _ _ w rfl hW
    intro p3 ys1 F4 H3 hp1 s2 x2 hW
    replace r1 := Rep.mono _ s2.g r1
    replace r6 := Rep.mono _ s2.g r6
    replace w := w.tr s2
    exact hQ _ hW _ _ _ w x2
abbrev s_Net_sum_rows : Stmt := inClass (topS 30) 6
/-! Net.sum_rows -/
def W_Net_sum_rows (self1 : List (Str × WireV) × List Str × List Str × List (Str × Bool)) (R : (List (Str × List Str)) → Prop) : Prop := W_Net_of_kind self1.1 (PySem.Str.ofString "sum") fun z1 => (z1.length < 1000000) ∧ compW z1 (fun one1 kk => ∃ y1, wWires one1 = some y1 ∧ kk (some (wName one1, y1))) fun ys1 => R ys1
def sp_Net_sum_rows (K : PySem.W.Frag) (cc : Cz) : Sp := fun vs H Q _ => ∃ (F : Hp) (v1 : V) (self1 : List (Str × WireV) × List Str × List Str × List (Str × Bool)) (R : (List (Str × List Str)) → Prop), vs = [v1] ∧ Ex F H ∧ (pO4 cc.Net "all" "ends" "line_up" "laid" (pD (κ := Str) (pW cc.InWire cc.SumWire cc.StoreWire)) (pL pS) (pL pS) (pD (κ := Str) pB)).r F v1 self1 ∧ W_Net_sum_rows self1 R ∧ ∀ z, R z → ∀ p F' H', Wf F H F' H' → XL (pT2 pS (pTL pS)) H F' H' p z → Q (.ref p) H'
abbrev N_Net_sum_rows : List Str := ["self", "one"]
theorem sc_Net_sum_rows : FnScope N_Net_sum_rows ["self"] (defScope s_Net_sum_rows) := ⟨rfl, rfl, rfl, by decide +kernel, rfl, by decide +kernel, by decide +kernel⟩
theorem ok_Net_sum_rows {P : Program} {w0 : World} {K : PySem.W.Frag} {mg : Str → Option Value} {base : Heap} {f : Addr} {fd : FuncData} {cc : Cz} (T : Tz K mg cc) (FU : Fun K "sum_rows" "Net.sum_rows" s_Net_sum_rows f fd) (hm : Meth K cc.Net "sum_rows" f) (hb : Binds K fd ["self"] []) (c_Net_of_kind : Md P w0 K mg base CX0 2 cc.Net "of_kind" ["self", "word"] (sp_Net_of_kind K cc)) : Md P w0 K mg base CX0 3 cc.Net "sum_rows" ["self"] (sp_Net_sum_rows K cc) := by
  refine ⟨f, fd, FU.ok sc_Net_sum_rows (fun vs H Q E h => ?_) (fun cdv A outer s H0 vs Q E hr h => ?_), hm, hb⟩
  · obtain ⟨_, _, _, _, rfl, _⟩ := h; rfl
  · obtain ⟨F0, v1, self1, R, rfl, wf, r1, hW, hQ⟩ := h
    have nd := sc_Net_sum_rows.nd
    refine ⟨(tRet (tLc (iList K (tMeth cc.Net "of_kind" (sp_Net_of_kind K cc) [] E0 (tVar 0) (tCons (tC (.str (PySem.Str.ofString "sum"))) tNil))) (gName 1) tYes (tTup (tCons (tFld K (tVar 1) "name") (tCons (tFld K (tVar 1) "wires") tNil))) [1])), (pss_one (ps_ret (pe_lc (own := [("one", 1)]) (wi := (iList K (tMeth cc.Net "of_kind" (sp_Net_of_kind K cc) [] E0 (tVar 0) (tCons (tC (.str (PySem.Str.ofString "sum"))) tNil)))) (g := (gName 1)) (tt := tYes) (te := (tTup (tCons (tFld K (tVar 1) "name") (tCons (tFld K (tVar 1) "wires") tNil)))) rfl nd (pi_list (pe_md c_Net_of_kind T.cl_Net (hr.mono (by decide)) (pv 0) (pa_cons pe_str pa_nil))) (blkOk_by (N := N_Net_sum_rows) (sc := defScope s_Net_sum_rows) (by decide +kernel)) (fun _ _ _ _ _ => (pg_name (i := 1) nd rfl (Or.inl rfl))) (fun _ _ _ _ _ => pts_nil) (fun _ _ _ _ _ => (pe_tup (pa_cons (pe_fld (pv 1) rfl) (pa_cons (pe_fld (pv 1) rfl) pa_nil))))))), ?_⟩
    have w := Wf.id wf
    refine a_retE ?_
    refine c_LE ?_
    refine e_md ?_
    refine e_val (v := v1) (val_var rfl) ?_
    obtain ⟨p1, dx1, fs1, u1, u2, u3, u4, ev1, ho1, lk1, lk2, lk3, lk4, r2, r3, r4, r5, lm1⟩ := st_O4 r1 w.f
    have hu1 := w.f
    refine ⟨_, _, _, ev1, ho1, (lm1 _ (by decide +kernel) (by decide +kernel) (by decide +kernel) (by decide +kernel)), ?_⟩
    obtain ⟨d1, eq1, b1⟩ := D_bw r2 w.f
    refine a_val (v := (.str ((PySem.Str.ofString "sum")))) val_c ?_
    refine a_nil ?_
    refine ⟨F0, p1, dx1, fs1, d1, (self1.1), ((PySem.Str.ofString "sum")), _, (by rw [ev1]), w.f, ho1, (by rw [lk1, eq1]), b1, hW, ?_⟩
    intro z1 hW p2 F1 H1 s1 x1
    replace x1 := x1.base w
    replace r1 := Rep.mono _ s1.g r1
    replace w := w.tr s1
    obtain ⟨F2, w1, g1, r6, fz1⟩ := x1.frzE w
    replace r1 := Rep.mono _ g1 r1
    replace w := w1
    obtain ⟨c1, hW⟩ := hW
    refine w_compL (e := (pT2 pS (pTL pS))) r6 w c1 hW ?_ ?_
    · intro Qy Qn one1 u5 F3 H2 R1 q1 hx1 ru1 hW hy1 hn1
      have r1 := Rep.mono _ q1.g r1
      have r6 := Rep.mono _ q1.g r6
      have w := Wf.id q1.f
      refine ⟨rfl, ?_⟩
      refine c_yes ?_
      refine e_tup ?_
      refine a_val (v := (.str (wName one1))) (fl_Wname (tw_of T) ru1 w.f (val_var rfl)) ?_
      obtain ⟨y1, hy2, hW⟩ := hW
      obtain ⟨v2, r7, fl1⟩ := fl_Wwires (tw_of T) ru1 w.f hy2
      refine a_val (v := v2) (fl1 (val_var rfl)) ?_
      refine a_nil ?_
      refine n_tup2 (e := pS) (f := (pTL pS)) (x := wName one1) (y := y1) rfl r7 w ?_
      intro p3 F4 H3 s2 r8
      replace r1 := Rep.mono _ s2.g r1
      replace ru1 := Rep.mono _ s2.g ru1
      replace r6 := Rep.mono _ s2.g r6
      replace r7 := Rep.mono _ s2.g r7
      replace w := w.tr s2
      exact hy1 _ _ _ _ w r8 hW
    intro p4 ys1 F5 H4 hp1 s3 x2 hW
    replace r1 := Rep.mono _ s3.g r1
    replace r6 := Rep.mono _ s3.g r6
    replace w := w.tr s3
    exact hQ _ hW _ _ _ w x2
abbrev s_Net_store_rows : Stmt := inClass (topS 30) 7
/-! Net.store_rows -/
def W_Net_store_rows (self1 : List (Str × WireV) × List Str × List Str × List (Str × Bool)) (R : (List (Str × Str)) → Prop) : Prop := W_Net_of_kind self1.1 (PySem.Str.ofString "store") fun z1 => (z1.length < 1000000) ∧ compW z1 (fun one1 kk => ∃ y1, wWire one1 = some y1 ∧ kk (some (wName one1, y1))) fun ys1 => R ys1
def sp_Net_store_rows (K : PySem.W.Frag) (cc : Cz) : Sp := fun vs H Q _ => ∃ (F : Hp) (v1 : V) (self1 : List (Str × WireV) × List Str × List Str × List (Str × Bool)) (R : (List (Str × Str)) → Prop), vs = [v1] ∧ Ex F H ∧ (pO4 cc.Net "all" "ends" "line_up" "laid" (pD (κ := Str) (pW cc.InWire cc.SumWire cc.StoreWire)) (pL pS) (pL pS) (pD (κ := Str) pB)).r F v1 self1 ∧ W_Net_store_rows self1 R ∧ ∀ z, R z → ∀ p F' H', Wf F H F' H' → XL (pT2 pS pS) H F' H' p z → Q (.ref p) H'
abbrev N_Net_store_rows : List Str := ["self", "one"]
theorem sc_Net_store_rows : FnScope N_Net_store_rows ["self"] (defScope s_Net_store_rows) := ⟨rfl, rfl, rfl, by decide +kernel, rfl, by decide +kernel, by decide +kernel⟩
theorem ok_Net_store_rows {P : Program} {w0 : World} {K : PySem.W.Frag} {mg : Str → Option Value} {base : Heap} {f : Addr} {fd : FuncData} {cc : Cz} (T : Tz K mg cc) (FU : Fun K "store_rows" "Net.store_rows" s_Net_store_rows f fd) (hm : Meth K cc.Net "store_rows" f) (hb : Binds K fd ["self"] []) (c_Net_of_kind : Md P w0 K mg base CX0 2 cc.Net "of_kind" ["self", "word"] (sp_Net_of_kind K cc)) : Md P w0 K mg base CX0 3 cc.Net "store_rows" ["self"] (sp_Net_store_rows K cc) := by
  refine ⟨f, fd, FU.ok sc_Net_store_rows (fun vs H Q E h => ?_) (fun cdv A outer s H0 vs Q E hr h => ?_), hm, hb⟩
  · obtain ⟨_, _, _, _, rfl, _⟩ := h; rfl
  · obtain ⟨F0, v1, self1, R, rfl, wf, r1, hW, hQ⟩ := h
    have nd := sc_Net_store_rows.nd
    refine ⟨(tRet (tLc (iList K (tMeth cc.Net "of_kind" (sp_Net_of_kind K cc) [] E0 (tVar 0) (tCons (tC (.str (PySem.Str.ofString "store"))) tNil))) (gName 1) tYes (tTup (tCons (tFld K (tVar 1) "name") (tCons (tFld K (tVar 1) "wire") tNil))) [1])), (pss_one (ps_ret (pe_lc (own := [("one", 1)]) (wi := (iList K (tMeth cc.Net "of_kind" (sp_Net_of_kind K cc) [] E0 (tVar 0) (tCons (tC (.str (PySem.Str.ofString "store"))) tNil)))) (g := (gName 1)) (tt := tYes) (te := (tTup (tCons (tFld K (tVar 1) "name") (tCons (tFld K (tVar 1) "wire") tNil)))) rfl nd (pi_list (pe_md c_Net_of_kind T.cl_Net (hr.mono (by decide)) (pv 0) (pa_cons pe_str pa_nil))) (blkOk_by (N := N_Net_store_rows) (sc := defScope s_Net_store_rows) (by decide +kernel)) (fun _ _ _ _ _ => (pg_name (i := 1) nd rfl (Or.inl rfl))) (fun _ _ _ _ _ => pts_nil) (fun _ _ _ _ _ => (pe_tup (pa_cons (pe_fld (pv 1) rfl) (pa_cons (pe_fld (pv 1) rfl) pa_nil))))))), ?_⟩
    have w := Wf.id wf
    refine a_retE ?_
    refine c_LE ?_
    refine e_md ?_
    refine e_val (v := v1) (val_var rfl) ?_
    obtain ⟨p1, dx1, fs1, u1, u2, u3, u4, ev1, ho1, lk1, lk2, lk3, lk4, r2, r3, r4, r5, lm1⟩ := st_O4 r1 w.f
    have hu1 := w.f
    refine ⟨_, _, _, ev1, ho1, (lm1 _ (by decide +kernel) (by decide +kernel) (by decide +kernel) (by decide +kernel)), ?_⟩
    obtain ⟨d1, eq1, b1⟩ := D_bw r2 w.f
    refine a_val (v := (.str ((PySem.Str.ofString "store")))) val_c ?_
    refine a_nil ?_
    refine ⟨F0, p1, dx1, fs1, d1, (self1.1), ((PySem.Str.ofString "store")), _, (by rw [ev1]), w.f, ho1, (by rw [lk1, eq1]), b1, hW, ?_⟩
    intro z1 hW p2 F1 H1 s1 x1
    replace x1 := x1.base w
    replace r1 := Rep.mono _ s1.g r1
    replace w := w.tr s1
    obtain ⟨F2, w1, g1, r6, fz1⟩ := x1.frzE w
    replace r1 := Rep.mono _ g1 r1
    replace w := w1
    obtain ⟨c1, hW⟩ := hW
    refine w_compL (e := (pT2 pS pS)) r6 w c1 hW ?_ ?_
    · intro Qy Qn one1 u5 F3 H2 R1 q1 hx1 ru1 hW hy1 hn1
      have r1 := Rep.mono _ q1.g r1
      have r6 := Rep.mono _ q1.g r6
      have w := Wf.id q1.f
      refine ⟨rfl, ?_⟩
      refine c_yes ?_
      refine e_tup ?_
      refine a_val (v := (.str (wName one1))) (fl_Wname (tw_of T) ru1 w.f (val_var rfl)) ?_
      obtain ⟨y1, hy2, hW⟩ := hW
      refine a_val (v := (.str (y1))) (fl_Wwire (tw_of T) ru1 w.f hy2 (val_var rfl)) ?_
      refine a_nil ?_
      refine n_tup2 (e := pS) (f := pS) (x := wName one1) (y := y1) rfl rfl w ?_
      intro p3 F4 H3 s2 r7
      replace r1 := Rep.mono _ s2.g r1
      replace ru1 := Rep.mono _ s2.g ru1
      replace r6 := Rep.mono _ s2.g r6
      replace w := w.tr s2
      exact hy1 _ _ _ _ w r7 hW
    intro p4 ys1 F5 H4 hp1 s3 x2 hW
    replace r1 := Rep.mono _ s3.g r1
    replace r6 := Rep.mono _ s3.g r6
    replace w := w.tr s3
    exact hQ _ hW _ _ _ w x2
abbrev s_Net_out_wires : Stmt := inClass (topS 30) 8
/-! Net.out_wires -/
def W_Net_out_wires (self1 : List (Str × WireV) × List Str × List Str × List (Str × Bool)) (R : (List Str) → Prop) : Prop := R self1.2.1
def sp_Net_out_wires (K : PySem.W.Frag) (cc : Cz) : Sp := fun vs H Q _ => ∃ (F : Hp) (v1 : V) (self1 : List (Str × WireV) × List Str × List Str × List (Str × Bool)) (R : (List Str) → Prop), vs = [v1] ∧ Ex F H ∧ (pO4 cc.Net "all" "ends" "line_up" "laid" (pD (κ := Str) (pW cc.InWire cc.SumWire cc.StoreWire)) (pL pS) (pL pS) (pD (κ := Str) pB)).r F v1 self1 ∧ W_Net_out_wires self1 R ∧ ∀ z, R z → ∀ p F' H', Wf F H F' H' → XL pS H F' H' p z → Q (.ref p) H'
abbrev N_Net_out_wires : List Str := ["self"]
theorem sc_Net_out_wires : FnScope N_Net_out_wires ["self"] (defScope s_Net_out_wires) := ⟨rfl, rfl, rfl, by decide +kernel, rfl, by decide +kernel, by decide +kernel⟩
theorem ok_Net_out_wires {P : Program} {w0 : World} {K : PySem.W.Frag} {mg : Str → Option Value} {base : Heap} {f : Addr} {fd : FuncData} {cc : Cz} (T : Tz K mg cc) (FU : Fun K "out_wires" "Net.out_wires" s_Net_out_wires f fd) (hm : Meth K cc.Net "out_wires" f) (hb : Binds K fd ["self"] []) (n_list : mg "list" = none) : Md P w0 K mg base CX0 1 cc.Net "out_wires" ["self"] (sp_Net_out_wires K cc) := by
  refine ⟨f, fd, FU.ok sc_Net_out_wires (fun vs H Q E h => ?_) (fun cdv A outer s H0 vs Q E hr h => ?_), hm, hb⟩
  · obtain ⟨_, _, _, _, rfl, _⟩ := h; rfl
  · obtain ⟨F0, v1, self1, R, rfl, wf, r1, hW, hQ⟩ := h
    have nd := sc_Net_out_wires.nd
    refine ⟨(tRet (tCB (rListOf K) (tCons (tFld K (tVar 0) "ends") tNil))), (pss_one (ps_ret (pe_callTy call_list_of (by rfl) n_list PyProof.Rows.boot_list (pa_cons (pe_fld (pv 0) rfl) pa_nil)))), ?_⟩
    have w := Wf.id wf
    refine a_retE ?_
    refine e_cb ?_
    obtain ⟨v2, r2, fl1⟩ := fl_42 (K := K) T.cl_Net T.na_Net_ends r1 w.f
    refine a_val (v := v2) (fl1 (val_var rfl)) ?_
    refine a_nil ?_
    refine n_listX r2 w ?_
    intro p1 H1 hp1 s1 x1
    replace r1 := Rep.mono _ s1.g r1
    replace r2 := Rep.mono _ s1.g r2
    replace w := w.tr s1
    exact hQ _ hW _ _ _ w x1
abbrev s_Net_wire_names : Stmt := inClass (topS 30) 9
/-! Net.wire_names -/
def W_Net_wire_names (self1 : List (Str × WireV) × List Str × List Str × List (Str × Bool)) (R : (List Str) → Prop) : Prop := R (self1.1.map (·.1))
def sp_Net_wire_names (K : PySem.W.Frag) (cc : Cz) : Sp := fun vs H Q _ => ∃ (F : Hp) (v1 : V) (self1 : List (Str × WireV) × List Str × List Str × List (Str × Bool)) (R : (List Str) → Prop), vs = [v1] ∧ Ex F H ∧ (pO4 cc.Net "all" "ends" "line_up" "laid" (pD (κ := Str) (pW cc.InWire cc.SumWire cc.StoreWire)) (pL pS) (pL pS) (pD (κ := Str) pB)).r F v1 self1 ∧ W_Net_wire_names self1 R ∧ ∀ z, R z → ∀ p F' H', Wf F H F' H' → XL pS H F' H' p z → Q (.ref p) H'
abbrev N_Net_wire_names : List Str := ["self"]
theorem sc_Net_wire_names : FnScope N_Net_wire_names ["self"] (defScope s_Net_wire_names) := ⟨rfl, rfl, rfl, by decide +kernel, rfl, by decide +kernel, by decide +kernel⟩
theorem ok_Net_wire_names {P : Program} {w0 : World} {K : PySem.W.Frag} {mg : Str → Option Value} {base : Heap} {f : Addr} {fd : FuncData} {cc : Cz} (T : Tz K mg cc) (FU : Fun K "wire_names" "Net.wire_names" s_Net_wire_names f fd) (hm : Meth K cc.Net "wire_names" f) (hb : Binds K fd ["self"] []) (n_list : mg "list" = none) : Md P w0 K mg base CX0 1 cc.Net "wire_names" ["self"] (sp_Net_wire_names K cc) := by
  refine ⟨f, fd, FU.ok sc_Net_wire_names (fun vs H Q E h => ?_) (fun cdv A outer s H0 vs Q E hr h => ?_), hm, hb⟩
  · obtain ⟨_, _, _, _, rfl, _⟩ := h; rfl
  · obtain ⟨F0, v1, self1, R, rfl, wf, r1, hW, hQ⟩ := h
    have nd := sc_Net_wire_names.nd
    refine ⟨(tRet (tCB rListD (tCons (tFld K (tVar 0) "all") tNil))), (pss_one (ps_ret (pe_callTy (call_listD rfl) (by rfl) n_list PyProof.Rows.boot_list (pa_cons (pe_fld (pv 0) rfl) pa_nil)))), ?_⟩
    have w := Wf.id wf
    refine a_retE ?_
    refine e_cb ?_
    obtain ⟨v2, r2, fl1⟩ := fl_41 (K := K) T.cl_Net T.na_Net_all r1 w.f
    refine a_val (v := v2) (fl1 (val_var rfl)) ?_
    refine a_nil ?_
    refine n_listD keyS r2 w ?_
    intro p1 H1 hp1 s1 x1
    replace r1 := Rep.mono _ s1.g r1
    replace r2 := Rep.mono _ s1.g r2
    replace w := w.tr s1
    exact hQ _ hW _ _ _ w x1
abbrev s_Net_order : Stmt := inClass (topS 30) 11
/-! Net.order -/
def W_Net_order (self1 : List (Str × WireV) × List Str × List Str × List (Str × Bool)) (R : (List Str) → Prop) : Prop := R self1.2.2.1
def sp_Net_order (K : PySem.W.Frag) (cc : Cz) : Sp := fun vs H Q _ => ∃ (F : Hp) (v1 : V) (self1 : List (Str × WireV) × List Str × List Str × List (Str × Bool)) (R : (List Str) → Prop), vs = [v1] ∧ Ex F H ∧ (pO4 cc.Net "all" "ends" "line_up" "laid" (pD (κ := Str) (pW cc.InWire cc.SumWire cc.StoreWire)) (pL pS) (pL pS) (pD (κ := Str) pB)).r F v1 self1 ∧ W_Net_order self1 R ∧ ∀ z, R z → ∀ p F' H', Wf F H F' H' → XL pS H F' H' p z → Q (.ref p) H'
abbrev N_Net_order : List Str := ["self"]
theorem sc_Net_order : FnScope N_Net_order ["self"] (defScope s_Net_order) := ⟨rfl, rfl, rfl, by decide +kernel, rfl, by decide +kernel, by decide +kernel⟩
theorem ok_Net_order {P : Program} {w0 : World} {K : PySem.W.Frag} {mg : Str → Option Value} {base : Heap} {f : Addr} {fd : FuncData} {cc : Cz} (T : Tz K mg cc) (FU : Fun K "order" "Net.order" s_Net_order f fd) (hm : Meth K cc.Net "order" f) (hb : Binds K fd ["self"] []) (n_list : mg "list" = none) : Md P w0 K mg base CX0 1 cc.Net "order" ["self"] (sp_Net_order K cc) := by
  refine ⟨f, fd, FU.ok sc_Net_order (fun vs H Q E h => ?_) (fun cdv A outer s H0 vs Q E hr h => ?_), hm, hb⟩
  · obtain ⟨_, _, _, _, rfl, _⟩ := h; rfl
  · obtain ⟨F0, v1, self1, R, rfl, wf, r1, hW, hQ⟩ := h
    have nd := sc_Net_order.nd
    refine ⟨(tRet (tCB (rListOf K) (tCons (tFld K (tVar 0) "line_up") tNil))), (pss_one (ps_ret (pe_callTy call_list_of (by rfl) n_list PyProof.Rows.boot_list (pa_cons (pe_fld (pv 0) rfl) pa_nil)))), ?_⟩
    have w := Wf.id wf
    refine a_retE ?_
    refine e_cb ?_
    obtain ⟨v2, r2, fl1⟩ := fl_43 (K := K) T.cl_Net T.na_Net_line_up r1 w.f
    refine a_val (v := v2) (fl1 (val_var rfl)) ?_
    refine a_nil ?_
    refine n_listX r2 w ?_
    intro p1 H1 hp1 s1 x1
    replace r1 := Rep.mono _ s1.g r1
    replace r2 := Rep.mono _ s1.g r2
    replace w := w.tr s1
    exact hQ _ hW _ _ _ w x1
abbrev s_Run___init__ : Stmt := inClass (topS 16) 0
/-! Run.__init__ -/
def W_Run___init__ (net1 : List (Str × WireV) × List Str × List Str × List (Str × Bool)) (R : ((List (Str × WireV) × List Str × List Str × List (Str × Bool)) × Nat × List Nat) → Prop) : Prop := R (net1, 0, ([] : List Nat))
def sp_Run___init__ (K : PySem.W.Frag) (cc : Cz) : Sp := fun vs H Q _ => ∃ (F : Hp) (ob dx : Addr) (v1 : V) (net1 : List (Str × WireV) × List Str × List Str × List (Str × Bool)) (R : ((List (Str × WireV) × List Str × List Str × List (Str × Bool)) × Nat × List Nat) → Prop), vs = [(.ref ob), v1] ∧ H ob = some (.ins cc.Run dx []) ∧ F ob = none ∧ Ex F H ∧ (pO4 cc.Net "all" "ends" "line_up" "laid" (pD (κ := Str) (pW cc.InWire cc.SumWire cc.StoreWire)) (pL pS) (pL pS) (pD (κ := Str) pB)).r F v1 net1 ∧ W_Run___init__ net1 R ∧ ∀ z, R z → ∀ (v_net : V) (d_replies : Addr) F' H', Wf F (wo H ob) F' H' → XO_Run cc (wo H ob) F' H' ob dx v_net z.2.1 d_replies → (pO4 cc.Net "all" "ends" "line_up" "laid" (pD (κ := Str) (pW cc.InWire cc.SumWire cc.StoreWire)) (pL pS) (pL pS) (pD (κ := Str) pB)).r F' v_net z.1 → XL pN (wo H ob) F' H' d_replies z.2.2 → d_replies ≠ ob → Q .non H'
abbrev N_Run___init__ : List Str := ["self", "net"]
theorem sc_Run___init__ : FnScope N_Run___init__ ["self", "net"] (defScope s_Run___init__) := ⟨rfl, rfl, rfl, by decide +kernel, rfl, by decide +kernel, by decide +kernel⟩
theorem ok_Run___init__ {P : Program} {w0 : World} {K : PySem.W.Frag} {mg : Str → Option Value} {base : Heap} {f : Addr} {fd : FuncData} {cc : Cz} (T : Tz K mg cc) (FU : Fun K "__init__" "Run.__init__" s_Run___init__ f fd) (hm : Mk K cc.Run f) (hg : mg "Run" = some (.ref cc.Run)) (hb : Binds K fd ["self", "net"] []) : Nw P w0 K mg base CX0 1 cc.Run "Run" ["self", "net"] (sp_Run___init__ K cc) := by
  refine ⟨f, fd, FU.ok sc_Run___init__ (fun vs H Q E h => ?_) (fun cdv A outer s H0 vs Q E hr h => ?_), hm, hg, hb⟩
  · obtain ⟨_, _, _, _, _, _, rfl, _⟩ := h; rfl
  · obtain ⟨F0, ob, dx, v1, net1, R, rfl, hob, nob, wf, r1, hW, hQ⟩ := h
    have nd := sc_Run___init__.nd
    refine ⟨(tSeq (sFld K (tVar 0) (tVar 1) "net") (tSeq (sFld K (tVar 0) (tC (.int 0)) "held") (tSeq (sFld K (tVar 0) tDNewK "bits") (sFld K (tVar 0) (tLst tNil) "replies")))), (pss_cons (ps_fld (pv 0) (pv 1) rfl) (pss_cons (ps_fld (pv 0) pe_int rfl) (pss_cons (ps_fld (pv 0) pe_dnewK rfl) (pss_one (ps_fld (pv 0) (pe_lst pa_nil) rfl))))), ?_⟩
    have xs := Xc.start nob hob
    have w := Wf.start wf nob
    generalize hH0 : wo H0 ob = Hb at xs w hQ
    refine q_sq fun N1 hN1 => ?_
    refine e_fld ?_
    refine e_val (v := v1) (val_var rfl) ?_
    refine a_fld T.cl_Run T.na_Run_net xs w (show 0 < 1000 from by decide) (val_var rfl) (fun H1 w1 x1 kp1 => ?_)
    replace w := w1
    replace x1 : Xc Hb F0 H1 ob (.ins cc.Run dx [("net", v1)]) := Xc.cast x1 rfl
    refine hN1 _ _ ?_
    refine q_sq fun N2 hN2 => ?_
    refine e_fld ?_
    refine e_val (v := (.int ((0 : Nat) : Int))) val_c ?_
    refine a_fld T.cl_Run T.na_Run_held x1 w (show 1 < 1000 from by decide) (val_var rfl) (fun H2 w2 x2 kp2 => ?_)
    replace w := w2
    replace x2 : Xc Hb F0 H2 ob (.ins cc.Run dx [("net", v1), ("held", (.int ((0 : Nat) : Int)))]) := Xc.cast x2 ((put_ne (by decide +kernel)).trans (congrArg _ rfl))
    refine hN2 _ _ ?_
    refine q_sq fun N3 hN3 => ?_
    refine e_fld ?_
    refine n_dict (κ := Str) (e := pN) w ?_
    intro p1 H3 hp1 s1 x3
    have ne1 := x2.ne hp1
    replace r1 := Rep.mono _ s1.g r1
    replace x2 := x2.step s1
    replace w := w.tr s1
    obtain ⟨F1, w3, g1, r2, fz1⟩ := x3.frzE w
    replace r1 := Rep.mono _ g1 r1
    replace x2 := x2.frzO fz1 ne1 g1
    replace w := w3
    refine a_fld T.cl_Run T.na_Run_bits x2 w (show 2 < 1000 from by decide) (val_var rfl) (fun H4 w4 x4 kp3 => ?_)
    replace w := w4
    replace x4 : Xc Hb F1 H4 ob (.ins cc.Run dx [("net", v1), ("held", (.int ((0 : Nat) : Int))), ("bits", (.ref p1))]) := Xc.cast x4 ((put_ne (by decide +kernel)).trans (congrArg _ ((put_ne (by decide +kernel)).trans (congrArg _ rfl))))
    refine hN3 _ _ ?_
    refine e_fld ?_
    refine e_lst ?_
    refine a_nil ?_
    refine n_lstX (e := pN) (xs := []) (vs := []) (show All pN _ [] [] from trivial) (show 0 < 1000000 from by decide) w ?_
    intro p2 H5 hp2 s2 x5
    have ne2 := x4.ne hp2
    replace r1 := Rep.mono _ s2.g r1
    replace x4 := x4.step s2
    replace r2 := Rep.mono _ s2.g r2
    replace w := w.tr s2
    refine a_fld T.cl_Run T.na_Run_replies x4 w (show 3 < 1000 from by decide) (val_var rfl) (fun H6 w5 x6 kp4 => ?_)
    replace x5 := x5.kept kp4 (Ne.symm ne2)
    replace w := w5
    replace x6 : Xc Hb F1 H6 ob (.ins cc.Run dx [("net", v1), ("held", (.int ((0 : Nat) : Int))), ("bits", (.ref p1)), ("replies", (.ref p2))]) := Xc.cast x6 ((put_ne (by decide +kernel)).trans (congrArg _ ((put_ne (by decide +kernel)).trans (congrArg _ ((put_ne (by decide +kernel)).trans (congrArg _ rfl))))))
    exact hQ (net1, 0, ([] : List Nat)) hW _ _ _ _ w ⟨_, x6⟩ r1 x5 (Ne.symm ne2)
abbrev s_Run_step : Stmt := inClass (topS 16) 1
/-! Run.step -/
def W_Run_step (net1 : List (Str × WireV) × List Str × List Str × List (Str × Bool)) (held1 : Nat) (replies1 : List Nat) (row1 : Nat) (R : (Nat × Nat × List Nat) → Prop) : Prop := W_Net_in_names net1 fun z1 => W_is_mask (An.i ((row1 : Nat) : Int)) z1.length fun z2 => if z2 = true then (W_Net_wire_names net1 fun z3 => forW z3 ([] : List (Str × Nat)) (fun name1 bits1 nx1 bk1 => W_Net_wire_of net1.1 name1 fun z4 => W_P_kind z4 fun z5 => if z5 ≠ (PySem.Str.ofString "sum") then (W_P_bit z4 bits1 row1 held1 fun z6 => (bits1.length < 1000000) ∧ nx1 (putT bits1 name1 z6)) else (nx1 bits1)) fun bits1 => W_Net_order net1 fun z7 => forW z7 bits1 (fun name2 bits2 nx2 bk2 => W_Net_wire_of net1.1 name2 fun z8 => W_P_bit z8 bits2 row1 held1 fun z9 => (bits2.length < 1000000) ∧ nx2 (putT bits2 name2 z9)) fun bits2 => W_Net_out_wires net1 fun z10 => forW (enumT z10) 0 (fun it1 answer1 nx3 bk3 => ∃ x17, valT bits2 it1.2 = some x17 ∧ (NShl x17 it1.1) ∧ ∀ answer2 : Nat, answer2 = answer1 + (x17 <<< it1.1) → nx3 answer2) fun answer1 => W_Net_store_rows net1 fun z11 => forW (enumT z11) 0 (fun it2 held2 nx4 bk4 => ∃ x22, valT bits2 it2.2.2 = some x22 ∧ (NShl x22 it2.1) ∧ ∀ held3 : Nat, held3 = held2 + (x22 <<< it2.1) → nx4 held3) fun held2 => (replies1.length < 1000000) ∧ R (answer1, held2, replies1 ++ [answer1])) else (False)
def sp_Run_step (K : PySem.W.Frag) (cc : Cz) : Sp := fun vs H Q _ => ∃ (F : Hp) (ob dx : Addr) (v_net : V) (net1 : List (Str × WireV) × List Str × List Str × List (Str × Bool)) (held1 : Nat) (d_replies : Addr) (replies1 : List Nat) (row1 : Nat) (R : (Nat × Nat × List Nat) → Prop), vs = [(.ref ob), (.int ((row1 : Nat) : Int))] ∧ Ex F H ∧ XO_Run cc (woL H [ob, d_replies]) F H ob dx v_net held1 d_replies ∧ (pO4 cc.Net "all" "ends" "line_up" "laid" (pD (κ := Str) (pW cc.InWire cc.SumWire cc.StoreWire)) (pL pS) (pL pS) (pD (κ := Str) pB)).r F v_net net1 ∧ XL pN (woL H [ob, d_replies]) F H d_replies replies1 ∧ d_replies ≠ ob ∧ W_Run_step net1 held1 replies1 row1 R ∧ ∀ z, R z → ∀ F' H', Wf F (woL H [ob, d_replies]) F' H' → XO_Run cc (woL H [ob, d_replies]) F' H' ob dx v_net z.2.1 d_replies → XL pN (woL H [ob, d_replies]) F' H' d_replies z.2.2 → Q (.int ((z.1 : Nat) : Int)) H'
abbrev N_Run_step : List Str := ["self", "row", "bits", "name", "wire", "answer", "place", "held"]
theorem sc_Run_step : FnScope N_Run_step ["self", "row"] (defScope s_Run_step) := ⟨rfl, rfl, rfl, by decide +kernel, rfl, by decide +kernel, by decide +kernel⟩
theorem ok_Run_step {P : Program} {w0 : World} {K : PySem.W.Frag} {mg : Str → Option Value} {base : Heap} {f : Addr} {fd : FuncData} {cc : Cz} (T : Tz K mg cc) (FU : Fun K "step" "Run.step" s_Run_step f fd) (hm : Meth K cc.Run "step" f) (hb : Binds K fd ["self", "row"] []) (c_Net_in_names : Md P w0 K mg base CX0 3 cc.Net "in_names" ["self"] (sp_Net_in_names K cc)) (c_is_mask : Fn P w0 K mg base CX0 2 "is_mask" ["thing", "width"] (sp_is_mask K cc)) (c_Net_wire_names : Md P w0 K mg base CX0 1 cc.Net "wire_names" ["self"] (sp_Net_wire_names K cc)) (c_Net_wire_of : Md P w0 K mg base CX0 2 cc.Net "wire_of" ["self", "name"] (sp_Net_wire_of K cc)) (c_P_kind : MdU P w0 K mg base CX0 1 (U_P_kind K cc) "kind" ["self"]) (c_P_bit : MdU P w0 K mg base CX0 1 (U_P_bit K cc) "bit" ["self", "known", "row", "state"]) (c_Net_order : Md P w0 K mg base CX0 1 cc.Net "order" ["self"] (sp_Net_order K cc)) (c_Net_out_wires : Md P w0 K mg base CX0 1 cc.Net "out_wires" ["self"] (sp_Net_out_wires K cc)) (c_Net_store_rows : Md P w0 K mg base CX0 3 cc.Net "store_rows" ["self"] (sp_Net_store_rows K cc)) (n_enumerate : mg "enumerate" = none) (n_len : mg "len" = none) : Md P w0 K mg base CX0 4 cc.Run "step" ["self", "row"] (sp_Run_step K cc) := by
  refine ⟨f, fd, FU.ok sc_Run_step (fun vs H Q E h => ?_) (fun cdv A outer s H0 vs Q E hr h => ?_), hm, hb⟩
  · obtain ⟨_, _, _, _, _, _, _, _, _, _, rfl, _⟩ := h; rfl
  · obtain ⟨F0, ob, dx, v_net, net1, held1, d_replies, replies1, row1, R, rfl, wf, xo, xf_net, xf_replies, no_replies, hW, hQ⟩ := h
    have nd := sc_Run_step.nd
    refine ⟨(tSeq (tIfS (tNot (tB (tCall (sp_is_mask K cc) [] E0 (tCons (tVar 1) (tCons (tCB (Wk.rLen K) (tCons (tMeth cc.Net "in_names" (sp_Net_in_names K cc) [] E0 (tFld K (tVar 0) "net") tNil) tNil)) tNil))))) tNever tNext) (tSeq (tAsg tDNewK (gName 2)) (tSeq (tFor (iList K (tMeth cc.Net "wire_names" (sp_Net_wire_names K cc) [] E0 (tFld K (tVar 0) "net") tNil)) (gName 3) (tSeq (tAsg (tMeth cc.Net "wire_of" (sp_Net_wire_of K cc) [] E0 (tFld K (tVar 0) "net") (tCons (tVar 3) tNil)) (gName 4)) (tIfS (tTest (tOp L2.rNe (tMethU (U_P_kind K cc) "kind" E0 (tVar 4) tNil) (tC (.str (PySem.Str.ofString "sum"))))) (sDPut (tVar 2) (tVar 3) (tMethU (U_P_bit K cc) "bit" E0 (tVar 4) (tCons (tVar 2) (tCons (tVar 1) (tCons (tFld K (tVar 0) "held") tNil))))) tNext))) (tSeq (tFor (iList K (tMeth cc.Net "order" (sp_Net_order K cc) [] E0 (tFld K (tVar 0) "net") tNil)) (gName 3) (sDPut (tVar 2) (tVar 3) (tMethU (U_P_bit K cc) "bit" E0 (tMeth cc.Net "wire_of" (sp_Net_wire_of K cc) [] E0 (tFld K (tVar 0) "net") (tCons (tVar 3) tNil)) (tCons (tVar 2) (tCons (tVar 1) (tCons (tFld K (tVar 0) "held") tNil)))))) (tSeq (tAsg (tC (.int 0)) (gName 5)) (tSeq (tFor (iEnum K (tCons (tMeth cc.Net "out_wires" (sp_Net_out_wires K cc) [] E0 (tFld K (tVar 0) "net") tNil) tNil)) (gTup K 2 (gCons (gName 6) (gCons (gName 3) gNil))) (tAug 5 (tOp kShl (tDGet (tVar 2) (tVar 3)) (tVar 6)) kAdd)) (tSeq (tAsg (tC (.int 0)) (gName 7)) (tSeq (tFor (iEnum K (tCons (tMeth cc.Net "store_rows" (sp_Net_store_rows K cc) [] E0 (tFld K (tVar 0) "net") tNil) tNil)) (gTup K 2 (gCons (gName 6) (gCons (gTup K 2 (gCons (gName 3) (gCons (gName 4) gNil))) gNil))) (tAug 7 (tOp kShl (tDGet (tVar 2) (tVar 4)) (tVar 6)) kAdd)) (tSeq (sFld K (tVar 0) (tVar 7) "held") (tSeq (sFld K (tVar 0) (tVar 2) "bits") (tSeq (tDrop (tBM K "list" rAppend (tFld K (tVar 0) "replies") (tCons (tVar 5) tNil))) (tRet (tVar 5))))))))))))), (pss_cons (ps_if (pt_not (pt_val (pe_fn c_is_mask (hr.mono (by decide)) rfl (pa_cons (pv 1) (pa_cons (pe_callB call_len_seq (by rfl) n_len PySem.boot_len (pa_cons (pe_md0 c_Net_in_names T.cl_Net (hr.mono (by decide)) (pe_fld (pv 0) rfl)) pa_nil)) pa_nil))))) (pss_one ps_never) pss_nil) (pss_cons (ps_set (i := 2) nd rfl (Or.inl rfl) pe_dnewK) (pss_cons (ps_for PassesOwn.never rfl (pi_list (pe_md0 c_Net_wire_names T.cl_Net (hr.mono (by decide)) (pe_fld (pv 0) rfl))) (pg_name (i := 3) nd rfl (Or.inl rfl)) (pss_cons (ps_set (i := 4) nd rfl (Or.inl rfl) (pe_md c_Net_wire_of T.cl_Net (hr.mono (by decide)) (pe_fld (pv 0) rfl) (pa_cons (pv 3) pa_nil))) (pss_one (ps_if (pt_cmpR op_ne (pe_mdU0 c_P_kind (hr.mono (by decide)) (pv 4)) pe_str (nomark _)) (pss_one (ps_dput (hu_of hr) (pv 2) (pv 3) (pe_mdU c_P_bit (hr.mono (by decide)) (pv 4) (pa_cons (pv 2) (pa_cons (pv 1) (pa_cons (pe_fld (pv 0) rfl) pa_nil)))) rfl)) pss_nil)))) (pss_cons (ps_for PassesOwn.never rfl (pi_list (pe_md0 c_Net_order T.cl_Net (hr.mono (by decide)) (pe_fld (pv 0) rfl))) (pg_name (i := 3) nd rfl (Or.inl rfl)) (pss_one (ps_dput (hu_of hr) (pv 2) (pv 3) (pe_mdU c_P_bit (hr.mono (by decide)) (pe_md c_Net_wire_of T.cl_Net (hr.mono (by decide)) (pe_fld (pv 0) rfl) (pa_cons (pv 3) pa_nil)) (pa_cons (pv 2) (pa_cons (pv 1) (pa_cons (pe_fld (pv 0) rfl) pa_nil)))) rfl))) (pss_cons (ps_set (i := 5) nd rfl (Or.inl rfl) pe_int) (pss_cons (ps_for PassesOwn.never rfl (pi_enum (by rfl) n_enumerate (pa_cons (pe_md0 c_Net_out_wires T.cl_Net (hr.mono (by decide)) (pe_fld (pv 0) rfl)) pa_nil)) (pg_tup rfl (pgs_cons (pg_name (i := 6) nd rfl (Or.inl rfl)) (pgs_cons (pg_name (i := 3) nd rfl (Or.inl rfl)) pgs_nil)) (by rfl)) (pss_one (ps_aug (i := 5) nd rfl (Or.inl rfl) (pe_op op_shlW (pe_dget (hu_of hr) (pv 2) (pv 3) (fun _ _ => rfl)) (pv 6)) iop_add))) (pss_cons (ps_set (i := 7) nd rfl (Or.inl rfl) pe_int) (pss_cons (ps_for PassesOwn.never rfl (pi_enum (by rfl) n_enumerate (pa_cons (pe_md0 c_Net_store_rows T.cl_Net (hr.mono (by decide)) (pe_fld (pv 0) rfl)) pa_nil)) (pg_tup rfl (pgs_cons (pg_name (i := 6) nd rfl (Or.inl rfl)) (pgs_cons (pg_tup rfl (pgs_cons (pg_name (i := 3) nd rfl (Or.inl rfl)) (pgs_cons (pg_name (i := 4) nd rfl (Or.inl rfl)) pgs_nil)) (by rfl)) pgs_nil)) (by rfl)) (pss_one (ps_aug (i := 7) nd rfl (Or.inl rfl) (pe_op op_shlW (pe_dget (hu_of hr) (pv 2) (pv 4) (fun _ _ => rfl)) (pv 6)) iop_add))) (pss_cons (ps_fld (pv 0) (pv 7) rfl) (pss_cons (ps_fld (pv 0) (pv 2) rfl) (pss_cons (ps_expr (pe_bm PySem.F.plainAttrs_list PySem.F.slot_list_append PySem.F.type_list_append mt_append (pe_fld (pv 0) rfl) (pa_cons (pv 5) pa_nil))) (pss_one (ps_ret (pv 5)))))))))))))), ?_⟩
    have w := Wf.startL (L := [ob, d_replies]) wf (allL2 xo.nF xf_replies.nF)
    generalize hH0 : woL H0 [ob, d_replies] = Hb at w hQ xo xf_replies
    obtain ⟨o_bits, xs⟩ := xo.x
    refine q_sq fun N1 hN1 => ?_
    refine a_ifE ?_
    refine e_tNot ?_
    refine e_tB ?_
    refine e_call ?_
    refine a_val (v := (.int ((row1 : Nat) : Int))) (val_var rfl) ?_
    refine a_cons ?_
    refine e_cb ?_
    refine a_cons ?_
    refine e_md ?_
    refine e_val (v := v_net) (fl_X T.cl_Run T.na_Run_net xs lk_eq (val_var rfl)) ?_
    obtain ⟨p1, dx1, fs1, ev1, ho1, lm1⟩ := me_4 (m := "in_names") xf_net w.f
    refine ⟨_, _, _, ev1, ho1, lm1, ?_⟩
    refine a_nil ?_
    refine ⟨F0, (v_net), (net1), _, rfl, w.f, xf_net, hW, ?_⟩
    intro z1 hW p2 F1 H1 s1 x1
    have ne1 := xf_replies.ne x1.zero
    have ne2 := xs.ne x1.zero
    replace x1 := x1.base w
    replace xf_net := Rep.mono _ s1.g xf_net
    replace xf_replies := xf_replies.step s1
    replace xs := xs.step s1
    replace w := w.tr s1
    refine a_nil ?_
    refine rcb1 (z := .int ((z1.length : Nat) : Int)) (len_X x1 val_c) ?_
    refine a_nil ?_
    refine ⟨F1, ((.int ((row1 : Nat) : Int))), ((An.i ((row1 : Nat) : Int))), (z1.length), _, rfl, w.f, (show pA.r _ (.int ((row1 : Nat) : Int)) (An.i ((row1 : Nat) : Int)) from rfl), hW, ?_⟩
    intro z2 hW F2 H2 s2
    replace xf_net := Rep.mono _ s2.g xf_net
    replace xf_replies := xf_replies.step s2
    replace xs := xs.step s2
    replace x1 := x1.step s2
    replace w := w.tr s2
    refine bl_v ?_
    refine bb_ifn (fun hc1 => ?_) (fun hc1 => ?_)
    · have hW := ifP hW hc1
      refine hN1 _ _ ?_
      refine q_sq fun N2 hN2 => ?_
      refine a_asgE ?_
      refine n_dict (κ := Str) (e := pN) w ?_
      intro p3 H3 hp1 s3 x2
      have ne3 := xf_replies.ne hp1
      have ne4 := xs.ne hp1
      replace xf_net := Rep.mono _ s3.g xf_net
      replace xf_replies := xf_replies.step s3
      replace xs := xs.step s3
      replace w := w.tr s3
      refine hN2 _ _ ?_
      refine q_sq fun N3 hN3 => ?_
      refine f_LE ?_
      refine e_md ?_
      refine e_val (v := v_net) (fl_X T.cl_Run T.na_Run_net xs lk_eq (val_var rfl)) ?_
      obtain ⟨p4, dx2, fs2, ev2, ho2, lm2⟩ := me_4 (m := "wire_names") xf_net w.f
      refine ⟨_, _, _, ev2, ho2, lm2, ?_⟩
      refine a_nil ?_
      refine ⟨F2, (v_net), (net1), _, rfl, w.f, xf_net, hW, ?_⟩
      intro z3 hW p5 F3 H4 s4 x3
      have ne5 := xf_replies.ne x3.zero
      have ne6 := xs.ne x3.zero
      have ne7 := x2.ne x3.zero
      replace x3 := x3.base w
      replace xf_net := Rep.mono _ s4.g xf_net
      replace xf_replies := xf_replies.step s4
      replace xs := xs.step s4
      replace x2 := x2.step s4
      replace w := w.tr s4
      obtain ⟨F4, w1, g1, r1, fz1⟩ := x3.frzE w
      replace xf_net := Rep.mono _ g1 xf_net
      replace xf_replies := xf_replies.frzO fz1 ne5 g1
      replace xs := xs.frzO fz1 ne6 g1
      replace x2 := x2.frzO fz1 ne7 g1
      replace w := w1
      refine w_forL (S := List (Str × Nat)) (fun bits1 σ' F' H' => ∃ (o1 : Option V) (o2 : Option V), Wf F0 Hb F' H' ∧ Ex F4 F' ∧ σ' = [some (.ref ob), some (.int ((row1 : Nat) : Int)), some ((.ref p3)), o1, o2, none, none, none] ∧ XD pN Hb F' H' p3 bits1 ∧ XL pN Hb F' H' d_replies replies1 ∧ Xc Hb F' H' ob (.ins cc.Run dx [("net", v_net), ("held", (.int ((held1 : Nat) : Int))), ("bits", o_bits), ("replies", V.ref d_replies)])) r1 hW ⟨_, _, w, Ex.rfl', rfl, x2, xf_replies, xs⟩ (fun s σ' F' H' hI => by obtain ⟨_, _, w', gx', _⟩ := hI; exact ⟨gx', w'.f⟩) w.f ?_ ?_
      · intro N4 Bk1 name1 u1 bits1 σ' F5 H5 nx1 bk1 hI1 hx1 ru1 hW hN4 hB1
        obtain ⟨o1, o2, w, gx1, rfl, x4, x5, x6⟩ := hI1
        have xf_net := Rep.mono _ gx1 xf_net
        have r1 := Rep.mono _ gx1 r1
        obtain rfl : u1 = (.str (name1)) := ru1
        refine g_name ?_
        refine q_sq fun N5 hN5 => ?_
        refine a_asgE ?_
        refine e_md ?_
        refine e_val (v := v_net) (fl_X T.cl_Run T.na_Run_net x6 lk_eq (val_var rfl)) ?_
        obtain ⟨p6, dx3, fs3, u2, u3, u4, u5, ev3, ho3, lk1, lk2, lk3, lk4, r2, r3, r4, r5, lm3⟩ := st_O4 xf_net w.f
        have hu1 := w.f
        refine ⟨_, _, _, ev3, ho3, (lm3 _ (by decide +kernel) (by decide +kernel) (by decide +kernel) (by decide +kernel)), ?_⟩
        obtain ⟨d1, eq1, b1⟩ := D_bw r2 w.f
        refine a_val (v := (.str (name1))) (val_var rfl) ?_
        refine a_nil ?_
        refine ⟨F5, p6, dx3, fs3, d1, (net1.1), (name1), _, (by rw [ev3]), w.f, ho3, (by rw [lk1, eq1]), b1, hW, ?_⟩
        intro z4 hW v1 F6 H6 s6 r6
        replace xf_net := Rep.mono _ s6.g xf_net
        replace x5 := x5.step s6
        replace x6 := x6.step s6
        replace x4 := x4.step s6
        replace w := w.tr s6
        replace gx1 := Ex.tr gx1 s6.g
        refine hN5 _ _ ?_
        refine a_ifE ?_
        refine e_tT ?_
        refine e_op ?_
        refine e_mdU ?_
        refine e_val (v := v1) (val_var rfl) ?_
        have rU1 := r6
        have hU1 := w.f
        obtain ⟨p7, dx4, fs4, ev4, ho4, lm4⟩ := W_at (m := "kind") rU1 hU1
        refine ⟨⟨_, wCls_mem _, _, _, _, ev4, ho4, lm4⟩, ?_⟩
        refine a_nil ?_
        refine u_P_kind rU1 hU1 ?_
        refine ⟨F6, (v1), _, rfl, w.f, r6, hW, ?_⟩
        intro z5 hW F7 H7 s7
        replace xf_net := Rep.mono _ s7.g xf_net
        replace x5 := x5.step s7
        replace x6 := x6.step s7
        replace x4 := x4.step s7
        replace r6 := Rep.mono _ s7.g r6
        replace w := w.tr s7
        replace gx1 := Ex.tr gx1 s7.g
        refine e_val (v := (.str ((PySem.Str.ofString "sum")))) val_c ?_
        refine rv2T (b := decide (z5 ≠ (PySem.Str.ofString "sum"))) (c_neS val_c val_c) ?_
        refine b_if (fun hc2 => ?_) (fun hc2 => ?_)
        · have hW := ifP hW hc2
          refine e_dput ?_
          refine e_mdU ?_
          refine e_val (v := v1) (val_var rfl) ?_
          have rU2 := r6
          have hU2 := w.f
          obtain ⟨p8, dx5, fs5, ev5, ho5, lm5⟩ := W_at (m := "bit") rU2 hU2
          refine ⟨⟨_, wCls_mem _, _, _, _, ev5, ho5, lm5⟩, ?_⟩
          refine a_val (v := (.ref p3)) (val_var rfl) ?_
          refine a_val (v := (.int ((row1 : Nat) : Int))) (val_var rfl) ?_
          refine a_val (v := (.int ((held1 : Nat) : Int))) (fl_X T.cl_Run T.na_Run_held x6 ((lk_ne (by decide +kernel)).trans lk_eq) (val_var rfl)) ?_
          refine a_nil ?_
          refine u_P_bit rU2 hU2 ?_
          obtain ⟨Fl1, lf1, lg1, lr1⟩ := x4.lend w
          refine ⟨Fl1, (v1), ((.ref p3)), (bits1), (row1), (held1), _, rfl, lf1, (Rep.mono _ lg1 r6), lr1, hW, ?_⟩
          intro z6 hW F8 H8 s8
          replace s8 := Wf.grow w.f s8.h
          replace xf_net := Rep.mono _ s8.g xf_net
          replace x5 := x5.step s8
          replace x6 := x6.step s8
          replace x4 := x4.step s8
          replace r6 := Rep.mono _ s8.g r6
          replace w := w.tr s8
          replace gx1 := Ex.tr gx1 s8.g
          obtain ⟨c1, hW⟩ := hW
          refine d_put (j := name1) x4 w c1 rfl (val_var rfl) (val_var rfl) (fun H9 w2 x7 kp1 => ?_)
          replace x5 := x5.kept kp1 ne3
          replace x6 := x6.kept kp1 ne4
          replace w := w2
          exact hN4 (putT bits1 name1 z6) _ _ _ ⟨_, _, w, gx1, rfl, x7, x5, x6⟩ hW
        · have hW := ifN hW hc2
          exact hN4 bits1 _ _ _ ⟨_, _, w, gx1, rfl, x4, x5, x6⟩ hW
      · intro bits1 σ' F9 H10 hI2 hW
        obtain ⟨o1, o2, w, gx2, rfl, x4, x5, x6⟩ := hI2
        have xf_net := Rep.mono _ gx2 xf_net
        have r1 := Rep.mono _ gx2 r1
        refine hN3 _ _ ?_
        refine q_sq fun N6 hN6 => ?_
        refine f_LE ?_
        refine e_md ?_
        refine e_val (v := v_net) (fl_X T.cl_Run T.na_Run_net x6 lk_eq (val_var rfl)) ?_
        obtain ⟨p9, dx6, fs6, ev6, ho6, lm6⟩ := me_4 (m := "order") xf_net w.f
        refine ⟨_, _, _, ev6, ho6, lm6, ?_⟩
        refine a_nil ?_
        refine ⟨F9, (v_net), (net1), _, rfl, w.f, xf_net, hW, ?_⟩
        intro z7 hW p10 F10 H11 s10 x8
        have ne8 := x5.ne x8.zero
        have ne9 := x6.ne x8.zero
        have ne10 := x4.ne x8.zero
        replace x8 := x8.base w
        replace xf_net := Rep.mono _ s10.g xf_net
        replace x5 := x5.step s10
        replace x6 := x6.step s10
        replace x4 := x4.step s10
        replace w := w.tr s10
        replace gx2 := Ex.tr gx2 s10.g
        obtain ⟨F11, w3, g2, r7, fz2⟩ := x8.frzE w
        replace xf_net := Rep.mono _ g2 xf_net
        replace x5 := x5.frzO fz2 ne8 g2
        replace x6 := x6.frzO fz2 ne9 g2
        replace x4 := x4.frzO fz2 ne10 g2
        replace w := w3
        replace gx2 := Ex.tr gx2 g2
        refine w_forL (S := List (Str × Nat)) (fun bits2 σ' F' H' => ∃ (o3 : Option V), Wf F0 Hb F' H' ∧ Ex F11 F' ∧ σ' = [some (.ref ob), some (.int ((row1 : Nat) : Int)), some ((.ref p3)), o3, o2, none, none, none] ∧ XD pN Hb F' H' p3 bits2 ∧ XL pN Hb F' H' d_replies replies1 ∧ Xc Hb F' H' ob (.ins cc.Run dx [("net", v_net), ("held", (.int ((held1 : Nat) : Int))), ("bits", o_bits), ("replies", V.ref d_replies)])) r7 hW ⟨_, w, Ex.rfl', rfl, x4, x5, x6⟩ (fun s σ' F' H' hI => by obtain ⟨_, w', gx', _⟩ := hI; exact ⟨gx', w'.f⟩) w.f ?_ ?_
        · intro N7 Bk2 name2 u6 bits2 σ' F12 H12 nx2 bk2 hI3 hx2 ru2 hW hN7 hB2
          obtain ⟨o3, w, gx3, rfl, x9, x10, x11⟩ := hI3
          have xf_net := Rep.mono _ gx3 xf_net
          have r7 := Rep.mono _ gx3 r7
          have gx2 := Ex.tr gx2 gx3
          obtain rfl : u6 = (.str (name2)) := ru2
          refine g_name ?_
          refine e_dput ?_
          refine e_mdU ?_
          refine e_md ?_
          refine e_val (v := v_net) (fl_X T.cl_Run T.na_Run_net x11 lk_eq (val_var rfl)) ?_
          obtain ⟨p11, dx7, fs7, u7, u8, u9, u10, ev7, ho7, lk5, lk6, lk7, lk8, r8, r9, r10, r11, lm7⟩ := st_O4 xf_net w.f
          have hu2 := w.f
          refine ⟨_, _, _, ev7, ho7, (lm7 _ (by decide +kernel) (by decide +kernel) (by decide +kernel) (by decide +kernel)), ?_⟩
          obtain ⟨d2, eq2, b2⟩ := D_bw r8 w.f
          refine a_val (v := (.str (name2))) (val_var rfl) ?_
          refine a_nil ?_
          refine ⟨F12, p11, dx7, fs7, d2, (net1.1), (name2), _, (by rw [ev7]), w.f, ho7, (by rw [lk5, eq2]), b2, hW, ?_⟩
          intro z8 hW v2 F13 H13 s12 r12
          replace xf_net := Rep.mono _ s12.g xf_net
          replace x10 := x10.step s12
          replace x11 := x11.step s12
          replace x9 := x9.step s12
          replace w := w.tr s12
          replace gx3 := Ex.tr gx3 s12.g
          replace gx2 := Ex.tr gx2 s12.g
          have rU3 := r12
          have hU3 := w.f
          obtain ⟨p12, dx8, fs8, ev8, ho8, lm8⟩ := W_at (m := "bit") rU3 hU3
          refine ⟨⟨_, wCls_mem _, _, _, _, ev8, ho8, lm8⟩, ?_⟩
          refine a_val (v := (.ref p3)) (val_var rfl) ?_
          refine a_val (v := (.int ((row1 : Nat) : Int))) (val_var rfl) ?_
          refine a_val (v := (.int ((held1 : Nat) : Int))) (fl_X T.cl_Run T.na_Run_held x11 ((lk_ne (by decide +kernel)).trans lk_eq) (val_var rfl)) ?_
          refine a_nil ?_
          refine u_P_bit rU3 hU3 ?_
          obtain ⟨Fl2, lf2, lg2, lr2⟩ := x9.lend w
          refine ⟨Fl2, (v2), ((.ref p3)), (bits2), (row1), (held1), _, rfl, lf2, (Rep.mono _ lg2 r12), lr2, hW, ?_⟩
          intro z9 hW F14 H14 s13
          replace s13 := Wf.grow w.f s13.h
          replace xf_net := Rep.mono _ s13.g xf_net
          replace x10 := x10.step s13
          replace x11 := x11.step s13
          replace x9 := x9.step s13
          replace r12 := Rep.mono _ s13.g r12
          replace w := w.tr s13
          replace gx3 := Ex.tr gx3 s13.g
          replace gx2 := Ex.tr gx2 s13.g
          obtain ⟨c2, hW⟩ := hW
          refine d_put (j := name2) x9 w c2 rfl (val_var rfl) (val_var rfl) (fun H15 w4 x12 kp2 => ?_)
          replace x10 := x10.kept kp2 ne3
          replace x11 := x11.kept kp2 ne4
          replace w := w4
          exact hN7 (putT bits2 name2 z9) _ _ _ ⟨_, w, gx3, rfl, x12, x10, x11⟩ hW
        · intro bits2 σ' F15 H16 hI4 hW
          obtain ⟨o3, w, gx4, rfl, x9, x10, x11⟩ := hI4
          have xf_net := Rep.mono _ gx4 xf_net
          have r7 := Rep.mono _ gx4 r7
          have gx2 := Ex.tr gx2 gx4
          refine hN6 _ _ ?_
          refine q_sq fun N8 hN8 => ?_
          refine a_asg (v := (.int ((0 : Nat) : Int))) val_c ?_
          refine hN8 _ _ ?_
          refine q_sq fun N9 hN9 => ?_
          refine f_J ?_
          refine a_cons ?_
          refine e_md ?_
          refine e_val (v := v_net) (fl_X T.cl_Run T.na_Run_net x11 lk_eq (val_var rfl)) ?_
          obtain ⟨p13, dx9, fs9, ev9, ho9, lm9⟩ := me_4 (m := "out_wires") xf_net w.f
          refine ⟨_, _, _, ev9, ho9, lm9, ?_⟩
          refine a_nil ?_
          refine ⟨F15, (v_net), (net1), _, rfl, w.f, xf_net, hW, ?_⟩
          intro z10 hW p14 F16 H17 s15 x13
          have ne11 := x10.ne x13.zero
          have ne12 := x11.ne x13.zero
          have ne13 := x9.ne x13.zero
          replace x13 := x13.base w
          replace xf_net := Rep.mono _ s15.g xf_net
          replace x10 := x10.step s15
          replace x11 := x11.step s15
          replace x9 := x9.step s15
          replace w := w.tr s15
          replace gx4 := Ex.tr gx4 s15.g
          replace gx2 := Ex.tr gx2 s15.g
          refine a_nil ?_
          obtain ⟨F17, w5, g3, r13, fz3⟩ := x13.frzE w
          replace xf_net := Rep.mono _ g3 xf_net
          replace x10 := x10.frzO fz3 ne11 g3
          replace x11 := x11.frzO fz3 ne12 g3
          replace x9 := x9.frzO fz3 ne13 g3
          replace w := w5
          replace gx4 := Ex.tr gx4 g3
          replace gx2 := Ex.tr gx2 g3
          refine src_enum r13 w.f (fun a1 T1 => ?_)
          refine w_forG (S := Nat) T1 (fun answer1 σ' F' H' => ∃ (o4 : Option V) (o5 : Option V), Wf F0 Hb F' H' ∧ Ex F17 F' ∧ σ' = [some (.ref ob), some (.int ((row1 : Nat) : Int)), some (.ref p3), o4, o2, some (.int ((answer1 : Nat) : Int)), o5, none] ∧ XL pN Hb F' H' d_replies replies1 ∧ Xc Hb F' H' ob (.ins cc.Run dx [("net", v_net), ("held", (.int ((held1 : Nat) : Int))), ("bits", o_bits), ("replies", V.ref d_replies)]) ∧ XD pN Hb F' H' p3 bits2) hW ⟨_, _, w, Ex.rfl', rfl, x10, x11, x9⟩ (fun s σ' F' H' hI => by obtain ⟨_, _, w', gx', _⟩ := hI; exact ⟨gx', w'.f⟩) w.f ?_ ?_
          · intro N10 Bk3 it1 u11 answer1 σ' F18 H18 F19 H19 nx3 bk3 hI5 hx3 s17 ru3 hW hN10 hB3
            obtain ⟨o4, o5, w, gx5, rfl, x14, x15, x16⟩ := hI5
            have xf_net := Rep.mono _ gx5 xf_net
            have r13 := Rep.mono _ gx5 r13
            have gx4 := Ex.tr gx4 gx5
            have gx2 := Ex.tr gx2 gx5
            replace xf_net := Rep.mono _ s17.g xf_net
            replace x14 := x14.step s17
            replace x15 := x15.step s17
            replace x16 := x16.step s17
            replace r13 := Rep.mono _ s17.g r13
            replace w := w.tr s17
            replace gx5 := Ex.tr gx5 s17.g
            replace gx4 := Ex.tr gx4 s17.g
            replace gx2 := Ex.tr gx2 s17.g
            obtain ⟨p15, u12, u13, rfl, h1, rfl, rfl⟩ := ru3
            refine ⟨p15, _, rfl, SqT.of (w.f _ _ h1), rfl, _, _, rfl, _, _, rfl, rfl, ?_⟩
            obtain ⟨x17, hx4, hW⟩ := hW
            obtain ⟨_, rfl, ix1⟩ := ix_XD x16 hx4
            obtain ⟨c3, hW⟩ := hW
            obtain ⟨answer2, eanswer1⟩ : ∃ answer2 : Nat, answer2 = answer1 + (x17 <<< it1.1) := ⟨_, rfl⟩
            replace hW := hW answer2 eanswer1
            refine a_augV (x := (.int ((answer1 : Nat) : Int))) (y := (.int ((x17 <<< it1.1 : Nat) : Int))) (z := (.int ((answer2 : Nat) : Int))) rfl (vn_shl (ix1 (val_var rfl) (val_var rfl)) (val_var rfl) c3) (v_eq (vn_add val_c val_c) (by rw [eanswer1])) ?_
            exact hN10 answer2 _ _ _ ⟨_, _, w, gx5, rfl, x14, x15, x16⟩ hW
          · intro answer1 σ' F20 H20 hI6 hW
            obtain ⟨o4, o5, w, gx6, rfl, x14, x15, x16⟩ := hI6
            have xf_net := Rep.mono _ gx6 xf_net
            have r13 := Rep.mono _ gx6 r13
            have gx4 := Ex.tr gx4 gx6
            have gx2 := Ex.tr gx2 gx6
            refine hN9 _ _ ?_
            refine q_sq fun N11 hN11 => ?_
            refine a_asg (v := (.int ((0 : Nat) : Int))) val_c ?_
            refine hN11 _ _ ?_
            refine q_sq fun N12 hN12 => ?_
            refine f_J ?_
            refine a_cons ?_
            refine e_md ?_
            refine e_val (v := v_net) (fl_X T.cl_Run T.na_Run_net x15 lk_eq (val_var rfl)) ?_
            obtain ⟨p16, dx10, fs10, ev10, ho10, lm10⟩ := me_4 (m := "store_rows") xf_net w.f
            refine ⟨_, _, _, ev10, ho10, lm10, ?_⟩
            refine a_nil ?_
            refine ⟨F20, (v_net), (net1), _, rfl, w.f, xf_net, hW, ?_⟩
            intro z11 hW p17 F21 H21 s19 x18
            have ne14 := x14.ne x18.zero
            have ne15 := x15.ne x18.zero
            have ne16 := x16.ne x18.zero
            replace x18 := x18.base w
            replace xf_net := Rep.mono _ s19.g xf_net
            replace x14 := x14.step s19
            replace x15 := x15.step s19
            replace x16 := x16.step s19
            replace w := w.tr s19
            replace gx6 := Ex.tr gx6 s19.g
            replace gx4 := Ex.tr gx4 s19.g
            replace gx2 := Ex.tr gx2 s19.g
            refine a_nil ?_
            obtain ⟨F22, w6, g4, r14, fz4⟩ := x18.frzE w
            replace xf_net := Rep.mono _ g4 xf_net
            replace x14 := x14.frzO fz4 ne14 g4
            replace x15 := x15.frzO fz4 ne15 g4
            replace x16 := x16.frzO fz4 ne16 g4
            replace w := w6
            replace gx6 := Ex.tr gx6 g4
            replace gx4 := Ex.tr gx4 g4
            replace gx2 := Ex.tr gx2 g4
            refine src_enum r14 w.f (fun a2 T2 => ?_)
            refine w_forG (S := Nat) T2 (fun held2 σ' F' H' => ∃ (o6 : Option V) (o7 : Option V) (o8 : Option V), Wf F0 Hb F' H' ∧ Ex F22 F' ∧ σ' = [some (.ref ob), some (.int ((row1 : Nat) : Int)), some (.ref p3), o6, o7, some (.int ((answer1 : Nat) : Int)), o8, some (.int ((held2 : Nat) : Int))] ∧ XL pN Hb F' H' d_replies replies1 ∧ Xc Hb F' H' ob (.ins cc.Run dx [("net", v_net), ("held", (.int ((held1 : Nat) : Int))), ("bits", o_bits), ("replies", V.ref d_replies)]) ∧ XD pN Hb F' H' p3 bits2) hW ⟨_, _, _, w, Ex.rfl', rfl, x14, x15, x16⟩ (fun s σ' F' H' hI => by obtain ⟨_, _, _, w', gx', _⟩ := hI; exact ⟨gx', w'.f⟩) w.f ?_ ?_
            · intro N13 Bk4 it2 u14 held2 σ' F23 H22 F24 H23 nx4 bk4 hI7 hx5 s21 ru4 hW hN13 hB4
              obtain ⟨o6, o7, o8, w, gx7, rfl, x19, x20, x21⟩ := hI7
              have xf_net := Rep.mono _ gx7 xf_net
              have r14 := Rep.mono _ gx7 r14
              have gx6 := Ex.tr gx6 gx7
              have gx4 := Ex.tr gx4 gx7
              have gx2 := Ex.tr gx2 gx7
              replace xf_net := Rep.mono _ s21.g xf_net
              replace x19 := x19.step s21
              replace x20 := x20.step s21
              replace x21 := x21.step s21
              replace r14 := Rep.mono _ s21.g r14
              replace w := w.tr s21
              replace gx7 := Ex.tr gx7 s21.g
              replace gx6 := Ex.tr gx6 s21.g
              replace gx4 := Ex.tr gx4 s21.g
              replace gx2 := Ex.tr gx2 s21.g
              obtain ⟨p18, u15, u16, rfl, h2, rfl, r15⟩ := ru4
              obtain ⟨p19, u17, u18, rfl, h3, rfl, rfl⟩ := r15
              refine ⟨p18, _, rfl, SqT.of (w.f _ _ h2), rfl, _, _, rfl, _, _, rfl, p19, _, rfl, SqT.of (w.f _ _ h3), rfl, _, _, rfl, _, _, rfl, rfl, rfl, ?_⟩
              obtain ⟨x22, hx6, hW⟩ := hW
              obtain ⟨_, rfl, ix2⟩ := ix_XD x21 hx6
              obtain ⟨c4, hW⟩ := hW
              obtain ⟨held3, eheld1⟩ : ∃ held3 : Nat, held3 = held2 + (x22 <<< it2.1) := ⟨_, rfl⟩
              replace hW := hW held3 eheld1
              refine a_augV (x := (.int ((held2 : Nat) : Int))) (y := (.int ((x22 <<< it2.1 : Nat) : Int))) (z := (.int ((held3 : Nat) : Int))) rfl (vn_shl (ix2 (val_var rfl) (val_var rfl)) (val_var rfl) c4) (v_eq (vn_add val_c val_c) (by rw [eheld1])) ?_
              exact hN13 held3 _ _ _ ⟨_, _, _, w, gx7, rfl, x19, x20, x21⟩ hW
            · intro held2 σ' F25 H24 hI8 hW
              obtain ⟨o6, o7, o8, w, gx8, rfl, x19, x20, x21⟩ := hI8
              have xf_net := Rep.mono _ gx8 xf_net
              have r14 := Rep.mono _ gx8 r14
              have gx6 := Ex.tr gx6 gx8
              have gx4 := Ex.tr gx4 gx8
              have gx2 := Ex.tr gx2 gx8
              refine hN12 _ _ ?_
              refine q_sq fun N14 hN14 => ?_
              refine e_fld ?_
              refine e_val (v := (.int ((held2 : Nat) : Int))) (val_var rfl) ?_
              refine a_fld T.cl_Run T.na_Run_held x20 w (show 4 < 1000 from by decide) (val_var rfl) (fun H25 w7 x23 kp3 => ?_)
              replace x19 := x19.kept kp3 no_replies
              replace x21 := x21.kept kp3 (Ne.symm ne4)
              replace w := w7
              replace x23 : Xc Hb F25 H25 ob (.ins cc.Run dx [("net", v_net), ("held", (.int ((held2 : Nat) : Int))), ("bits", o_bits), ("replies", V.ref d_replies)]) := Xc.cast x23 ((put_ne (by decide +kernel)).trans (congrArg _ put_eq))
              refine hN14 _ _ ?_
              refine q_sq fun N15 hN15 => ?_
              refine e_fld ?_
              refine e_val (v := (.ref p3)) (val_var rfl) ?_
              obtain ⟨F26, w8, g5, r16, fz5⟩ := x21.frzE w
              replace xf_net := Rep.mono _ g5 xf_net
              replace x19 := x19.frzO fz5 ne3 g5
              replace x23 := x23.frzO fz5 ne4 g5
              replace w := w8
              replace gx8 := Ex.tr gx8 g5
              replace gx6 := Ex.tr gx6 g5
              replace gx4 := Ex.tr gx4 g5
              replace gx2 := Ex.tr gx2 g5
              refine a_fld T.cl_Run T.na_Run_bits x23 w (show 4 < 1000 from by decide) (val_var rfl) (fun H26 w9 x24 kp4 => ?_)
              replace x19 := x19.kept kp4 no_replies
              replace w := w9
              replace x24 : Xc Hb F26 H26 ob (.ins cc.Run dx [("net", v_net), ("held", (.int ((held2 : Nat) : Int))), ("bits", (.ref p3)), ("replies", V.ref d_replies)]) := Xc.cast x24 ((put_ne (by decide +kernel)).trans (congrArg _ ((put_ne (by decide +kernel)).trans (congrArg _ put_eq))))
              refine hN15 _ _ ?_
              refine q_sq fun N16 hN16 => ?_
              refine a_dropE ?_
              refine m_list x19 (fl_X T.cl_Run T.na_Run_replies x24 ((lk_ne (by decide +kernel)).trans ((lk_ne (by decide +kernel)).trans ((lk_ne (by decide +kernel)).trans lk_eq))) (val_var rfl)) ?_
              refine a_val (v := (.int ((answer1 : Nat) : Int))) (val_var rfl) ?_
              refine a_nil ?_
              obtain ⟨c5, hW⟩ := hW
              refine a_app x19 w c5 rfl (fun H27 w10 x25 kp5 => ?_)
              replace x24 := x24.kept kp5 (Ne.symm no_replies)
              replace w := w10
              refine hN16 _ _ ?_
              refine a_ret (v := (.int ((answer1 : Nat) : Int))) (val_var rfl) ?_
              exact hQ (answer1, held2, replies1 ++ [answer1]) hW _ _ w ⟨_, x24⟩ x25
    · have hW := ifN hW hc1
      exact hW
abbrev s_Run_state : Stmt := inClass (topS 16) 2
/-! Run.state -/
def W_Run_state (held1 : Nat) (R : Nat → Prop) : Prop := R held1
def sp_Run_state (K : PySem.W.Frag) (cc : Cz) : Sp := fun vs H Q _ => ∃ (F : Hp) (ob dx : Addr) (fs : List (Str × V)) (held1 : Nat) (R : Nat → Prop), vs = [(.ref ob)] ∧ Ex F H ∧ H ob = some (.ins cc.Run dx fs) ∧ fs.lookup ("held" : Str) = some ((.int ((held1 : Nat) : Int))) ∧ W_Run_state held1 R ∧ ∀ z, R z → ∀ F' H', Wf F H F' H' → Q (.int ((z : Nat) : Int)) H'
abbrev N_Run_state : List Str := ["self"]
theorem sc_Run_state : FnScope N_Run_state ["self"] (defScope s_Run_state) := ⟨rfl, rfl, rfl, by decide +kernel, rfl, by decide +kernel, by decide +kernel⟩
theorem ok_Run_state {P : Program} {w0 : World} {K : PySem.W.Frag} {mg : Str → Option Value} {base : Heap} {f : Addr} {fd : FuncData} {cc : Cz} (T : Tz K mg cc) (FU : Fun K "state" "Run.state" s_Run_state f fd) (hm : Meth K cc.Run "state" f) (hb : Binds K fd ["self"] []) : Md P w0 K mg base CX0 1 cc.Run "state" ["self"] (sp_Run_state K cc) := by
  refine ⟨f, fd, FU.ok sc_Run_state (fun vs H Q E h => ?_) (fun cdv A outer s H0 vs Q E hr h => ?_), hm, hb⟩
  · obtain ⟨_, _, _, _, _, _, rfl, _⟩ := h; rfl
  · obtain ⟨F0, ob, dx, fs, held1, R, rfl, wf, hob, lk_held, hW, hQ⟩ := h
    have nd := sc_Run_state.nd
    refine ⟨(tRet (tFld K (tVar 0) "held")), (pss_one (ps_ret (pe_fld (pv 0) rfl))), ?_⟩
    have bo : BO cc.Run F0 H0 ob dx fs := ⟨hob⟩
    have w := Wf.id wf
    refine a_ret (v := (.int ((held1 : Nat) : Int))) (fl_B (na := T.na_Run_held) T.cl_Run bo lk_held (val_var rfl)) ?_
    exact hQ _ hW _ _ w
abbrev s_Run_answered : Stmt := inClass (topS 16) 4
/-! Run.answered -/
def W_Run_answered (replies1 : List Nat) (R : (List Nat) → Prop) : Prop := R replies1
def sp_Run_answered (K : PySem.W.Frag) (cc : Cz) : Sp := fun vs H Q _ => ∃ (F : Hp) (ob dx : Addr) (fs : List (Str × V)) (d_replies : Addr) (replies1 : List Nat) (R : (List Nat) → Prop), vs = [(.ref ob)] ∧ Ex F H ∧ H ob = some (.ins cc.Run dx fs) ∧ fs.lookup ("replies" : Str) = some (V.ref d_replies) ∧ BL pN F H d_replies replies1 ∧ W_Run_answered replies1 R ∧ ∀ z, R z → ∀ p F' H', Wf F H F' H' → XL pN H F' H' p z → Q (.ref p) H'
abbrev N_Run_answered : List Str := ["self"]
theorem sc_Run_answered : FnScope N_Run_answered ["self"] (defScope s_Run_answered) := ⟨rfl, rfl, rfl, by decide +kernel, rfl, by decide +kernel, by decide +kernel⟩
theorem ok_Run_answered {P : Program} {w0 : World} {K : PySem.W.Frag} {mg : Str → Option Value} {base : Heap} {f : Addr} {fd : FuncData} {cc : Cz} (T : Tz K mg cc) (FU : Fun K "answered" "Run.answered" s_Run_answered f fd) (hm : Meth K cc.Run "answered" f) (hb : Binds K fd ["self"] []) (n_list : mg "list" = none) : Md P w0 K mg base CX0 1 cc.Run "answered" ["self"] (sp_Run_answered K cc) := by
  refine ⟨f, fd, FU.ok sc_Run_answered (fun vs H Q E h => ?_) (fun cdv A outer s H0 vs Q E hr h => ?_), hm, hb⟩
  · obtain ⟨_, _, _, _, _, _, _, rfl, _⟩ := h; rfl
  · obtain ⟨F0, ob, dx, fs, d_replies, replies1, R, rfl, wf, hob, lk_replies, xf_replies, hW, hQ⟩ := h
    have nd := sc_Run_answered.nd
    refine ⟨(tRet (tCB (rListOf K) (tCons (tFld K (tVar 0) "replies") tNil))), (pss_one (ps_ret (pe_callTy call_list_of (by rfl) n_list PyProof.Rows.boot_list (pa_cons (pe_fld (pv 0) rfl) pa_nil)))), ?_⟩
    have bo : BO cc.Run F0 H0 ob dx fs := ⟨hob⟩
    have w := Wf.id wf
    refine a_retE ?_
    refine e_cb ?_
    refine a_val (v := (.ref d_replies)) (fl_B (na := T.na_Run_replies) T.cl_Run bo lk_replies (val_var rfl)) ?_
    refine a_nil ?_
    refine n_listB xf_replies w ?_
    intro p1 H1 hp1 s1 x1
    have ne1 := xf_replies.ne hp1
    have ne2 := bo.ne hp1
    replace xf_replies := xf_replies.step s1
    replace bo := bo.step s1
    replace w := w.tr s1
    exact hQ _ hW _ _ _ w x1
abbrev s_answers_of : Stmt := topS 17
/-! answers_of -/
def W_answers_of (net1 : List (Str × WireV) × List Str × List Str × List (Str × Bool)) (rows1 : List Nat) (R : (List Nat) → Prop) : Prop := W_Run___init__ net1 fun (net2, held1, replies1) => forW rows1 (held1, replies1) (fun row1 (run_held1, run_replies1) nx2 bk1 => W_Run_step net2 run_held1 run_replies1 row1 fun (z2, held2, replies2) => nx2 (held2, replies2)) fun (run_held1, run_replies1) => W_Run_answered run_replies1 fun z3 => R z3
def sp_answers_of (K : PySem.W.Frag) (cc : Cz) : Sp := fun vs H Q _ => ∃ (F : Hp) (v1 : V) (net1 : List (Str × WireV) × List Str × List Str × List (Str × Bool)) (v2 : V) (rows1 : List Nat) (R : (List Nat) → Prop), vs = [v1, v2] ∧ Ex F H ∧ (pO4 cc.Net "all" "ends" "line_up" "laid" (pD (κ := Str) (pW cc.InWire cc.SumWire cc.StoreWire)) (pL pS) (pL pS) (pD (κ := Str) pB)).r F v1 net1 ∧ (pL pN).r F v2 rows1 ∧ W_answers_of net1 rows1 R ∧ ∀ z, R z → ∀ p F' H', Wf F H F' H' → XL pN H F' H' p z → Q (.ref p) H'
abbrev N_answers_of : List Str := ["net", "rows", "run", "row"]
theorem sc_answers_of : FnScope N_answers_of ["net", "rows"] (defScope s_answers_of) := ⟨rfl, rfl, rfl, by decide +kernel, rfl, by decide +kernel, by decide +kernel⟩
theorem ok_answers_of {P : Program} {w0 : World} {K : PySem.W.Frag} {mg : Str → Option Value} {base : Heap} {f : Addr} {fd : FuncData} {cc : Cz} (T : Tz K mg cc) (FU : Fun K "answers_of" "answers_of" s_answers_of f fd) (hm : mg "answers_of" = some (.ref f)) (hb : Binds K fd ["net", "rows"] []) (c_Run___init__ : Nw P w0 K mg base CX0 1 cc.Run "Run" ["self", "net"] (sp_Run___init__ K cc)) (c_Run_step : Md P w0 K mg base CX0 4 cc.Run "step" ["self", "row"] (sp_Run_step K cc)) (c_Run_answered : Md P w0 K mg base CX0 1 cc.Run "answered" ["self"] (sp_Run_answered K cc)) : Fn P w0 K mg base CX0 5 "answers_of" ["net", "rows"] (sp_answers_of K cc) := by
  refine ⟨f, fd, FU.ok sc_answers_of (fun vs H Q E h => ?_) (fun cdv A outer s H0 vs Q E hr h => ?_), hm, FU.kp, hb⟩
  · obtain ⟨_, _, _, _, _, _, rfl, _⟩ := h; rfl
  · obtain ⟨F0, v1, net1, v2, rows1, R, rfl, wf, r1, r2, hW, hQ⟩ := h
    have nd := sc_answers_of.nd
    refine ⟨(tSeq (tAsg (tMake cc.Run (sp_Run___init__ K cc) [] E0 (tCons (tVar 0) tNil)) (gName 2)) (tSeq (tFor (iList K (tVar 1)) (gName 3) (tDrop (tMeth cc.Run "step" (sp_Run_step K cc) [] E0 (tVar 2) (tCons (tVar 3) tNil)))) (tRet (tMeth cc.Run "answered" (sp_Run_answered K cc) [] E0 (tVar 2) tNil)))), (pss_cons (ps_set (i := 2) nd rfl (Or.inl rfl) (pe_nw c_Run___init__ (hr.mono (by decide)) rfl (pa_cons (pv 0) pa_nil))) (pss_cons (ps_for PassesOwn.never rfl (pi_list (pv 1)) (pg_name (i := 3) nd rfl (Or.inl rfl)) (pss_one (ps_expr (pe_md c_Run_step T.cl_Run (hr.mono (by decide)) (pv 2) (pa_cons (pv 3) pa_nil))))) (pss_one (ps_ret (pe_md0 c_Run_answered T.cl_Run (hr.mono (by decide)) (pv 2)))))), ?_⟩
    have w := Wf.id wf
    refine q_sq fun N1 hN1 => ?_
    refine a_asgE ?_
    refine e_nw ?_
    refine a_val (v := v1) (val_var rfl) ?_
    refine a_nil ?_
    intro ob1 dx1 nx1 nd1 ne1
    refine ⟨F0, ob1, dx1, (v1), (net1), _, rfl, upd_same, (w.f.non nx1), (Ex.made w.f nx1 nd1), r1, hW, ?_⟩
    intro z1 hW v3 p1 F1 H1 s1 xo1 r3 x1 ne2
    obtain ⟨net2, held1, replies1⟩ := z1
    refine ⟨rfl, ?_⟩
    obtain ⟨x1, hd1⟩ := x1.made ne2 w
    replace xo1 := xo1.fromL (w.h.non nx1)
    replace s1 := Wf.made nx1 nd1 s1
    replace r1 := Rep.mono _ s1.g r1
    replace r2 := Rep.mono _ s1.g r2
    replace w := w.tr s1
    refine hN1 _ _ ?_
    refine q_sq fun N2 hN2 => ?_
    refine f_LE ?_
    refine e_val (v := v2) (val_var rfl) ?_
    refine w_forL (S := Nat × List Nat) (fun s σ' F' H' => match s with | (run_held1, run_replies1) => ∃ (o1 : Option V), Wf F0 H0 F' H' ∧ Ex F1 F' ∧ σ' = [some v1, some v2, some (.ref ob1), o1] ∧ XL pN H0 F' H' p1 run_replies1 ∧ XO_Run cc H0 F' H' ob1 dx1 v3 run_held1 p1) r2 hW ⟨_, w, Ex.rfl', rfl, x1, xo1⟩ (fun s σ' F' H' hI => by obtain ⟨run_held1, run_replies1⟩ := s; obtain ⟨_, w', gx', _⟩ := hI; exact ⟨gx', w'.f⟩) w.f ?_ ?_
    · intro N3 Bk1 row1 u1 s2 σ' F2 H2 nx2 bk1 hI1 hx1 ru1 hW hN3 hB1
      obtain ⟨run_held1, run_replies1⟩ := s2
      obtain ⟨o1, w, gx1, rfl, x2, x3⟩ := hI1
      have r1 := Rep.mono _ gx1 r1
      have r2 := Rep.mono _ gx1 r2
      have r3 := Rep.mono _ gx1 r3
      obtain rfl : u1 = (.int ((row1 : Nat) : Int)) := ru1
      refine g_name ?_
      refine a_dropE ?_
      refine e_md ?_
      refine e_val (v := (.ref ob1)) (val_var rfl) ?_
      obtain ⟨v4, xo2⟩ := x3.x
      refine ⟨_, _, _, rfl, xo2.h, ((lk_ne (by decide +kernel)).trans ((lk_ne (by decide +kernel)).trans ((lk_ne (by decide +kernel)).trans ((lk_ne (by decide +kernel)).trans rfl)))), ?_⟩
      refine a_val (v := (.int ((row1 : Nat) : Int))) (val_var rfl) ?_
      refine a_nil ?_
      refine ⟨F2, ob1, dx1, v3, (net2), (run_held1), p1, (run_replies1), (row1), _, rfl, w.f, (x3.toL (List.mem_cons_self ..)), r3, (x2.toL (List.mem_cons_of_mem _ (List.mem_cons_self ..))), ne2, hW, ?_⟩
      intro zz1 hW F3 H3 s3 xo3 x4
      obtain ⟨z2, held2, replies2⟩ := zz1
      replace xo3 := xo3.fromL x3.zero
      replace x4 := x4.fromL x2.zero
      replace w := w.mcall (L := [ob1, p1]) (allL2 x3.zero x2.zero) s3 (allL2 xo3.nF x4.nF)
      replace r1 := Rep.mono _ s3.g r1
      replace r2 := Rep.mono _ s3.g r2
      replace r3 := Rep.mono _ s3.g r3
      replace gx1 := Ex.tr gx1 s3.g
      exact hN3 (held2, replies2) _ _ _ ⟨_, w, gx1, rfl, x4, xo3⟩ hW
    · intro s4 σ' F4 H4 hI2 hW
      obtain ⟨run_held1, run_replies1⟩ := s4
      obtain ⟨o1, w, gx2, rfl, x2, x3⟩ := hI2
      have r1 := Rep.mono _ gx2 r1
      have r2 := Rep.mono _ gx2 r2
      have r3 := Rep.mono _ gx2 r3
      refine hN2 _ _ ?_
      refine a_retE ?_
      refine e_md ?_
      refine e_val (v := (.ref ob1)) (val_var rfl) ?_
      obtain ⟨v5, xo4⟩ := x3.x
      refine ⟨_, _, _, rfl, xo4.h, ((lk_ne (by decide +kernel)).trans ((lk_ne (by decide +kernel)).trans ((lk_ne (by decide +kernel)).trans ((lk_ne (by decide +kernel)).trans rfl)))), ?_⟩
      refine a_nil ?_
      refine ⟨F4, ob1, dx1, _, p1, (run_replies1), _, rfl, w.f, xo4.h, ((lk_ne (by decide +kernel)).trans ((lk_ne (by decide +kernel)).trans ((lk_ne (by decide +kernel)).trans lk_eq))), x2.bw, hW, ?_⟩
      intro z3 hW p2 F5 H5 s5 x5
      have ne3 := x2.ne x5.zero
      have ne4 := x3.ne x5.zero
      replace x5 := x5.base w
      replace r1 := Rep.mono _ s5.g r1
      replace r2 := Rep.mono _ s5.g r2
      replace r3 := Rep.mono _ s5.g r3
      replace x2 := x2.step s5
      replace x3 := x3.step s5
      replace w := w.tr s5
      replace gx2 := Ex.tr gx2 s5.g
      exact hQ _ hW _ _ _ w x5
abbrev s_cell : Stmt := topS 32
/-! _law_cell -/
def W_cell (script1 : List Int) (k1 : Nat) (R : Int → Prop) : Prop := if k1 < script1.length then (∃ x1, script1[k1]? = some x1 ∧ R x1) else (R (((41 * k1) + 3 : Nat) : Int))
def sp_cell (K : PySem.W.Frag) (cc : Cz) : Sp := fun vs H Q _ => ∃ (F : Hp) (v1 : V) (script1 : List Int) (k1 : Nat) (R : Int → Prop), vs = [v1, (.int ((k1 : Nat) : Int))] ∧ Ex F H ∧ (pScr K).r F v1 script1 ∧ W_cell script1 k1 R ∧ ∀ z, R z → ∀ F' H', Wf F H F' H' → Q (.int (z)) H'
abbrev N_cell : List Str := ["_law_script", "_law_k"]
theorem sc_cell : FnScope N_cell ["_law_script", "_law_k"] (defScope s_cell) := ⟨rfl, rfl, rfl, by decide +kernel, rfl, by decide +kernel, by decide +kernel⟩
theorem ok_cell {P : Program} {w0 : World} {K : PySem.W.Frag} {mg : Str → Option Value} {base : Heap} {f : Addr} {fd : FuncData} {cc : Cz} (T : Tz K mg cc) (FU : Fun K "_law_cell" "_law_cell" s_cell f fd) (hm : mg "_law_cell" = some (.ref f)) (hb : Binds K fd ["_law_script", "_law_k"] []) (n_len : mg "len" = none) : Fn P w0 K mg base CX0 1 "_law_cell" ["_law_script", "_law_k"] (sp_cell K cc) := by
  refine ⟨f, fd, FU.ok sc_cell (fun vs H Q E h => ?_) (fun cdv A outer s H0 vs Q E hr h => ?_), hm, FU.kp, hb⟩
  · obtain ⟨_, _, _, _, _, rfl, _⟩ := h; rfl
  · obtain ⟨F0, v1, script1, k1, R, rfl, wf, r1, hW, hQ⟩ := h
    have nd := sc_cell.nd
    refine ⟨(tSeq (tIfS (tTest (tOp kLt (tVar 1) (tCB (Wk.rLen K) (tCons (tVar 0) tNil)))) (tRet (tOp (L2.rIxL K) (tVar 0) (tVar 1))) tNext) (tRet (tOp kAdd (tOp kMul (tC (.int 41)) (tVar 1)) (tC (.int 3))))), (pss_cons (ps_if (pt_cmpR op_lt (pv 1) (pe_callB call_len_seq (by rfl) n_len PySem.boot_len (pa_cons (pv 0) pa_nil)) (nomark _)) (pss_one (ps_ret (pe_ix ix_list (pv 0) (pv 1) (fun _ _ => rfl)))) pss_nil) (pss_one (ps_ret (pe_op op_add (pe_op op_mul pe_int (pv 1)) pe_int)))), ?_⟩
    have w := Wf.id wf
    refine q_sq fun N1 hN1 => ?_
    refine a_ifE ?_
    refine e_ans (b := decide (k1 < script1.length)) (t_of (vb_dec (c_lt (val_var rfl) (len_S r1 w.f (val_var rfl))) n_lt)) ?_
    refine b_if (fun hc1 => ?_) (fun hc1 => ?_)
    · have hW := ifP hW hc1
      obtain ⟨x1, hx1_1, hW⟩ := hW
      have ix1 := ix_S (K := K) w.f r1 hx1_1
      refine a_ret (v := (.int (x1))) (ix1 (val_var rfl) (val_var rfl)) ?_
      exact hQ _ hW _ _ w
    · have hW := ifN hW hc1
      refine hN1 _ _ ?_
      refine a_ret (v := (.int ((((41 * k1) + 3 : Nat) : Int)))) (vn_add (vn_mul val_c (val_var rfl) (.inl (by decide))) val_c) ?_
      exact hQ _ hW _ _ w
abbrev s_mix : Stmt := topS 33
/-! _law_mix -/
def W_mix (cell_here1 : Int) (k1 : Nat) (R : Nat → Prop) : Prop := ∀ number1 : Nat, number1 = ((((modN cell_here1 2147483647) * 48271) + (7919 * k1)) + 11) % 2147483647 → (NMul number1 number1) ∧ ∀ number2 : Nat, number2 = (number1 * number1) % 2147483629 → (NMul number2 ((number2 + (48271 * k1)) + 7)) ∧ R ((number2 * ((number2 + (48271 * k1)) + 7)) % 2147483587)
def sp_mix (K : PySem.W.Frag) (cc : Cz) : Sp := fun vs H Q _ => ∃ (F : Hp) (cell_here1 : Int) (k1 : Nat) (R : Nat → Prop), vs = [(.int (cell_here1)), (.int ((k1 : Nat) : Int))] ∧ Ex F H ∧ W_mix cell_here1 k1 R ∧ ∀ z, R z → ∀ F' H', Wf F H F' H' → Q (.int ((z : Nat) : Int)) H'
abbrev N_mix : List Str := ["_law_cell_here", "_law_k", "_law_number"]
theorem sc_mix : FnScope N_mix ["_law_cell_here", "_law_k"] (defScope s_mix) := ⟨rfl, rfl, rfl, by decide +kernel, rfl, by decide +kernel, by decide +kernel⟩
theorem ok_mix {P : Program} {w0 : World} {K : PySem.W.Frag} {mg : Str → Option Value} {base : Heap} {f : Addr} {fd : FuncData} {cc : Cz} (T : Tz K mg cc) (FU : Fun K "_law_mix" "_law_mix" s_mix f fd) (hm : mg "_law_mix" = some (.ref f)) (hb : Binds K fd ["_law_cell_here", "_law_k"] []) : Fn P w0 K mg base CX0 1 "_law_mix" ["_law_cell_here", "_law_k"] (sp_mix K cc) := by
  refine ⟨f, fd, FU.ok sc_mix (fun vs H Q E h => ?_) (fun cdv A outer s H0 vs Q E hr h => ?_), hm, FU.kp, hb⟩
  · obtain ⟨_, _, _, _, rfl, _⟩ := h; rfl
  · obtain ⟨F0, cell_here1, k1, R, rfl, wf, hW, hQ⟩ := h
    have nd := sc_mix.nd
    refine ⟨(tSeq (tAsg (tOp kMod (tOp kAdd (tOp kAdd (tOp kMul (tOp kMod (tVar 0) (tC (.int 2147483647))) (tC (.int 48271))) (tOp kMul (tC (.int 7919)) (tVar 1))) (tC (.int 11))) (tC (.int 2147483647))) (gName 2)) (tSeq (tAsg (tOp kMod (tOp kMul (tVar 2) (tVar 2)) (tC (.int 2147483629))) (gName 2)) (tRet (tOp kMod (tOp kMul (tVar 2) (tOp kAdd (tOp kAdd (tVar 2) (tOp kMul (tC (.int 48271)) (tVar 1))) (tC (.int 7)))) (tC (.int 2147483587)))))), (pss_cons (ps_set (i := 2) nd rfl (Or.inl rfl) (pe_op op_mod (pe_op op_add (pe_op op_add (pe_op op_mul (pe_op op_mod (pv 0) pe_int) pe_int) (pe_op op_mul pe_int (pv 1))) pe_int) pe_int)) (pss_cons (ps_set (i := 2) nd rfl (Or.inl rfl) (pe_op op_mod (pe_op op_mul (pv 2) (pv 2)) pe_int)) (pss_one (ps_ret (pe_op op_mod (pe_op op_mul (pv 2) (pe_op op_add (pe_op op_add (pv 2) (pe_op op_mul pe_int (pv 1))) pe_int)) pe_int))))), ?_⟩
    have w := Wf.id wf
    refine q_sq fun N1 hN1 => ?_
    obtain ⟨number1, enumber1⟩ : ∃ number1 : Nat, number1 = ((((modN cell_here1 2147483647) * 48271) + (7919 * k1)) + 11) % 2147483647 := ⟨_, rfl⟩
    replace hW := hW number1 enumber1
    refine a_asg (v := (.int ((number1 : Nat) : Int))) (v_eq (vn_mod (vn_add (vn_add (vn_mul (vm_mod (val_var rfl) val_c (by decide)) val_c (.inr (by decide))) (vn_mul val_c (val_var rfl) (.inl (by decide)))) val_c) val_c (by decide)) (by rw [enumber1])) ?_
    refine hN1 _ _ ?_
    refine q_sq fun N2 hN2 => ?_
    obtain ⟨c1, hW⟩ := hW
    obtain ⟨number2, enumber2⟩ : ∃ number2 : Nat, number2 = (number1 * number1) % 2147483629 := ⟨_, rfl⟩
    replace hW := hW number2 enumber2
    refine a_asg (v := (.int ((number2 : Nat) : Int))) (v_eq (vn_mod (vn_mul (val_var rfl) (val_var rfl) c1) val_c (by decide)) (by rw [enumber2])) ?_
    refine hN2 _ _ ?_
    obtain ⟨c2, hW⟩ := hW
    refine a_ret (v := (.int (((number2 * ((number2 + (48271 * k1)) + 7)) % 2147483587 : Nat) : Int))) (vn_mod (vn_mul (val_var rfl) (vn_add (vn_add (val_var rfl) (vn_mul val_c (val_var rfl) (.inl (by decide)))) val_c) c2) val_c (by decide)) ?_
    exact hQ _ hW _ _ w
abbrev s_name : Stmt := topS 34
/-! _law_name -/
def W_name (cell_here1 : Int) (k1 : Nat) (R : Str → Prop) : Prop := ∀ letters1 : Str, letters1 = (PySem.Str.ofString "abcdefghijklmnopqrstuvwxyz") → ∀ some1 : Str, some1 = (PySem.Str.ofString "cut x x0 x1 fresh new zero none nil tmp c c0 cut0 cut1 gnd off in out sum store") → (some1.length + (PySem.Str.ofString " i0 i1 s0 s1 n0 n1 o0 o1 net wire a b z y0 t0 w w0 k dead open").length < 1000000) ∧ ∀ some2 : Str, some2 = some1 ++ (PySem.Str.ofString " i0 i1 s0 s1 n0 n1 o0 o1 net wire a b z y0 t0 w w0 k dead open") → jn (fun kk => if k1 < 40 then (W_mix cell_here1 402 fun z1 => kk (decide ((z1 % 2) = 0))) else (kk false)) fun b1 => if b1 = true then ((some2.length + 2 < 1000000) ∧ W_mix cell_here1 403 fun z2 => ∃ x2, (Txt.split some2 (PySem.Str.ofString " "))[(k1 + z2) % 40]? = some x2 ∧ R x2) else (W_mix cell_here1 400 fun z3 => (letters1.length < 1000000) ∧ ∃ c4 : Nat, letters1.cps.toList[z3 % 26]? = some c4 ∧ W_mix cell_here1 401 fun z4 => (((z4 % 1000) + (37 * k1)).log2 < 1920) ∧ ((sg c4).length + (strN ((z4 % 1000) + (37 * k1))).length < 1000000) ∧ R ((sg c4) ++ (strN ((z4 % 1000) + (37 * k1)))))
def sp_name (K : PySem.W.Frag) (cc : Cz) : Sp := fun vs H Q _ => ∃ (F : Hp) (cell_here1 : Int) (k1 : Nat) (R : Str → Prop), vs = [(.int (cell_here1)), (.int ((k1 : Nat) : Int))] ∧ Ex F H ∧ W_name cell_here1 k1 R ∧ ∀ z, R z → ∀ F' H', Wf F H F' H' → Q (.str (z)) H'
abbrev N_name : List Str := ["_law_cell_here", "_law_k", "_law_letters", "_law_some"]
theorem sc_name : FnScope N_name ["_law_cell_here", "_law_k"] (defScope s_name) := ⟨rfl, rfl, rfl, by decide +kernel, rfl, by decide +kernel, by decide +kernel⟩
theorem ok_name {P : Program} {w0 : World} {K : PySem.W.Frag} {mg : Str → Option Value} {base : Heap} {f : Addr} {fd : FuncData} {cc : Cz} (T : Tz K mg cc) (FU : Fun K "_law_name" "_law_name" s_name f fd) (hm : mg "_law_name" = some (.ref f)) (hb : Binds K fd ["_law_cell_here", "_law_k"] []) (c_mix : Fn P w0 K mg base CX0 1 "_law_mix" ["_law_cell_here", "_law_k"] (sp_mix K cc)) (n_str : mg "str" = none) : Fn P w0 K mg base CX0 2 "_law_name" ["_law_cell_here", "_law_k"] (sp_name K cc) := by
  refine ⟨f, fd, FU.ok sc_name (fun vs H Q E h => ?_) (fun cdv A outer s H0 vs Q E hr h => ?_), hm, FU.kp, hb⟩
  · obtain ⟨_, _, _, _, rfl, _⟩ := h; rfl
  · obtain ⟨F0, cell_here1, k1, R, rfl, wf, hW, hQ⟩ := h
    have nd := sc_name.nd
    refine ⟨(tSeq (tAsg (tC (.str (PySem.Str.ofString "abcdefghijklmnopqrstuvwxyz"))) (gName 2)) (tSeq (tAsg (tC (.str (PySem.Str.ofString "cut x x0 x1 fresh new zero none nil tmp c c0 cut0 cut1 gnd off in out sum store"))) (gName 3)) (tSeq (tAsg (tOp kAddS (tVar 3) (tC (.str (PySem.Str.ofString " i0 i1 s0 s1 n0 n1 o0 o1 net wire a b z y0 t0 w w0 k dead open")))) (gName 3)) (tSeq (tIfS (tAnd (tTest (tOp kLt (tVar 1) (tC (.int 40)))) (tTest (tOp L2.rEq (tOp kMod (tCall (sp_mix K cc) [] E0 (tCons (tVar 0) (tCons (tC (.int 402)) tNil))) (tC (.int 2))) (tC (.int 0))))) (tRet (tOp (L2.rIxL K) (tM1 rSplit (tVar 3) (tC (.str (PySem.Str.ofString " ")))) (tOp kMod (tOp kAdd (tVar 1) (tCall (sp_mix K cc) [] E0 (tCons (tVar 0) (tCons (tC (.int 403)) tNil)))) (tC (.int 40))))) tNext) (tRet (tOp kAddS (tOp L2.rIxS (tVar 2) (tOp kMod (tCall (sp_mix K cc) [] E0 (tCons (tVar 0) (tCons (tC (.int 400)) tNil))) (tC (.int 26)))) (tCB rStrI (tCons (tOp kAdd (tOp kMod (tCall (sp_mix K cc) [] E0 (tCons (tVar 0) (tCons (tC (.int 401)) tNil))) (tC (.int 1000))) (tOp kMul (tC (.int 37)) (tVar 1))) tNil)))))))), (pss_cons (ps_set (i := 2) nd rfl (Or.inl rfl) pe_str) (pss_cons (ps_set (i := 3) nd rfl (Or.inl rfl) pe_str) (pss_cons (ps_set (i := 3) nd rfl (Or.inl rfl) (pe_op op_addS (pv 3) pe_str)) (pss_cons (ps_if (PW.pt (pw_and (pt_cmpR op_lt (pv 1) pe_int (nomark _)) (pw_and1 (pt_cmpR op_eq (pe_op op_mod (pe_fn c_mix (hr.mono (by decide)) rfl (pa_cons (pv 0) (pa_cons pe_int pa_nil))) pe_int) pe_int (nomark _))))) (pss_one (ps_ret (pe_ix ix_list (pe_split (pv 3) pe_str) (pe_op op_mod (pe_op op_add (pv 1) (pe_fn c_mix (hr.mono (by decide)) rfl (pa_cons (pv 0) (pa_cons pe_int pa_nil)))) pe_int) (fun _ _ => rfl)))) pss_nil) (pss_one (ps_ret (pe_op op_addS (pe_ix ix_str (pv 2) (pe_op op_mod (pe_fn c_mix (hr.mono (by decide)) rfl (pa_cons (pv 0) (pa_cons pe_int pa_nil))) pe_int) (fun _ _ => rfl)) (pe_callTy call_str_int (by rfl) n_str PyProof.Rows.boot_str (pa_cons (pe_op op_add (pe_op op_mod (pe_fn c_mix (hr.mono (by decide)) rfl (pa_cons (pv 0) (pa_cons pe_int pa_nil))) pe_int) (pe_op op_mul pe_int (pv 1))) pa_nil))))))))), ?_⟩
    have w := Wf.id wf
    refine q_sq fun N1 hN1 => ?_
    obtain ⟨letters1, eletters1⟩ : ∃ letters1 : Str, letters1 = (PySem.Str.ofString "abcdefghijklmnopqrstuvwxyz") := ⟨_, rfl⟩
    replace hW := hW letters1 eletters1
    refine a_asg (v := (.str (letters1))) (v_eq val_c (by rw [eletters1])) ?_
    refine hN1 _ _ ?_
    refine q_sq fun N2 hN2 => ?_
    obtain ⟨some1, esome1⟩ : ∃ some1 : Str, some1 = (PySem.Str.ofString "cut x x0 x1 fresh new zero none nil tmp c c0 cut0 cut1 gnd off in out sum store") := ⟨_, rfl⟩
    replace hW := hW some1 esome1
    refine a_asg (v := (.str (some1))) (v_eq val_c (by rw [esome1])) ?_
    refine hN2 _ _ ?_
    refine q_sq fun N3 hN3 => ?_
    obtain ⟨c1, hW⟩ := hW
    obtain ⟨some2, esome2⟩ : ∃ some2 : Str, some2 = some1 ++ (PySem.Str.ofString " i0 i1 s0 s1 n0 n1 o0 o1 net wire a b z y0 t0 w w0 k dead open") := ⟨_, rfl⟩
    replace hW := hW some2 esome2
    refine a_asg (v := (.str (some2))) (v_eq (v_addS (val_var rfl) val_c c1) (by rw [esome2])) ?_
    refine hN3 _ _ ?_
    refine q_sq fun N4 hN4 => ?_
    refine a_ifE ?_
    refine e_jnT hW (fun b F' H' => b = b ∧ Wf F0 H0 F' H' ∧ Ex F0 F') ?_ ?_
    · intro N5 hN5 hW
      have gx1 : Ex F0 F0 := Ex.rfl'
      refine e_tAnd ?_
      refine e_ans (b := decide (k1 < 40)) (t_of (vb_dec (c_lt (val_var rfl) val_c) n_lt)) ?_
      refine b_if (fun hc1 => ?_) (fun hc1 => ?_)
      · have hW := ifP hW hc1
        refine e_tT ?_
        refine e_op ?_
        refine e_op ?_
        refine e_call ?_
        refine a_val (v := (.int (cell_here1))) (val_var rfl) ?_
        refine a_val (v := (.int ((402 : Nat) : Int))) val_c ?_
        refine a_nil ?_
        refine ⟨F0, (cell_here1), (402), _, rfl, w.f, hW, ?_⟩
        intro z1 hW F1 H1 s1
        replace w := w.tr s1
        replace gx1 := Ex.tr gx1 s1.g
        refine e_val (v := (.int ((2 : Nat) : Int))) val_c ?_
        refine rv2 (z := (.int ((z1 % 2 : Nat) : Int))) (vn_mod val_c val_c (by decide)) ?_
        refine e_val (v := (.int ((0 : Nat) : Int))) val_c ?_
        refine rv2T (b := decide ((z1 % 2) = 0)) (vb_dec (c_eqI val_c val_c) n_eq) ?_
        exact hN5 (decide ((z1 % 2) = 0)) _ _ ⟨rfl, w, gx1⟩ hW
      · have hW := ifN hW hc1
        exact hN5 false _ _ ⟨rfl, w, gx1⟩ hW
    intro b1 F2 H2 hI1 hW
    obtain ⟨_, w, gx2⟩ := hI1
    refine bb_if (fun hc2 => ?_) (fun hc2 => ?_)
    · have hW := ifP hW hc2
      refine a_retE ?_
      refine e_op ?_
      refine e_m1 ?_
      refine e_val (v := (.str (some2))) (val_var rfl) ?_
      refine ⟨⟨_, rfl⟩, ?_⟩
      refine e_val (v := (.str ((PySem.Str.ofString " ")))) val_c ?_
      obtain ⟨c2, hW⟩ := hW
      refine n_split (by decide +kernel) c2 w ?_
      intro p1 H3 hp1 s2 x1
      replace w := w.tr s2
      refine e_op ?_
      refine e_op ?_
      refine e_val (v := (.int ((k1 : Nat) : Int))) (val_var rfl) ?_
      refine e_call ?_
      refine a_val (v := (.int (cell_here1))) (val_var rfl) ?_
      refine a_val (v := (.int ((403 : Nat) : Int))) val_c ?_
      refine a_nil ?_
      refine ⟨F2, (cell_here1), (403), _, rfl, w.f, hW, ?_⟩
      intro z2 hW F3 H4 s3
      replace x1 := x1.step s3
      replace w := w.tr s3
      refine rv2 (z := (.int ((k1 + z2 : Nat) : Int))) (vn_add val_c val_c) ?_
      refine e_val (v := (.int ((40 : Nat) : Int))) val_c ?_
      refine rv2 (z := (.int (((k1 + z2) % 40 : Nat) : Int))) (vn_mod val_c val_c (by decide)) ?_
      obtain ⟨x2, hx2_1, hW⟩ := hW
      obtain ⟨_, rfl, ix1⟩ := ix_X (K := K) x1 hx2_1
      refine rv2 (z := (.str (x2))) (ix1 val_c val_c) ?_
      exact hQ _ hW _ _ w
    · have hW := ifN hW hc2
      refine hN4 _ _ ?_
      refine a_retE ?_
      refine e_op ?_
      refine e_op ?_
      refine e_val (v := (.str (letters1))) (val_var rfl) ?_
      refine e_op ?_
      refine e_call ?_
      refine a_val (v := (.int (cell_here1))) (val_var rfl) ?_
      refine a_val (v := (.int ((400 : Nat) : Int))) val_c ?_
      refine a_nil ?_
      refine ⟨F2, (cell_here1), (400), _, rfl, w.f, hW, ?_⟩
      intro z3 hW F4 H5 s4
      replace w := w.tr s4
      refine e_val (v := (.int ((26 : Nat) : Int))) val_c ?_
      refine rv2 (z := (.int ((z3 % 26 : Nat) : Int))) (vn_mod val_c val_c (by decide)) ?_
      obtain ⟨c3, hW⟩ := hW
      obtain ⟨c4, hc3, hW⟩ := hW
      refine rv2 (z := .str (sg c4)) (ix_Str val_c val_c c3 hc3) ?_
      refine e_cb ?_
      refine a_cons ?_
      refine e_op ?_
      refine e_op ?_
      refine e_call ?_
      refine a_val (v := (.int (cell_here1))) (val_var rfl) ?_
      refine a_val (v := (.int ((401 : Nat) : Int))) val_c ?_
      refine a_nil ?_
      refine ⟨F4, (cell_here1), (401), _, rfl, w.f, hW, ?_⟩
      intro z4 hW F5 H6 s5
      replace w := w.tr s5
      refine e_val (v := (.int ((1000 : Nat) : Int))) val_c ?_
      refine rv2 (z := (.int ((z4 % 1000 : Nat) : Int))) (vn_mod val_c val_c (by decide)) ?_
      refine e_val (v := (.int ((37 * k1 : Nat) : Int))) (vn_mul val_c (val_var rfl) (.inl (by decide))) ?_
      refine rv2 (z := (.int (((z4 % 1000) + (37 * k1) : Nat) : Int))) (vn_add val_c val_c) ?_
      refine a_nil ?_
      obtain ⟨c5, hW⟩ := hW
      refine rcb1 (z := .str (strN ((z4 % 1000) + (37 * k1)))) (vn_str c5 val_c) ?_
      obtain ⟨c6, hW⟩ := hW
      refine rv2 (z := (.str ((sg c4) ++ (strN ((z4 % 1000) + (37 * k1)))))) (v_addS val_c val_c c6) ?_
      exact hQ _ hW _ _ w
abbrev s_wires : Stmt := topS 35
/-! _law_wires -/
def W_wires (cell_here1 : Int) (start1 : Nat) (names1 : List Str) (digits1 : Bool) (R : (List Str) → Prop) : Prop := if digits1 = true then (((names1.length + 1) < 2 ^ 64) ∧ (0 < (names1.length + 1) ^ 4) ∧ ∀ left1 : Nat, left1 = modN cell_here1 ((names1.length + 1) ^ 4) → (4 < 1000000) ∧ forW (List.range 4) (([] : List Str), left1) (fun k1 (found1, left2) nx1 bk1 => jn (fun kk => (0 < names1.length + 1) ∧ if 0 < (left2 % (names1.length + 1)) then ((0 < names1.length + 1) ∧ (1 ≤ left2 % (names1.length + 1)) ∧ ∃ x4, names1[(left2 % (names1.length + 1)) - 1]? = some x4 ∧ (found1.length < 1000000) ∧ kk (found1 ++ [x4])) else (kk found1)) fun found2 => (NDiv (names1.length + 1)) ∧ ∀ left3 : Nat, left3 = left2 / (names1.length + 1) → nx1 (found2, left3)) fun (found1, left2) => R found1) else (W_mix cell_here1 start1 fun z1 => ∀ many1 : Nat, many1 = z1 % 5 → (many1 < 1000000) ∧ compW (List.range many1) (fun k2 kk => (okV (pL pS) names1 ∧ okV (pL pS) ([] : List Str)) ∧ if names1 ≠ ([] : List Str) then (W_mix cell_here1 ((start1 + 1) + k2) fun z2 => (0 < names1.length) ∧ ∃ x7, names1[z2 % names1.length]? = some x7 ∧ kk (some x7)) else (kk none)) fun ys1 => R ys1)
def sp_wires (K : PySem.W.Frag) (cc : Cz) : Sp := fun vs H Q _ => ∃ (F : Hp) (cell_here1 : Int) (start1 : Nat) (v1 : V) (names1 : List Str) (digits1 : Bool) (R : (List Str) → Prop), vs = [(.int (cell_here1)), (.int ((start1 : Nat) : Int)), v1, (.bl (digits1))] ∧ Ex F H ∧ (pL pS).r F v1 names1 ∧ W_wires cell_here1 start1 names1 digits1 R ∧ ∀ z, R z → ∀ p F' H', Wf F H F' H' → XL pS H F' H' p z → Q (.ref p) H'
abbrev N_wires : List Str := ["_law_cell_here", "_law_start", "_law_names", "_law_digits", "_law_left", "_law_found", "_law_k", "_law_many"]
theorem sc_wires : FnScope N_wires ["_law_cell_here", "_law_start", "_law_names", "_law_digits"] (defScope s_wires) := ⟨rfl, rfl, rfl, by decide +kernel, rfl, by decide +kernel, by decide +kernel⟩
theorem ok_wires {P : Program} {w0 : World} {K : PySem.W.Frag} {mg : Str → Option Value} {base : Heap} {f : Addr} {fd : FuncData} {cc : Cz} (T : Tz K mg cc) (FU : Fun K "_law_wires" "_law_wires" s_wires f fd) (hm : mg "_law_wires" = some (.ref f)) (hb : Binds K fd ["_law_cell_here", "_law_start", "_law_names", "_law_digits"] []) (c_mix : Fn P w0 K mg base CX0 1 "_law_mix" ["_law_cell_here", "_law_k"] (sp_mix K cc)) (n_len : mg "len" = none) (n_range : mg "range" = none) : Fn P w0 K mg base CX0 2 "_law_wires" ["_law_cell_here", "_law_start", "_law_names", "_law_digits"] (sp_wires K cc) := by
  refine ⟨f, fd, FU.ok sc_wires (fun vs H Q E h => ?_) (fun cdv A outer s H0 vs Q E hr h => ?_), hm, FU.kp, hb⟩
  · obtain ⟨_, _, _, _, _, _, _, rfl, _⟩ := h; rfl
  · obtain ⟨F0, cell_here1, start1, v1, names1, digits1, R, rfl, wf, r1, hW, hQ⟩ := h
    have nd := sc_wires.nd
    refine ⟨(tSeq (tIfS (tB (tVar 3)) (tSeq (tAsg (tOp kMod (tVar 0) (tOp kPow (tOp kAdd (tCB (Wk.rLen K) (tCons (tVar 2) tNil)) (tC (.int 1))) (tC (.int 4)))) (gName 4)) (tSeq (tAsg (tLst tNil) (gName 5)) (tSeq (tFor (iRng1 (tCons (tC (.int 4)) tNil)) (gName 6) (tSeq (tIfS (tTest (tOp kGt (tOp kMod (tVar 4) (tOp kAdd (tCB (Wk.rLen K) (tCons (tVar 2) tNil)) (tC (.int 1)))) (tC (.int 0)))) (tDrop (tBM K "list" rAppend (tVar 5) (tCons (tOp (L2.rIxL K) (tVar 2) (tOp kSub (tOp kMod (tVar 4) (tOp kAdd (tCB (Wk.rLen K) (tCons (tVar 2) tNil)) (tC (.int 1)))) (tC (.int 1)))) tNil))) tNext) (tAsg (tOp kDiv (tVar 4) (tOp kAdd (tCB (Wk.rLen K) (tCons (tVar 2) tNil)) (tC (.int 1)))) (gName 4)))) (tRet (tVar 5))))) tNext) (tSeq (tAsg (tOp kMod (tCall (sp_mix K cc) [] E0 (tCons (tVar 0) (tCons (tVar 1) tNil))) (tC (.int 5))) (gName 7)) (tRet (tLc (iRng1 (tCons (tVar 7) tNil)) (gName 6) (tTest (tOp (L2.rNeD K) (tVar 2) (tLst tNil))) (tOp (L2.rIxL K) (tVar 2) (tOp kMod (tCall (sp_mix K cc) [] E0 (tCons (tVar 0) (tCons (tOp kAdd (tOp kAdd (tVar 1) (tC (.int 1))) (tVar 6)) tNil))) (tCB (Wk.rLen K) (tCons (tVar 2) tNil)))) [6])))), (pss_cons (ps_if (pt_val (pv 3)) (pss_cons (ps_set (i := 4) nd rfl (Or.inl rfl) (pe_op op_mod (pv 0) (pe_op op_pow (pe_op op_add (pe_callB call_len_seq (by rfl) n_len PySem.boot_len (pa_cons (pv 2) pa_nil)) pe_int) pe_int))) (pss_cons (ps_set (i := 5) nd rfl (Or.inl rfl) (pe_lst pa_nil)) (pss_cons (ps_for PassesOwn.never rfl (pi_range1 rfl n_range (pa_cons pe_int pa_nil)) (pg_name (i := 6) nd rfl (Or.inl rfl)) (pss_cons (ps_if (pt_cmpR op_gt (pe_op op_mod (pv 4) (pe_op op_add (pe_callB call_len_seq (by rfl) n_len PySem.boot_len (pa_cons (pv 2) pa_nil)) pe_int)) pe_int (nomark _)) (pss_one (ps_expr (pe_bm PySem.F.plainAttrs_list PySem.F.slot_list_append PySem.F.type_list_append mt_append (pv 5) (pa_cons (pe_ix ix_list (pv 2) (pe_op op_sub (pe_op op_mod (pv 4) (pe_op op_add (pe_callB call_len_seq (by rfl) n_len PySem.boot_len (pa_cons (pv 2) pa_nil)) pe_int)) pe_int) (fun _ _ => rfl)) pa_nil)))) pss_nil) (pss_one (ps_set (i := 4) nd rfl (Or.inl rfl) (pe_op op_fdivW (pv 4) (pe_op op_add (pe_callB call_len_seq (by rfl) n_len PySem.boot_len (pa_cons (pv 2) pa_nil)) pe_int)))))) (pss_one (ps_ret (pv 5)))))) pss_nil) (pss_cons (ps_set (i := 7) nd rfl (Or.inl rfl) (pe_op op_mod (pe_fn c_mix (hr.mono (by decide)) rfl (pa_cons (pv 0) (pa_cons (pv 1) pa_nil))) pe_int)) (pss_one (ps_ret (pe_lc (own := [("_law_k", 6)]) (wi := (iRng1 (tCons (tVar 7) tNil))) (g := (gName 6)) (tt := (tTest (tOp (L2.rNeD K) (tVar 2) (tLst tNil)))) (te := (tOp (L2.rIxL K) (tVar 2) (tOp kMod (tCall (sp_mix K cc) [] E0 (tCons (tVar 0) (tCons (tOp kAdd (tOp kAdd (tVar 1) (tC (.int 1))) (tVar 6)) tNil))) (tCB (Wk.rLen K) (tCons (tVar 2) tNil))))) rfl nd (pi_range1 rfl n_range (pa_cons (pv 7) pa_nil)) (blkOk_by (N := N_wires) (sc := defScope s_wires) (by decide +kernel)) (fun _ _ _ _ _ => (pg_name (i := 6) nd rfl (Or.inl rfl))) (fun _ _ _ _ _ => (pts_one (pt_cmpR (op_neD hr.units) (pv 2) (pe_lst pa_nil) (nomark _)))) (fun _ _ _ _ _ => (pe_ix ix_list (pv 2) (pe_op op_mod (pe_fn c_mix (hr.mono (by decide)) rfl (pa_cons (pv 0) (pa_cons (pe_op op_add (pe_op op_add (pv 1) pe_int) (pv 6)) pa_nil))) (pe_callB call_len_seq (by rfl) n_len PySem.boot_len (pa_cons (pv 2) pa_nil))) (fun _ _ => rfl)))))))), ?_⟩
    have w := Wf.id wf
    refine q_sq fun N1 hN1 => ?_
    refine a_ifE ?_
    refine e_ans (b := decide (digits1 = true)) (t_ofB (vb_of (val_var rfl) dec_tt)) ?_
    refine b_if (fun hc1 => ?_) (fun hc1 => ?_)
    · have hW := ifP hW hc1
      refine q_sq fun N2 hN2 => ?_
      obtain ⟨c1, hW⟩ := hW
      obtain ⟨c2, hW⟩ := hW
      obtain ⟨left1, eleft1⟩ : ∃ left1 : Nat, left1 = modN cell_here1 ((names1.length + 1) ^ 4) := ⟨_, rfl⟩
      replace hW := hW left1 eleft1
      refine a_asg (v := (.int ((left1 : Nat) : Int))) (v_eq (vm_mod (val_var rfl) (vn_pow (a := names1.length + 1) (b := 4) (vn_add (len_L r1 w.f (val_var rfl)) val_c) val_c ⟨by decide, c1⟩ rfl) c2) (by rw [eleft1])) ?_
      refine hN2 _ _ ?_
      refine q_sq fun N3 hN3 => ?_
      refine a_asgE ?_
      refine e_lst ?_
      refine a_nil ?_
      refine n_lstX (e := pS) (xs := []) (vs := []) (show All pS _ [] [] from trivial) (show 0 < 1000000 from by decide) w ?_
      intro p1 H1 hp1 s1 x1
      replace r1 := Rep.mono _ s1.g r1
      replace w := w.tr s1
      refine hN3 _ _ ?_
      refine q_sq fun N4 hN4 => ?_
      refine f_RE ?_
      refine e_val (v := (.int ((4 : Nat) : Int))) val_c ?_
      obtain ⟨c3, hW⟩ := hW
      refine w_forR (S := List Str × Nat) (fun s σ' F' H' => match s with | (found1, left2) => ∃ (o1 : Option V), Wf F0 H0 F' H' ∧ Ex F0 F' ∧ σ' = [some (.int (cell_here1)), some (.int ((start1 : Nat) : Int)), some v1, some (.bl (digits1)), some (.int ((left2 : Nat) : Int)), some ((.ref p1)), o1, none] ∧ XL pS H0 F' H' p1 found1) c3 hW ⟨_, w, Ex.rfl', rfl, x1⟩ ?_ ?_
      · intro N5 Bk1 k1 s2 σ' F1 H2 nx1 bk1 hI1 hx1 hW hN5 hB1
        obtain ⟨found1, left2⟩ := s2
        obtain ⟨o1, w, gx1, rfl, x2⟩ := hI1
        have r1 := Rep.mono _ gx1 r1
        refine g_name ?_
        refine q_jn (S := List Str) hW (fun found2 σ' F' H' => Wf F0 H0 F' H' ∧ Ex F1 F' ∧ σ' = [some (.int (cell_here1)), some (.int ((start1 : Nat) : Int)), some v1, some (.bl (digits1)), some (.int ((left2 : Nat) : Int)), some ((.ref p1)), some (.int ((k1 : Nat) : Int)), none] ∧ XL pS H0 F' H' p1 found2) ?_ ?_
        · intro N6 hN6 hW
          have gx2 : Ex F1 F1 := Ex.rfl'
          refine a_ifE ?_
          obtain ⟨c4, hW⟩ := hW
          refine e_ans (b := decide (0 < (left2 % (names1.length + 1)))) (t_of (vb_dec (c_gt (vn_mod (val_var rfl) (vn_add (len_L r1 w.f (val_var rfl)) val_c) c4) val_c) n_lt)) ?_
          refine b_if (fun hc2 => ?_) (fun hc2 => ?_)
          · have hW := ifP hW hc2
            refine a_dropE ?_
            refine m_list x2 (val_var rfl) ?_
            obtain ⟨c5, hW⟩ := hW
            obtain ⟨c6, hW⟩ := hW
            obtain ⟨x4, hx4_1, hW⟩ := hW
            obtain ⟨_, rfl, ix1⟩ := ix_L (K := K) r1 w.f hx4_1
            refine a_val (v := (.str (x4))) (ix1 (val_var rfl) (vn_sub (vn_mod (val_var rfl) (vn_add (len_L r1 w.f (val_var rfl)) val_c) c5) val_c c6)) ?_
            refine a_nil ?_
            obtain ⟨c7, hW⟩ := hW
            refine a_app x2 w c7 rfl (fun H3 w1 x5 kp1 => ?_)
            replace w := w1
            exact hN6 (found1 ++ [x4]) _ _ _ ⟨w, gx2, rfl, x5⟩ hW
          · have hW := ifN hW hc2
            exact hN6 found1 _ _ _ ⟨w, gx2, rfl, x2⟩ hW
        · intro found2 σ' F2 H4 hI2 hW
          obtain ⟨w, gx3, rfl, x3⟩ := hI2
          have r1 := Rep.mono _ gx3 r1
          have gx1 := Ex.tr gx1 gx3
          obtain ⟨c8, hW⟩ := hW
          obtain ⟨left3, eleft2⟩ : ∃ left3 : Nat, left3 = left2 / (names1.length + 1) := ⟨_, rfl⟩
          replace hW := hW left3 eleft2
          refine a_asg (v := (.int ((left3 : Nat) : Int))) (v_eq (vn_div (val_var rfl) (vn_add (len_L r1 w.f (val_var rfl)) val_c) c8) (by rw [eleft2])) ?_
          exact hN5 (found2, left3) _ _ _ ⟨_, w, gx1, rfl, x3⟩ hW
      · intro s4 σ' F3 H5 hI3 hW
        obtain ⟨found1, left2⟩ := s4
        obtain ⟨o1, w, gx4, rfl, x2⟩ := hI3
        have r1 := Rep.mono _ gx4 r1
        refine hN4 _ _ ?_
        refine a_ret (v := (.ref p1)) (val_var rfl) ?_
        exact hQ _ hW _ _ _ w x2
    · have hW := ifN hW hc1
      refine hN1 _ _ ?_
      refine q_sq fun N7 hN7 => ?_
      refine a_asgE ?_
      refine e_op ?_
      refine e_call ?_
      refine a_val (v := (.int (cell_here1))) (val_var rfl) ?_
      refine a_val (v := (.int ((start1 : Nat) : Int))) (val_var rfl) ?_
      refine a_nil ?_
      refine ⟨F0, (cell_here1), (start1), _, rfl, w.f, hW, ?_⟩
      intro z1 hW F4 H6 s5
      replace r1 := Rep.mono _ s5.g r1
      replace w := w.tr s5
      refine e_val (v := (.int ((5 : Nat) : Int))) val_c ?_
      refine rv2 (z := (.int ((z1 % 5 : Nat) : Int))) (vn_mod val_c val_c (by decide)) ?_
      obtain ⟨many1, emany1⟩ : ∃ many1 : Nat, many1 = z1 % 5 := ⟨_, rfl⟩
      replace hW := hW many1 emany1
      refine nx_set (v := (.int ((many1 : Nat) : Int))) (by rw [emany1]) ?_
      refine hN7 _ _ ?_
      refine a_retE ?_
      refine c_RE ?_
      refine e_val (v := (.int ((many1 : Nat) : Int))) (val_var rfl) ?_
      obtain ⟨c9, hW⟩ := hW
      refine w_compR (e := pS) w c9 hW ?_ ?_
      · intro Qy Qn k2 F5 H7 R1 q1 hx2 hW hy1 hn1
        have r1 := Rep.mono _ q1.g r1
        have w := Wf.id q1.f
        refine ⟨rfl, ?_⟩
        refine e_tT ?_
        refine e_op ?_
        refine e_val (v := v1) (val_var rfl) ?_
        refine e_lst ?_
        refine a_nil ?_
        refine n_lstX (e := pS) (xs := []) (vs := []) (show All pS _ [] [] from trivial) (show 0 < 1000000 from by decide) w ?_
        intro p2 H8 hp2 s6 x6
        replace r1 := Rep.mono _ s6.g r1
        replace w := w.tr s6
        obtain ⟨F6, w2, g1, r2, fz1⟩ := x6.frzE w
        replace r1 := Rep.mono _ g1 r1
        replace w := w2
        obtain ⟨c10, hW⟩ := hW
        refine rv2T (b := decide (names1 ≠ ([] : List Str))) (c_neO (K := K) (e := (pL pS)) val_c val_c w.f r1 w.f r2 c10) ?_
        refine b_if (fun hc3 => ?_) (fun hc3 => ?_)
        · have hW := ifP hW hc3
          refine e_op ?_
          refine e_val (v := v1) (val_var rfl) ?_
          refine e_op ?_
          refine e_call ?_
          refine a_val (v := (.int (cell_here1))) (val_var rfl) ?_
          refine a_val (v := (.int (((start1 + 1) + k2 : Nat) : Int))) (vn_add (vn_add (val_var rfl) val_c) (val_var rfl)) ?_
          refine a_nil ?_
          refine ⟨F6, (cell_here1), ((start1 + 1) + k2), _, rfl, w.f, hW, ?_⟩
          intro z2 hW F7 H9 s7
          replace r1 := Rep.mono _ s7.g r1
          replace r2 := Rep.mono _ s7.g r2
          replace w := w.tr s7
          refine e_val (v := (.int ((names1.length : Nat) : Int))) (len_L r1 w.f (val_var rfl)) ?_
          obtain ⟨c11, hW⟩ := hW
          refine rv2 (z := (.int ((z2 % names1.length : Nat) : Int))) (vn_mod val_c val_c c11) ?_
          obtain ⟨x7, hx7_1, hW⟩ := hW
          obtain ⟨_, rfl, ix2⟩ := ix_L (K := K) r1 w.f hx7_1
          refine rv2 (z := (.str (x7))) (ix2 val_c val_c) ?_
          exact hy1 _ _ _ _ w rfl hW
        · have hW := ifN hW hc3
          exact hn1 _ _ w hW
      intro p3 ys1 F8 H10 hp3 s8 x8 hW
      replace r1 := Rep.mono _ s8.g r1
      replace w := w.tr s8
      exact hQ _ hW _ _ _ w x8
abbrev s_net : Stmt := topS 36
/-! _law_net -/
def W_net (script1 : List Int) (start1 : Nat) (most1 : Nat) (R : (List Str × List (Str × List Str) × List (Str × Str) × List Str) → Prop) : Prop := W_cell script1 start1 fun z1 => W_mix z1 1 fun z2 => W_mix z1 2 fun z3 => (0 < most1 + 1) ∧ W_mix z1 3 fun z4 => (0 < most1 + 1) ∧ ∃ x2, [z2 % 4, z3 % (most1 + 1), z4 % (most1 + 1)][0]? = some x2 ∧ (x2 < 1000000) ∧ compW (List.range x2) (fun k1 kk => W_name z1 k1 fun z5 => kk (some z5)) fun ys1 => ∃ x4, [z2 % 4, z3 % (most1 + 1), z4 % (most1 + 1)][1]? = some x4 ∧ (x4 < 1000000) ∧ compW (List.range x4) (fun k2 kk => W_name z1 (6 + k2) fun z6 => kk (some z6)) fun ys2 => (ys1.length + ys2.length < 1000000) ∧ ∃ x8, [z2 % 4, z3 % (most1 + 1), z4 % (most1 + 1)][2]? = some x8 ∧ (x8 < 1000000) ∧ forW (List.range x8) (([] : List (Str × List Str)), ys1 ++ ys2) (fun k3 (sums1, known1) nx1 bk1 => W_cell script1 ((start1 + 1) + k3) fun z7 => W_wires z7 10 known1 (decide ((modN z1 2) = 0)) fun z8 => W_name z1 (22 + k3) fun z9 => (sums1.length < 1000000) ∧ W_name z1 (22 + k3) fun z10 => (known1.length + [z10].length < 1000000) ∧ nx1 (sums1 ++ [(z9, z8)], known1 ++ [z10])) fun (sums1, known1) => W_mix z1 4 fun z11 => (0 < sums1.length + 1) ∧ ∀ at1 : Nat, at1 = z11 % (sums1.length + 1) → ((cutT sums1 (some at1) none).length + ((cutT sums1 none (some at1)).reverse).length < 1000000) ∧ forW (enumT ys2) ([] : List (Str × Str)) (fun it1 ends1 nx2 bk2 => W_mix z1 (50 + it1.1) fun z12 => (0 < known1.length) ∧ ∃ x21, known1[z12 % known1.length]? = some x21 ∧ (ends1.length < 1000000) ∧ nx2 (ends1 ++ [(it1.2, x21)])) fun ends1 => jn (fun kk => (okV (pL pS) known1 ∧ okV (pL pS) ([] : List Str)) ∧ if known1 ≠ ([] : List Str) then (W_mix z1 5 fun z13 => (z13 % 4 < 1000000) ∧ compW (List.range (z13 % 4)) (fun k5 kk => W_mix z1 (80 + k5) fun z14 => (0 < known1.length) ∧ ∃ x27, known1[z14 % known1.length]? = some x27 ∧ kk (some x27)) fun ys3 => kk ys3) else (kk ([] : List Str))) fun outs1 => R (ys1, (cutT sums1 (some at1) none) ++ ((cutT sums1 none (some at1)).reverse), ends1, outs1)
def sp_net (K : PySem.W.Frag) (cc : Cz) : Sp := fun vs H Q _ => ∃ (F : Hp) (v1 : V) (script1 : List Int) (start1 : Nat) (most1 : Nat) (R : (List Str × List (Str × List Str) × List (Str × Str) × List Str) → Prop), vs = [v1, (.int ((start1 : Nat) : Int)), (.int ((most1 : Nat) : Int))] ∧ Ex F H ∧ (pScr K).r F v1 script1 ∧ W_net script1 start1 most1 R ∧ ∀ z, R z → ∀ v F' H', Wf F H F' H' → (pT4 (pL pS) (pL (pT2 pS (pL pS))) (pL (pT2 pS pS)) (pL pS)).r F' v z → Q v H'
abbrev N_net : List Str := ["_law_script", "_law_start", "_law_most", "_law_cell_here", "_law_sizes", "_law_ins", "_law_k", "_law_stores", "_law_known", "_law_sums", "_law_wires_here", "_law_at", "_law_ends", "_law_name_here", "_law_outs"]
theorem sc_net : FnScope N_net ["_law_script", "_law_start", "_law_most"] (defScope s_net) := ⟨rfl, rfl, rfl, by decide +kernel, rfl, by decide +kernel, by decide +kernel⟩
theorem ok_net {P : Program} {w0 : World} {K : PySem.W.Frag} {mg : Str → Option Value} {base : Heap} {f : Addr} {fd : FuncData} {cc : Cz} (T : Tz K mg cc) (FU : Fun K "_law_net" "_law_net" s_net f fd) (hm : mg "_law_net" = some (.ref f)) (hb : Binds K fd ["_law_script", "_law_start", "_law_most"] []) (c_cell : Fn P w0 K mg base CX0 1 "_law_cell" ["_law_script", "_law_k"] (sp_cell K cc)) (c_mix : Fn P w0 K mg base CX0 1 "_law_mix" ["_law_cell_here", "_law_k"] (sp_mix K cc)) (c_name : Fn P w0 K mg base CX0 2 "_law_name" ["_law_cell_here", "_law_k"] (sp_name K cc)) (c_wires : Fn P w0 K mg base CX0 2 "_law_wires" ["_law_cell_here", "_law_start", "_law_names", "_law_digits"] (sp_wires K cc)) (n_enumerate : mg "enumerate" = none) (n_len : mg "len" = none) (n_list : mg "list" = none) (n_range : mg "range" = none) (n_reversed : mg "reversed" = none) : Fn P w0 K mg base CX0 3 "_law_net" ["_law_script", "_law_start", "_law_most"] (sp_net K cc) := by
  refine ⟨f, fd, FU.ok sc_net (fun vs H Q E h => ?_) (fun cdv A outer s H0 vs Q E hr h => ?_), hm, FU.kp, hb⟩
  · obtain ⟨_, _, _, _, _, _, rfl, _⟩ := h; rfl
  · obtain ⟨F0, v1, script1, start1, most1, R, rfl, wf, r1, hW, hQ⟩ := h
    have nd := sc_net.nd
    refine ⟨(tSeq (tAsg (tCall (sp_cell K cc) [] E0 (tCons (tVar 0) (tCons (tVar 1) tNil))) (gName 3)) (tSeq (tAsg (tLst (tCons (tOp kMod (tCall (sp_mix K cc) [] E0 (tCons (tVar 3) (tCons (tC (.int 1)) tNil))) (tC (.int 4))) (tCons (tOp kMod (tCall (sp_mix K cc) [] E0 (tCons (tVar 3) (tCons (tC (.int 2)) tNil))) (tOp kAdd (tVar 2) (tC (.int 1)))) (tCons (tOp kMod (tCall (sp_mix K cc) [] E0 (tCons (tVar 3) (tCons (tC (.int 3)) tNil))) (tOp kAdd (tVar 2) (tC (.int 1)))) tNil)))) (gName 4)) (tSeq (tAsg (tLc (iRng1 (tCons (tOp (L2.rIxL K) (tVar 4) (tC (.int 0))) tNil)) (gName 6) tYes (tCall (sp_name K cc) [] E0 (tCons (tVar 3) (tCons (tVar 6) tNil))) [6]) (gName 5)) (tSeq (tAsg (tLc (iRng1 (tCons (tOp (L2.rIxL K) (tVar 4) (tC (.int 1))) tNil)) (gName 6) tYes (tCall (sp_name K cc) [] E0 (tCons (tVar 3) (tCons (tOp kAdd (tC (.int 6)) (tVar 6)) tNil))) [6]) (gName 7)) (tSeq (tAsg (tOp L2.rCat (tVar 5) (tVar 7)) (gName 8)) (tSeq (tAsg (tLst tNil) (gName 9)) (tSeq (tFor (iRng1 (tCons (tOp (L2.rIxL K) (tVar 4) (tC (.int 2))) tNil)) (gName 6) (tSeq (tAsg (tCall (sp_wires K cc) [] E0 (tCons (tCall (sp_cell K cc) [] E0 (tCons (tVar 0) (tCons (tOp kAdd (tOp kAdd (tVar 1) (tC (.int 1))) (tVar 6)) tNil))) (tCons (tC (.int 10)) (tCons (tVar 8) (tCons (tOp L2.rEq (tOp kMod (tVar 3) (tC (.int 2))) (tC (.int 0))) tNil))))) (gName 10)) (tSeq (tDrop (tBM K "list" rAppend (tVar 9) (tCons (tTup (tCons (tCall (sp_name K cc) [] E0 (tCons (tVar 3) (tCons (tOp kAdd (tC (.int 22)) (tVar 6)) tNil))) (tCons (tVar 10) tNil))) tNil))) (tAsg (tOp L2.rCat (tVar 8) (tLst (tCons (tCall (sp_name K cc) [] E0 (tCons (tVar 3) (tCons (tOp kAdd (tC (.int 22)) (tVar 6)) tNil))) tNil))) (gName 8))))) (tSeq (tAsg (tOp kMod (tCall (sp_mix K cc) [] E0 (tCons (tVar 3) (tCons (tC (.int 4)) tNil))) (tOp kAdd (tCB (Wk.rLen K) (tCons (tVar 9) tNil)) (tC (.int 1)))) (gName 11)) (tSeq (tAsg (tOp L2.rCat (tSl (rSlL K) (tVar 9) (tPart (tVar 11)) tNoPart) (tLstRev K (tSl (rSlL K) (tVar 9) tNoPart (tPart (tVar 11))))) (gName 9)) (tSeq (tAsg (tLst tNil) (gName 12)) (tSeq (tFor (iEnum K (tCons (tVar 7) tNil)) (gTup K 2 (gCons (gName 6) (gCons (gName 13) gNil))) (tDrop (tBM K "list" rAppend (tVar 12) (tCons (tTup (tCons (tVar 13) (tCons (tOp (L2.rIxL K) (tVar 8) (tOp kMod (tCall (sp_mix K cc) [] E0 (tCons (tVar 3) (tCons (tOp kAdd (tC (.int 50)) (tVar 6)) tNil))) (tCB (Wk.rLen K) (tCons (tVar 8) tNil)))) tNil))) tNil)))) (tSeq (tAsg (tLst tNil) (gName 14)) (tSeq (tIfS (tTest (tOp (L2.rNeD K) (tVar 8) (tLst tNil))) (tAsg (tLc (iRng1 (tCons (tOp kMod (tCall (sp_mix K cc) [] E0 (tCons (tVar 3) (tCons (tC (.int 5)) tNil))) (tC (.int 4))) tNil)) (gName 6) tYes (tOp (L2.rIxL K) (tVar 8) (tOp kMod (tCall (sp_mix K cc) [] E0 (tCons (tVar 3) (tCons (tOp kAdd (tC (.int 80)) (tVar 6)) tNil))) (tCB (Wk.rLen K) (tCons (tVar 8) tNil)))) [6]) (gName 14)) tNext) (tRet (tTup (tCons (tVar 5) (tCons (tVar 9) (tCons (tVar 12) (tCons (tVar 14) tNil))))))))))))))))))), (pss_cons (ps_set (i := 3) nd rfl (Or.inr rfl) (pe_fn c_cell (hr.mono (by decide)) rfl (pa_cons (pv 0) (pa_cons (pv 1) pa_nil)))) (pss_cons (ps_set (i := 4) nd rfl (Or.inl rfl) (pe_lst (pa_cons (pe_op op_mod (pe_fn c_mix (hr.mono (by decide)) rfl (pa_cons (pv 3) (pa_cons pe_int pa_nil))) pe_int) (pa_cons (pe_op op_mod (pe_fn c_mix (hr.mono (by decide)) rfl (pa_cons (pv 3) (pa_cons pe_int pa_nil))) (pe_op op_add (pv 2) pe_int)) (pa_cons (pe_op op_mod (pe_fn c_mix (hr.mono (by decide)) rfl (pa_cons (pv 3) (pa_cons pe_int pa_nil))) (pe_op op_add (pv 2) pe_int)) pa_nil))))) (pss_cons (ps_setLc (i := 5) (own := [("_law_k", 6)]) (wi := (iRng1 (tCons (tOp (L2.rIxL K) (tVar 4) (tC (.int 0))) tNil))) (g := (gName 6)) (tt := tYes) (te := (tCall (sp_name K cc) [] E0 (tCons (tVar 3) (tCons (tVar 6) tNil)))) rfl nd rfl rfl (sw_true rfl rfl rfl (by decide +kernel)) (pi_range1 rfl n_range (pa_cons (pe_ix ix_list (pv 4) pe_int (fun _ _ => rfl)) pa_nil)) (blkOk_by (N := N_net) (sc := defScope s_net) (by decide +kernel)) (fun _ _ _ _ _ => (pg_name (i := 6) nd rfl (Or.inl rfl))) (fun _ _ _ _ _ => pts_nil) (fun _ _ _ _ _ => (pe_fn c_name (hr.mono (by decide)) rfl (pa_cons (pv 3) (pa_cons (pv 6) pa_nil))))) (pss_cons (ps_setLc (i := 7) (own := [("_law_k", 6)]) (wi := (iRng1 (tCons (tOp (L2.rIxL K) (tVar 4) (tC (.int 1))) tNil))) (g := (gName 6)) (tt := tYes) (te := (tCall (sp_name K cc) [] E0 (tCons (tVar 3) (tCons (tOp kAdd (tC (.int 6)) (tVar 6)) tNil)))) rfl nd rfl rfl (sw_true rfl rfl rfl (by decide +kernel)) (pi_range1 rfl n_range (pa_cons (pe_ix ix_list (pv 4) pe_int (fun _ _ => rfl)) pa_nil)) (blkOk_by (N := N_net) (sc := defScope s_net) (by decide +kernel)) (fun _ _ _ _ _ => (pg_name (i := 6) nd rfl (Or.inl rfl))) (fun _ _ _ _ _ => pts_nil) (fun _ _ _ _ _ => (pe_fn c_name (hr.mono (by decide)) rfl (pa_cons (pv 3) (pa_cons (pe_op op_add pe_int (pv 6)) pa_nil))))) (pss_cons (ps_set (i := 8) nd rfl (Or.inr rfl) (pe_op op_cat (pv 5) (pv 7))) (pss_cons (ps_set (i := 9) nd rfl (Or.inl rfl) (pe_lst pa_nil)) (pss_cons (ps_for PassesOwn.never rfl (pi_range1 rfl n_range (pa_cons (pe_ix ix_list (pv 4) pe_int (fun _ _ => rfl)) pa_nil)) (pg_name (i := 6) nd rfl (Or.inl rfl)) (pss_cons (ps_set (i := 10) nd rfl (Or.inl rfl) (pe_fn c_wires (hr.mono (by decide)) rfl (pa_cons (pe_fn c_cell (hr.mono (by decide)) rfl (pa_cons (pv 0) (pa_cons (pe_op op_add (pe_op op_add (pv 1) pe_int) (pv 6)) pa_nil))) (pa_cons pe_int (pa_cons (pv 8) (pa_cons (pe_cmpR op_eq (pe_op op_mod (pv 3) pe_int) pe_int (nomark _)) pa_nil)))))) (pss_cons (ps_expr (pe_bm PySem.F.plainAttrs_list PySem.F.slot_list_append PySem.F.type_list_append mt_append (pv 9) (pa_cons (pe_tup (pa_cons (pe_fn c_name (hr.mono (by decide)) rfl (pa_cons (pv 3) (pa_cons (pe_op op_add pe_int (pv 6)) pa_nil))) (pa_cons (pv 10) pa_nil))) pa_nil))) (pss_one (ps_set (i := 8) nd rfl (Or.inr rfl) (pe_op op_cat (pv 8) (pe_lst (pa_cons (pe_fn c_name (hr.mono (by decide)) rfl (pa_cons (pv 3) (pa_cons (pe_op op_add pe_int (pv 6)) pa_nil))) pa_nil)))))))) (pss_cons (ps_set (i := 11) nd rfl (Or.inl rfl) (pe_op op_mod (pe_fn c_mix (hr.mono (by decide)) rfl (pa_cons (pv 3) (pa_cons pe_int pa_nil))) (pe_op op_add (pe_callB call_len_seq (by rfl) n_len PySem.boot_len (pa_cons (pv 9) pa_nil)) pe_int))) (pss_cons (ps_set (i := 9) nd rfl (Or.inl rfl) (pe_op op_cat (pe_slice sl_list (pv 9) (po_some (pv 11)) po_none) (pe_lstRev rfl (by rfl) n_list (by rfl) n_reversed (pe_slice sl_list (pv 9) po_none (po_some (pv 11)))))) (pss_cons (ps_set (i := 12) nd rfl (Or.inl rfl) (pe_lst pa_nil)) (pss_cons (ps_for PassesOwn.never rfl (pi_enum (by rfl) n_enumerate (pa_cons (pv 7) pa_nil)) (pg_tup rfl (pgs_cons (pg_name (i := 6) nd rfl (Or.inl rfl)) (pgs_cons (pg_name (i := 13) nd rfl (Or.inl rfl)) pgs_nil)) (by rfl)) (pss_one (ps_expr (pe_bm PySem.F.plainAttrs_list PySem.F.slot_list_append PySem.F.type_list_append mt_append (pv 12) (pa_cons (pe_tup (pa_cons (pv 13) (pa_cons (pe_ix ix_list (pv 8) (pe_op op_mod (pe_fn c_mix (hr.mono (by decide)) rfl (pa_cons (pv 3) (pa_cons (pe_op op_add pe_int (pv 6)) pa_nil))) (pe_callB call_len_seq (by rfl) n_len PySem.boot_len (pa_cons (pv 8) pa_nil))) (fun _ _ => rfl)) pa_nil))) pa_nil))))) (pss_cons (ps_set (i := 14) nd rfl (Or.inl rfl) (pe_lst pa_nil)) (pss_cons (ps_if (pt_cmpR (op_neD hr.units) (pv 8) (pe_lst pa_nil) (nomark _)) (pss_one (ps_setLc (i := 14) (own := [("_law_k", 6)]) (wi := (iRng1 (tCons (tOp kMod (tCall (sp_mix K cc) [] E0 (tCons (tVar 3) (tCons (tC (.int 5)) tNil))) (tC (.int 4))) tNil))) (g := (gName 6)) (tt := tYes) (te := (tOp (L2.rIxL K) (tVar 8) (tOp kMod (tCall (sp_mix K cc) [] E0 (tCons (tVar 3) (tCons (tOp kAdd (tC (.int 80)) (tVar 6)) tNil))) (tCB (Wk.rLen K) (tCons (tVar 8) tNil))))) rfl nd rfl rfl (sw_true rfl rfl rfl (by decide +kernel)) (pi_range1 rfl n_range (pa_cons (pe_op op_mod (pe_fn c_mix (hr.mono (by decide)) rfl (pa_cons (pv 3) (pa_cons pe_int pa_nil))) pe_int) pa_nil)) (blkOk_by (N := N_net) (sc := defScope s_net) (by decide +kernel)) (fun _ _ _ _ _ => (pg_name (i := 6) nd rfl (Or.inl rfl))) (fun _ _ _ _ _ => pts_nil) (fun _ _ _ _ _ => (pe_ix ix_list (pv 8) (pe_op op_mod (pe_fn c_mix (hr.mono (by decide)) rfl (pa_cons (pv 3) (pa_cons (pe_op op_add pe_int (pv 6)) pa_nil))) (pe_callB call_len_seq (by rfl) n_len PySem.boot_len (pa_cons (pv 8) pa_nil))) (fun _ _ => rfl))))) pss_nil) (pss_one (ps_ret (pe_tup (pa_cons (pv 5) (pa_cons (pv 9) (pa_cons (pv 12) (pa_cons (pv 14) pa_nil)))))))))))))))))))), ?_⟩
    have w := Wf.id wf
    refine q_sq fun N1 hN1 => ?_
    refine a_asgE ?_
    refine e_call ?_
    refine a_val (v := v1) (val_var rfl) ?_
    refine a_val (v := (.int ((start1 : Nat) : Int))) (val_var rfl) ?_
    refine a_nil ?_
    refine ⟨F0, (v1), (script1), (start1), _, rfl, w.f, r1, hW, ?_⟩
    intro z1 hW F1 H1 s1
    replace r1 := Rep.mono _ s1.g r1
    replace w := w.tr s1
    refine hN1 _ _ ?_
    refine q_sq fun N2 hN2 => ?_
    refine a_asgE ?_
    refine e_lst ?_
    refine a_cons ?_
    refine e_op ?_
    refine e_call ?_
    refine a_val (v := (.int (z1))) (val_var rfl) ?_
    refine a_val (v := (.int ((1 : Nat) : Int))) val_c ?_
    refine a_nil ?_
    refine ⟨F1, (z1), (1), _, rfl, w.f, hW, ?_⟩
    intro z2 hW F2 H2 s2
    replace r1 := Rep.mono _ s2.g r1
    replace w := w.tr s2
    refine e_val (v := (.int ((4 : Nat) : Int))) val_c ?_
    refine rv2 (z := (.int ((z2 % 4 : Nat) : Int))) (vn_mod val_c val_c (by decide)) ?_
    refine a_cons ?_
    refine e_op ?_
    refine e_call ?_
    refine a_val (v := (.int (z1))) (val_var rfl) ?_
    refine a_val (v := (.int ((2 : Nat) : Int))) val_c ?_
    refine a_nil ?_
    refine ⟨F2, (z1), (2), _, rfl, w.f, hW, ?_⟩
    intro z3 hW F3 H3 s3
    replace r1 := Rep.mono _ s3.g r1
    replace w := w.tr s3
    refine e_val (v := (.int ((most1 + 1 : Nat) : Int))) (vn_add (val_var rfl) val_c) ?_
    obtain ⟨c1, hW⟩ := hW
    refine rv2 (z := (.int ((z3 % (most1 + 1) : Nat) : Int))) (vn_mod val_c val_c c1) ?_
    refine a_cons ?_
    refine e_op ?_
    refine e_call ?_
    refine a_val (v := (.int (z1))) (val_var rfl) ?_
    refine a_val (v := (.int ((3 : Nat) : Int))) val_c ?_
    refine a_nil ?_
    refine ⟨F3, (z1), (3), _, rfl, w.f, hW, ?_⟩
    intro z4 hW F4 H4 s4
    replace r1 := Rep.mono _ s4.g r1
    replace w := w.tr s4
    refine e_val (v := (.int ((most1 + 1 : Nat) : Int))) (vn_add (val_var rfl) val_c) ?_
    obtain ⟨c2, hW⟩ := hW
    refine rv2 (z := (.int ((z4 % (most1 + 1) : Nat) : Int))) (vn_mod val_c val_c c2) ?_
    refine a_nil ?_
    refine n_lstX (e := pN) (xs := [z2 % 4, z3 % (most1 + 1), z4 % (most1 + 1)]) (vs := [(.int ((z2 % 4 : Nat) : Int)), (.int ((z3 % (most1 + 1) : Nat) : Int)), (.int ((z4 % (most1 + 1) : Nat) : Int))]) (show All pN _ [(.int ((z2 % 4 : Nat) : Int)), (.int ((z3 % (most1 + 1) : Nat) : Int)), (.int ((z4 % (most1 + 1) : Nat) : Int))] [z2 % 4, z3 % (most1 + 1), z4 % (most1 + 1)] from ⟨rfl, ⟨rfl, ⟨rfl, trivial⟩⟩⟩) (show 3 < 1000000 from by decide) w ?_
    intro p1 H5 hp1 s5 x1
    replace r1 := Rep.mono _ s5.g r1
    replace w := w.tr s5
    obtain ⟨F5, w1, g1, r2, fz1⟩ := x1.frzE w
    replace r1 := Rep.mono _ g1 r1
    replace w := w1
    refine hN2 _ _ ?_
    refine q_sq fun N3 hN3 => ?_
    refine a_asgE ?_
    refine c_RE ?_
    obtain ⟨x2, hx2_1, hW⟩ := hW
    obtain ⟨_, rfl, ix1⟩ := ix_L (K := K) r2 w.f hx2_1
    refine e_val (v := (.int ((x2 : Nat) : Int))) (ix1 (val_var rfl) val_c) ?_
    obtain ⟨c3, hW⟩ := hW
    refine w_compR (e := pS) w c3 hW ?_ ?_
    · intro Qy Qn k1 F6 H6 R1 q1 hx1 hW hy1 hn1
      have r1 := Rep.mono _ q1.g r1
      have r2 := Rep.mono _ q1.g r2
      have w := Wf.id q1.f
      refine ⟨rfl, ?_⟩
      refine c_yes ?_
      refine e_call ?_
      refine a_val (v := (.int (z1))) (val_var rfl) ?_
      refine a_val (v := (.int ((k1 : Nat) : Int))) (val_var rfl) ?_
      refine a_nil ?_
      refine ⟨F6, (z1), (k1), _, rfl, w.f, hW, ?_⟩
      intro z5 hW F7 H7 s6
      replace r1 := Rep.mono _ s6.g r1
      replace r2 := Rep.mono _ s6.g r2
      replace w := w.tr s6
      exact hy1 _ _ _ _ w rfl hW
    intro p2 ys1 F8 H8 hp2 s7 x3 hW
    replace r1 := Rep.mono _ s7.g r1
    replace r2 := Rep.mono _ s7.g r2
    replace w := w.tr s7
    obtain ⟨F9, w2, g2, r3, fz2⟩ := x3.frzE w
    replace r1 := Rep.mono _ g2 r1
    replace r2 := Rep.mono _ g2 r2
    replace w := w2
    refine hN3 _ _ ?_
    refine q_sq fun N4 hN4 => ?_
    refine a_asgE ?_
    refine c_RE ?_
    obtain ⟨x4, hx4_1, hW⟩ := hW
    obtain ⟨_, rfl, ix2⟩ := ix_L (K := K) r2 w.f hx4_1
    refine e_val (v := (.int ((x4 : Nat) : Int))) (ix2 (val_var rfl) val_c) ?_
    obtain ⟨c4, hW⟩ := hW
    refine w_compR (e := pS) w c4 hW ?_ ?_
    · intro Qy Qn k2 F10 H9 R2 q2 hx2 hW hy2 hn2
      have r1 := Rep.mono _ q2.g r1
      have r2 := Rep.mono _ q2.g r2
      have r3 := Rep.mono _ q2.g r3
      have w := Wf.id q2.f
      refine ⟨rfl, ?_⟩
      refine c_yes ?_
      refine e_call ?_
      refine a_val (v := (.int (z1))) (val_var rfl) ?_
      refine a_val (v := (.int ((6 + k2 : Nat) : Int))) (vn_add val_c (val_var rfl)) ?_
      refine a_nil ?_
      refine ⟨F10, (z1), (6 + k2), _, rfl, w.f, hW, ?_⟩
      intro z6 hW F11 H10 s8
      replace r1 := Rep.mono _ s8.g r1
      replace r2 := Rep.mono _ s8.g r2
      replace r3 := Rep.mono _ s8.g r3
      replace w := w.tr s8
      exact hy2 _ _ _ _ w rfl hW
    intro p3 ys2 F12 H11 hp3 s9 x5 hW
    replace r1 := Rep.mono _ s9.g r1
    replace r2 := Rep.mono _ s9.g r2
    replace r3 := Rep.mono _ s9.g r3
    replace w := w.tr s9
    obtain ⟨F13, w3, g3, r4, fz3⟩ := x5.frzE w
    replace r1 := Rep.mono _ g3 r1
    replace r2 := Rep.mono _ g3 r2
    replace r3 := Rep.mono _ g3 r3
    replace w := w3
    refine hN4 _ _ ?_
    refine q_sq fun N5 hN5 => ?_
    refine a_asgE ?_
    refine e_op ?_
    refine e_val (v := (.ref p2)) (val_var rfl) ?_
    refine e_val (v := (.ref p3)) (val_var rfl) ?_
    obtain ⟨c5, hW⟩ := hW
    refine n_cat r3 r4 w c5 ?_
    intro p4 H12 hp4 s10 x6
    replace r1 := Rep.mono _ s10.g r1
    replace r2 := Rep.mono _ s10.g r2
    replace r3 := Rep.mono _ s10.g r3
    replace r4 := Rep.mono _ s10.g r4
    replace w := w.tr s10
    obtain ⟨F14, w4, g4, r5, fz4⟩ := x6.frzE w
    replace r1 := Rep.mono _ g4 r1
    replace r2 := Rep.mono _ g4 r2
    replace r3 := Rep.mono _ g4 r3
    replace r4 := Rep.mono _ g4 r4
    replace w := w4
    refine hN5 _ _ ?_
    refine q_sq fun N6 hN6 => ?_
    refine a_asgE ?_
    refine e_lst ?_
    refine a_nil ?_
    refine n_lstX (e := (pT2 pS (pL pS))) (xs := []) (vs := []) (show All (pT2 pS (pL pS)) _ [] [] from trivial) (show 0 < 1000000 from by decide) w ?_
    intro p5 H13 hp5 s11 x7
    replace r1 := Rep.mono _ s11.g r1
    replace r2 := Rep.mono _ s11.g r2
    replace r3 := Rep.mono _ s11.g r3
    replace r4 := Rep.mono _ s11.g r4
    replace r5 := Rep.mono _ s11.g r5
    replace w := w.tr s11
    refine hN6 _ _ ?_
    refine q_sq fun N7 hN7 => ?_
    refine f_RE ?_
    obtain ⟨x8, hx8_1, hW⟩ := hW
    obtain ⟨_, rfl, ix3⟩ := ix_L (K := K) r2 w.f hx8_1
    refine e_val (v := (.int ((x8 : Nat) : Int))) (ix3 (val_var rfl) val_c) ?_
    obtain ⟨c6, hW⟩ := hW
    refine w_forR (S := (List (Str × List Str)) × List Str) (fun s σ' F' H' => match s with | (sums1, known1) => ∃ (o1 : Option V) (v2 : V) (p6 : Addr) (o2 : Option V), Wf F0 H0 F' H' ∧ Ex F14 F' ∧ σ' = [some v1, some (.int ((start1 : Nat) : Int)), some (.int ((most1 : Nat) : Int)), some (.int (z1)), some (.ref p1), some (.ref p2), o1, some (.ref p3), some v2, some (.ref p6), o2, none, none, none, none] ∧ (pL pS).r F' v2 known1 ∧ XL (pT2 pS (pL pS)) H0 F' H' p6 sums1) c6 hW ⟨_, _, _, _, w, Ex.rfl', rfl, r5, x7⟩ ?_ ?_
    · intro N8 Bk1 k3 s12 σ' F15 H14 nx1 bk1 hI1 hx3 hW hN8 hB1
      obtain ⟨sums1, known1⟩ := s12
      obtain ⟨o1, v2, p6, o2, w, gx1, rfl, r6, x9⟩ := hI1
      have r1 := Rep.mono _ gx1 r1
      have r2 := Rep.mono _ gx1 r2
      have r3 := Rep.mono _ gx1 r3
      have r4 := Rep.mono _ gx1 r4
      refine g_name ?_
      refine q_sq fun N9 hN9 => ?_
      refine a_asgE ?_
      refine e_call ?_
      refine a_cons ?_
      refine e_call ?_
      refine a_val (v := v1) (val_var rfl) ?_
      refine a_val (v := (.int (((start1 + 1) + k3 : Nat) : Int))) (vn_add (vn_add (val_var rfl) val_c) (val_var rfl)) ?_
      refine a_nil ?_
      refine ⟨F15, (v1), (script1), ((start1 + 1) + k3), _, rfl, w.f, r1, hW, ?_⟩
      intro z7 hW F16 H15 s13
      replace r1 := Rep.mono _ s13.g r1
      replace r2 := Rep.mono _ s13.g r2
      replace r3 := Rep.mono _ s13.g r3
      replace r4 := Rep.mono _ s13.g r4
      replace r6 := Rep.mono _ s13.g r6
      replace x9 := x9.step s13
      replace w := w.tr s13
      replace gx1 := Ex.tr gx1 s13.g
      refine a_val (v := (.int ((10 : Nat) : Int))) val_c ?_
      refine a_val (v := v2) (val_var rfl) ?_
      refine a_val (v := (.bl (decide ((modN z1 2) = 0)))) (vb_dec (c_eqI (vm_mod (val_var rfl) val_c (by decide)) val_c) n_eq) ?_
      refine a_nil ?_
      refine ⟨F16, (z7), (10), (v2), (known1), (decide ((modN z1 2) = 0)), _, rfl, w.f, r6, hW, ?_⟩
      intro z8 hW p7 F17 H16 s14 x10
      have ne1 := x9.ne x10.zero
      replace x10 := x10.base w
      replace r1 := Rep.mono _ s14.g r1
      replace r2 := Rep.mono _ s14.g r2
      replace r3 := Rep.mono _ s14.g r3
      replace r4 := Rep.mono _ s14.g r4
      replace r6 := Rep.mono _ s14.g r6
      replace x9 := x9.step s14
      replace w := w.tr s14
      replace gx1 := Ex.tr gx1 s14.g
      obtain ⟨F18, w5, g5, r7, fz5⟩ := x10.frzE w
      replace r1 := Rep.mono _ g5 r1
      replace r2 := Rep.mono _ g5 r2
      replace r3 := Rep.mono _ g5 r3
      replace r4 := Rep.mono _ g5 r4
      replace r6 := Rep.mono _ g5 r6
      replace x9 := x9.frzO fz5 ne1 g5
      replace w := w5
      replace gx1 := Ex.tr gx1 g5
      refine hN9 _ _ ?_
      refine q_sq fun N10 hN10 => ?_
      refine a_dropE ?_
      refine m_list x9 (val_var rfl) ?_
      refine a_cons ?_
      refine e_tup ?_
      refine a_cons ?_
      refine e_call ?_
      refine a_val (v := (.int (z1))) (val_var rfl) ?_
      refine a_val (v := (.int ((22 + k3 : Nat) : Int))) (vn_add val_c (val_var rfl)) ?_
      refine a_nil ?_
      refine ⟨F18, (z1), (22 + k3), _, rfl, w.f, hW, ?_⟩
      intro z9 hW F19 H17 s15
      replace r1 := Rep.mono _ s15.g r1
      replace r2 := Rep.mono _ s15.g r2
      replace r3 := Rep.mono _ s15.g r3
      replace r4 := Rep.mono _ s15.g r4
      replace r6 := Rep.mono _ s15.g r6
      replace x9 := x9.step s15
      replace r7 := Rep.mono _ s15.g r7
      replace w := w.tr s15
      replace gx1 := Ex.tr gx1 s15.g
      refine a_val (v := (.ref p7)) (val_var rfl) ?_
      refine a_nil ?_
      refine n_tup2 (e := pS) (f := (pL pS)) (x := z9) (y := z8) rfl r7 w ?_
      intro p8 F20 H18 s16 r8
      replace r1 := Rep.mono _ s16.g r1
      replace r2 := Rep.mono _ s16.g r2
      replace r3 := Rep.mono _ s16.g r3
      replace r4 := Rep.mono _ s16.g r4
      replace r6 := Rep.mono _ s16.g r6
      replace x9 := x9.step s16
      replace r7 := Rep.mono _ s16.g r7
      replace w := w.tr s16
      replace gx1 := Ex.tr gx1 s16.g
      refine a_nil ?_
      obtain ⟨c7, hW⟩ := hW
      refine a_app x9 w c7 r8 (fun H19 w6 x11 kp1 => ?_)
      replace w := w6
      refine hN10 _ _ ?_
      refine a_asgE ?_
      refine e_op ?_
      refine e_val (v := v2) (val_var rfl) ?_
      refine e_lst ?_
      refine a_cons ?_
      refine e_call ?_
      refine a_val (v := (.int (z1))) (val_var rfl) ?_
      refine a_val (v := (.int ((22 + k3 : Nat) : Int))) (vn_add val_c (val_var rfl)) ?_
      refine a_nil ?_
      refine ⟨F20, (z1), (22 + k3), _, rfl, w.f, hW, ?_⟩
      intro z10 hW F21 H20 s17
      replace r1 := Rep.mono _ s17.g r1
      replace r2 := Rep.mono _ s17.g r2
      replace r3 := Rep.mono _ s17.g r3
      replace r4 := Rep.mono _ s17.g r4
      replace r6 := Rep.mono _ s17.g r6
      replace x11 := x11.step s17
      replace r7 := Rep.mono _ s17.g r7
      replace w := w.tr s17
      replace gx1 := Ex.tr gx1 s17.g
      refine a_nil ?_
      refine n_lstX (e := pS) (xs := [z10]) (vs := [(.str (z10))]) (show All pS _ [(.str (z10))] [z10] from ⟨rfl, trivial⟩) (show 1 < 1000000 from by decide) w ?_
      intro p9 H21 hp6 s18 x12
      have ne2 := x11.ne hp6
      replace r1 := Rep.mono _ s18.g r1
      replace r2 := Rep.mono _ s18.g r2
      replace r3 := Rep.mono _ s18.g r3
      replace r4 := Rep.mono _ s18.g r4
      replace r6 := Rep.mono _ s18.g r6
      replace x11 := x11.step s18
      replace r7 := Rep.mono _ s18.g r7
      replace w := w.tr s18
      replace gx1 := Ex.tr gx1 s18.g
      obtain ⟨F22, w7, g6, r9, fz6⟩ := x12.frzE w
      replace r1 := Rep.mono _ g6 r1
      replace r2 := Rep.mono _ g6 r2
      replace r3 := Rep.mono _ g6 r3
      replace r4 := Rep.mono _ g6 r4
      replace r6 := Rep.mono _ g6 r6
      replace x11 := x11.frzO fz6 ne2 g6
      replace r7 := Rep.mono _ g6 r7
      replace w := w7
      replace gx1 := Ex.tr gx1 g6
      obtain ⟨c8, hW⟩ := hW
      refine n_cat r6 r9 w c8 ?_
      intro p10 H22 hp7 s19 x13
      have ne3 := x11.ne hp7
      replace r1 := Rep.mono _ s19.g r1
      replace r2 := Rep.mono _ s19.g r2
      replace r3 := Rep.mono _ s19.g r3
      replace r4 := Rep.mono _ s19.g r4
      replace r6 := Rep.mono _ s19.g r6
      replace x11 := x11.step s19
      replace r7 := Rep.mono _ s19.g r7
      replace r9 := Rep.mono _ s19.g r9
      replace w := w.tr s19
      replace gx1 := Ex.tr gx1 s19.g
      obtain ⟨F23, w8, g7, r10, fz7⟩ := x13.frzE w
      replace r1 := Rep.mono _ g7 r1
      replace r2 := Rep.mono _ g7 r2
      replace r3 := Rep.mono _ g7 r3
      replace r4 := Rep.mono _ g7 r4
      replace r6 := Rep.mono _ g7 r6
      replace x11 := x11.frzO fz7 ne3 g7
      replace r7 := Rep.mono _ g7 r7
      replace r9 := Rep.mono _ g7 r9
      replace w := w8
      replace gx1 := Ex.tr gx1 g7
      exact hN8 (sums1 ++ [(z9, z8)], known1 ++ [z10]) _ _ _ ⟨_, _, _, _, w, gx1, rfl, r10, x11⟩ hW
    · intro s20 σ' F24 H23 hI2 hW
      obtain ⟨sums1, known1⟩ := s20
      obtain ⟨o1, v2, p6, o2, w, gx2, rfl, r6, x9⟩ := hI2
      have r1 := Rep.mono _ gx2 r1
      have r2 := Rep.mono _ gx2 r2
      have r3 := Rep.mono _ gx2 r3
      have r4 := Rep.mono _ gx2 r4
      refine hN7 _ _ ?_
      refine q_sq fun N11 hN11 => ?_
      refine a_asgE ?_
      refine e_op ?_
      refine e_call ?_
      refine a_val (v := (.int (z1))) (val_var rfl) ?_
      refine a_val (v := (.int ((4 : Nat) : Int))) val_c ?_
      refine a_nil ?_
      refine ⟨F24, (z1), (4), _, rfl, w.f, hW, ?_⟩
      intro z11 hW F25 H24 s21
      replace r1 := Rep.mono _ s21.g r1
      replace r2 := Rep.mono _ s21.g r2
      replace r3 := Rep.mono _ s21.g r3
      replace r4 := Rep.mono _ s21.g r4
      replace r6 := Rep.mono _ s21.g r6
      replace x9 := x9.step s21
      replace w := w.tr s21
      replace gx2 := Ex.tr gx2 s21.g
      refine e_val (v := (.int ((sums1.length + 1 : Nat) : Int))) (vn_add (len_X x9 (val_var rfl)) val_c) ?_
      obtain ⟨c9, hW⟩ := hW
      refine rv2 (z := (.int ((z11 % (sums1.length + 1) : Nat) : Int))) (vn_mod val_c val_c c9) ?_
      obtain ⟨at1, eat1⟩ : ∃ at1 : Nat, at1 = z11 % (sums1.length + 1) := ⟨_, rfl⟩
      replace hW := hW at1 eat1
      refine nx_set (v := (.int ((at1 : Nat) : Int))) (by rw [eat1]) ?_
      refine hN11 _ _ ?_
      refine q_sq fun N12 hN12 => ?_
      refine a_asgE ?_
      refine e_op ?_
      obtain ⟨F26, w9, g8, r11, fz8⟩ := x9.frzE w
      replace r1 := Rep.mono _ g8 r1
      replace r2 := Rep.mono _ g8 r2
      replace r3 := Rep.mono _ g8 r3
      replace r4 := Rep.mono _ g8 r4
      replace r6 := Rep.mono _ g8 r6
      replace w := w9
      replace gx2 := Ex.tr gx2 g8
      refine n_cutX (lo := (some at1)) (hi := none) r11 (val_var rfl) (po_s (n := at1) (val_var rfl)) po_n w ?_
      intro p11 H25 hp8 s22 x14
      replace r1 := Rep.mono _ s22.g r1
      replace r2 := Rep.mono _ s22.g r2
      replace r3 := Rep.mono _ s22.g r3
      replace r4 := Rep.mono _ s22.g r4
      replace r6 := Rep.mono _ s22.g r6
      replace r11 := Rep.mono _ s22.g r11
      replace w := w.tr s22
      replace gx2 := Ex.tr gx2 s22.g
      refine e_lrev ?_
      refine n_cutX (lo := none) (hi := (some at1)) r11 (val_var rfl) po_n (po_s (n := at1) (val_var rfl)) w ?_
      intro p12 H26 hp9 s23 x15
      have ne4 := x14.ne hp9
      replace r1 := Rep.mono _ s23.g r1
      replace r2 := Rep.mono _ s23.g r2
      replace r3 := Rep.mono _ s23.g r3
      replace r4 := Rep.mono _ s23.g r4
      replace r6 := Rep.mono _ s23.g r6
      replace r11 := Rep.mono _ s23.g r11
      replace x14 := x14.step s23
      replace w := w.tr s23
      replace gx2 := Ex.tr gx2 s23.g
      refine n_lrevXX x15 w ?_
      intro p13 H27 hp10 s24 x16
      have ne5 := x14.ne hp10
      replace r1 := Rep.mono _ s24.g r1
      replace r2 := Rep.mono _ s24.g r2
      replace r3 := Rep.mono _ s24.g r3
      replace r4 := Rep.mono _ s24.g r4
      replace r6 := Rep.mono _ s24.g r6
      replace r11 := Rep.mono _ s24.g r11
      replace x14 := x14.step s24
      replace w := w.tr s24
      replace gx2 := Ex.tr gx2 s24.g
      obtain ⟨F27, w10, g9, r12, fz9⟩ := x14.frzE w
      replace r1 := Rep.mono _ g9 r1
      replace r2 := Rep.mono _ g9 r2
      replace r3 := Rep.mono _ g9 r3
      replace r4 := Rep.mono _ g9 r4
      replace r6 := Rep.mono _ g9 r6
      replace r11 := Rep.mono _ g9 r11
      replace x16 := x16.frzO fz9 (Ne.symm ne5) g9
      replace w := w10
      replace gx2 := Ex.tr gx2 g9
      obtain ⟨F28, w11, g10, r13, fz10⟩ := x16.frzE w
      replace r1 := Rep.mono _ g10 r1
      replace r2 := Rep.mono _ g10 r2
      replace r3 := Rep.mono _ g10 r3
      replace r4 := Rep.mono _ g10 r4
      replace r6 := Rep.mono _ g10 r6
      replace r11 := Rep.mono _ g10 r11
      replace r12 := Rep.mono _ g10 r12
      replace w := w11
      replace gx2 := Ex.tr gx2 g10
      obtain ⟨c10, hW⟩ := hW
      refine n_cat r12 r13 w c10 ?_
      intro p14 H28 hp11 s25 x17
      replace r1 := Rep.mono _ s25.g r1
      replace r2 := Rep.mono _ s25.g r2
      replace r3 := Rep.mono _ s25.g r3
      replace r4 := Rep.mono _ s25.g r4
      replace r6 := Rep.mono _ s25.g r6
      replace r11 := Rep.mono _ s25.g r11
      replace r12 := Rep.mono _ s25.g r12
      replace r13 := Rep.mono _ s25.g r13
      replace w := w.tr s25
      replace gx2 := Ex.tr gx2 s25.g
      refine hN12 _ _ ?_
      refine q_sq fun N13 hN13 => ?_
      refine a_asgE ?_
      refine e_lst ?_
      refine a_nil ?_
      refine n_lstX (e := (pT2 pS pS)) (xs := []) (vs := []) (show All (pT2 pS pS) _ [] [] from trivial) (show 0 < 1000000 from by decide) w ?_
      intro p15 H29 hp12 s26 x18
      have ne6 := x17.ne hp12
      replace r1 := Rep.mono _ s26.g r1
      replace r2 := Rep.mono _ s26.g r2
      replace r3 := Rep.mono _ s26.g r3
      replace r4 := Rep.mono _ s26.g r4
      replace r6 := Rep.mono _ s26.g r6
      replace x17 := x17.step s26
      replace w := w.tr s26
      replace gx2 := Ex.tr gx2 s26.g
      refine hN13 _ _ ?_
      refine q_sq fun N14 hN14 => ?_
      refine f_J ?_
      refine a_val (v := (.ref p3)) (val_var rfl) ?_
      refine a_nil ?_
      refine src_enum r4 w.f (fun a1 T1 => ?_)
      refine w_forG (S := List (Str × Str)) T1 (fun ends1 σ' F' H' => ∃ (o3 : Option V) (o4 : Option V), Wf F0 H0 F' H' ∧ Ex F28 F' ∧ σ' = [some v1, some (.int ((start1 : Nat) : Int)), some (.int ((most1 : Nat) : Int)), some (.int (z1)), some (.ref p1), some (.ref p2), o3, some (.ref p3), some v2, some (.ref p14), o2, some (.int ((at1 : Nat) : Int)), some ((.ref p15)), o4, none] ∧ XL (pT2 pS pS) H0 F' H' p15 ends1 ∧ XL (pT2 pS (pL pS)) H0 F' H' p14 ((cutT sums1 (some at1) none) ++ ((cutT sums1 none (some at1)).reverse))) hW ⟨_, _, w, Ex.rfl', rfl, x18, x17⟩ (fun s σ' F' H' hI => by obtain ⟨_, _, w', gx', _⟩ := hI; exact ⟨gx', w'.f⟩) w.f ?_ ?_
      · intro N15 Bk2 it1 u4 ends1 σ' F29 H30 F30 H31 nx2 bk2 hI3 hx4 s28 ru4 hW hN15 hB2
        obtain ⟨o3, o4, w, gx3, rfl, x19, x20⟩ := hI3
        have r1 := Rep.mono _ gx3 r1
        have r2 := Rep.mono _ gx3 r2
        have r3 := Rep.mono _ gx3 r3
        have r4 := Rep.mono _ gx3 r4
        have r6 := Rep.mono _ gx3 r6
        have gx2 := Ex.tr gx2 gx3
        replace r1 := Rep.mono _ s28.g r1
        replace r2 := Rep.mono _ s28.g r2
        replace r3 := Rep.mono _ s28.g r3
        replace r4 := Rep.mono _ s28.g r4
        replace r6 := Rep.mono _ s28.g r6
        replace x20 := x20.step s28
        replace x19 := x19.step s28
        replace w := w.tr s28
        replace gx3 := Ex.tr gx3 s28.g
        replace gx2 := Ex.tr gx2 s28.g
        obtain ⟨p16, u5, u6, rfl, h1, rfl, rfl⟩ := ru4
        refine ⟨p16, _, rfl, SqT.of (w.f _ _ h1), rfl, _, _, rfl, _, _, rfl, rfl, ?_⟩
        refine a_dropE ?_
        refine m_list x19 (val_var rfl) ?_
        refine a_cons ?_
        refine e_tup ?_
        refine a_val (v := (.str (it1.2))) (val_var rfl) ?_
        refine a_cons ?_
        refine e_op ?_
        refine e_val (v := v2) (val_var rfl) ?_
        refine e_op ?_
        refine e_call ?_
        refine a_val (v := (.int (z1))) (val_var rfl) ?_
        refine a_val (v := (.int ((50 + it1.1 : Nat) : Int))) (vn_add val_c (val_var rfl)) ?_
        refine a_nil ?_
        refine ⟨F30, (z1), (50 + it1.1), _, rfl, w.f, hW, ?_⟩
        intro z12 hW F31 H32 s29
        replace r1 := Rep.mono _ s29.g r1
        replace r2 := Rep.mono _ s29.g r2
        replace r3 := Rep.mono _ s29.g r3
        replace r4 := Rep.mono _ s29.g r4
        replace r6 := Rep.mono _ s29.g r6
        replace x20 := x20.step s29
        replace x19 := x19.step s29
        replace w := w.tr s29
        replace gx3 := Ex.tr gx3 s29.g
        replace gx2 := Ex.tr gx2 s29.g
        refine e_val (v := (.int ((known1.length : Nat) : Int))) (len_L r6 w.f (val_var rfl)) ?_
        obtain ⟨c11, hW⟩ := hW
        refine rv2 (z := (.int ((z12 % known1.length : Nat) : Int))) (vn_mod val_c val_c c11) ?_
        obtain ⟨x21, hx21_1, hW⟩ := hW
        obtain ⟨_, rfl, ix4⟩ := ix_L (K := K) r6 w.f hx21_1
        refine rv2 (z := (.str (x21))) (ix4 val_c val_c) ?_
        refine a_nil ?_
        refine n_tup2 (e := pS) (f := pS) (x := it1.2) (y := x21) rfl rfl w ?_
        intro p17 F32 H33 s30 r15
        replace r1 := Rep.mono _ s30.g r1
        replace r2 := Rep.mono _ s30.g r2
        replace r3 := Rep.mono _ s30.g r3
        replace r4 := Rep.mono _ s30.g r4
        replace r6 := Rep.mono _ s30.g r6
        replace x20 := x20.step s30
        replace x19 := x19.step s30
        replace w := w.tr s30
        replace gx3 := Ex.tr gx3 s30.g
        replace gx2 := Ex.tr gx2 s30.g
        refine a_nil ?_
        obtain ⟨c12, hW⟩ := hW
        refine a_app x19 w c12 r15 (fun H34 w12 x22 kp2 => ?_)
        replace x20 := x20.kept kp2 ne6
        replace w := w12
        exact hN15 (ends1 ++ [(it1.2, x21)]) _ _ _ ⟨_, _, w, gx3, rfl, x22, x20⟩ hW
      · intro ends1 σ' F33 H35 hI4 hW
        obtain ⟨o3, o4, w, gx4, rfl, x19, x20⟩ := hI4
        have r1 := Rep.mono _ gx4 r1
        have r2 := Rep.mono _ gx4 r2
        have r3 := Rep.mono _ gx4 r3
        have r4 := Rep.mono _ gx4 r4
        have r6 := Rep.mono _ gx4 r6
        have gx2 := Ex.tr gx2 gx4
        refine hN14 _ _ ?_
        refine q_sq fun N16 hN16 => ?_
        refine a_asgE ?_
        refine e_lst ?_
        refine a_nil ?_
        refine n_lstX (e := pS) (xs := []) (vs := []) (show All pS _ [] [] from trivial) (show 0 < 1000000 from by decide) w ?_
        intro p18 H36 hp13 s32 x23
        have ne7 := x20.ne hp13
        have ne8 := x19.ne hp13
        replace r1 := Rep.mono _ s32.g r1
        replace r2 := Rep.mono _ s32.g r2
        replace r3 := Rep.mono _ s32.g r3
        replace r4 := Rep.mono _ s32.g r4
        replace r6 := Rep.mono _ s32.g r6
        replace x20 := x20.step s32
        replace x19 := x19.step s32
        replace w := w.tr s32
        replace gx4 := Ex.tr gx4 s32.g
        replace gx2 := Ex.tr gx2 s32.g
        obtain ⟨F34, w13, g11, r16, fz11⟩ := x23.frzE w
        replace r1 := Rep.mono _ g11 r1
        replace r2 := Rep.mono _ g11 r2
        replace r3 := Rep.mono _ g11 r3
        replace r4 := Rep.mono _ g11 r4
        replace r6 := Rep.mono _ g11 r6
        replace x20 := x20.frzO fz11 ne7 g11
        replace x19 := x19.frzO fz11 ne8 g11
        replace w := w13
        replace gx4 := Ex.tr gx4 g11
        replace gx2 := Ex.tr gx2 g11
        refine hN16 _ _ ?_
        refine q_jn (S := List Str) hW (fun outs1 σ' F' H' => ∃ (v4 : V), Wf F0 H0 F' H' ∧ Ex F34 F' ∧ σ' = [some v1, some (.int ((start1 : Nat) : Int)), some (.int ((most1 : Nat) : Int)), some (.int (z1)), some (.ref p1), some (.ref p2), o3, some (.ref p3), some v2, some (.ref p14), o2, some (.int ((at1 : Nat) : Int)), some (.ref p15), o4, some v4] ∧ (pL pS).r F' v4 outs1 ∧ XL (pT2 pS (pL pS)) H0 F' H' p14 ((cutT sums1 (some at1) none) ++ ((cutT sums1 none (some at1)).reverse)) ∧ XL (pT2 pS pS) H0 F' H' p15 ends1) ?_ ?_
        · intro N17 hN17 hW
          have gx5 : Ex F34 F34 := Ex.rfl'
          refine a_ifE ?_
          refine e_tT ?_
          refine e_op ?_
          refine e_val (v := v2) (val_var rfl) ?_
          refine e_lst ?_
          refine a_nil ?_
          refine n_lstX (e := pS) (xs := []) (vs := []) (show All pS _ [] [] from trivial) (show 0 < 1000000 from by decide) w ?_
          intro p19 H37 hp14 s33 x26
          have ne9 := x20.ne hp14
          have ne10 := x19.ne hp14
          replace r1 := Rep.mono _ s33.g r1
          replace r2 := Rep.mono _ s33.g r2
          replace r3 := Rep.mono _ s33.g r3
          replace r4 := Rep.mono _ s33.g r4
          replace r6 := Rep.mono _ s33.g r6
          replace x20 := x20.step s33
          replace x19 := x19.step s33
          replace r16 := Rep.mono _ s33.g r16
          replace w := w.tr s33
          replace gx5 := Ex.tr gx5 s33.g
          replace gx4 := Ex.tr gx4 s33.g
          replace gx2 := Ex.tr gx2 s33.g
          obtain ⟨F35, w14, g12, r18, fz12⟩ := x26.frzE w
          replace r1 := Rep.mono _ g12 r1
          replace r2 := Rep.mono _ g12 r2
          replace r3 := Rep.mono _ g12 r3
          replace r4 := Rep.mono _ g12 r4
          replace r6 := Rep.mono _ g12 r6
          replace x20 := x20.frzO fz12 ne9 g12
          replace x19 := x19.frzO fz12 ne10 g12
          replace r16 := Rep.mono _ g12 r16
          replace w := w14
          replace gx5 := Ex.tr gx5 g12
          replace gx4 := Ex.tr gx4 g12
          replace gx2 := Ex.tr gx2 g12
          obtain ⟨c13, hW⟩ := hW
          refine rv2T (b := decide (known1 ≠ ([] : List Str))) (c_neO (K := K) (e := (pL pS)) val_c val_c w.f r6 w.f r18 c13) ?_
          refine b_if (fun hc1 => ?_) (fun hc1 => ?_)
          · have hW := ifP hW hc1
            refine a_asgE ?_
            refine c_RE ?_
            refine e_op ?_
            refine e_call ?_
            refine a_val (v := (.int (z1))) (val_var rfl) ?_
            refine a_val (v := (.int ((5 : Nat) : Int))) val_c ?_
            refine a_nil ?_
            refine ⟨F35, (z1), (5), _, rfl, w.f, hW, ?_⟩
            intro z13 hW F36 H38 s34
            replace r1 := Rep.mono _ s34.g r1
            replace r2 := Rep.mono _ s34.g r2
            replace r3 := Rep.mono _ s34.g r3
            replace r4 := Rep.mono _ s34.g r4
            replace r6 := Rep.mono _ s34.g r6
            replace x20 := x20.step s34
            replace x19 := x19.step s34
            replace r16 := Rep.mono _ s34.g r16
            replace w := w.tr s34
            replace gx5 := Ex.tr gx5 s34.g
            replace gx4 := Ex.tr gx4 s34.g
            replace gx2 := Ex.tr gx2 s34.g
            refine e_val (v := (.int ((4 : Nat) : Int))) val_c ?_
            refine rv2 (z := (.int ((z13 % 4 : Nat) : Int))) (vn_mod val_c val_c (by decide)) ?_
            obtain ⟨c14, hW⟩ := hW
            refine w_compR (e := pS) w c14 hW ?_ ?_
            · intro Qy Qn k5 F37 H39 R3 q3 hx5 hW hy3 hn3
              have r1 := Rep.mono _ q3.g r1
              have r2 := Rep.mono _ q3.g r2
              have r3 := Rep.mono _ q3.g r3
              have r4 := Rep.mono _ q3.g r4
              have r6 := Rep.mono _ q3.g r6
              have x20 := x20.step q3
              have x19 := x19.step q3
              have r16 := Rep.mono _ q3.g r16
              have w := Wf.id q3.f
              refine ⟨rfl, ?_⟩
              refine c_yes ?_
              refine e_op ?_
              refine e_val (v := v2) (val_var rfl) ?_
              refine e_op ?_
              refine e_call ?_
              refine a_val (v := (.int (z1))) (val_var rfl) ?_
              refine a_val (v := (.int ((80 + k5 : Nat) : Int))) (vn_add val_c (val_var rfl)) ?_
              refine a_nil ?_
              refine ⟨F37, (z1), (80 + k5), _, rfl, w.f, hW, ?_⟩
              intro z14 hW F38 H40 s35
              replace r1 := Rep.mono _ s35.g r1
              replace r2 := Rep.mono _ s35.g r2
              replace r3 := Rep.mono _ s35.g r3
              replace r4 := Rep.mono _ s35.g r4
              replace r6 := Rep.mono _ s35.g r6
              replace x20 := x20.step s35
              replace x19 := x19.step s35
              replace r16 := Rep.mono _ s35.g r16
              replace w := w.tr s35
              refine e_val (v := (.int ((known1.length : Nat) : Int))) (len_L r6 w.f (val_var rfl)) ?_
              obtain ⟨c15, hW⟩ := hW
              refine rv2 (z := (.int ((z14 % known1.length : Nat) : Int))) (vn_mod val_c val_c c15) ?_
              obtain ⟨x27, hx27_1, hW⟩ := hW
              obtain ⟨_, rfl, ix5⟩ := ix_L (K := K) r6 w.f hx27_1
              refine rv2 (z := (.str (x27))) (ix5 val_c val_c) ?_
              exact hy3 _ _ _ _ w rfl hW
            intro p20 ys3 F39 H41 hp15 s36 x28 hW
            have ne11 := x20.ne hp15
            have ne12 := x19.ne hp15
            replace r1 := Rep.mono _ s36.g r1
            replace r2 := Rep.mono _ s36.g r2
            replace r3 := Rep.mono _ s36.g r3
            replace r4 := Rep.mono _ s36.g r4
            replace r6 := Rep.mono _ s36.g r6
            replace x20 := x20.step s36
            replace x19 := x19.step s36
            replace r16 := Rep.mono _ s36.g r16
            replace w := w.tr s36
            replace gx5 := Ex.tr gx5 s36.g
            replace gx4 := Ex.tr gx4 s36.g
            replace gx2 := Ex.tr gx2 s36.g
            obtain ⟨F40, w15, g13, r20, fz13⟩ := x28.frzE w
            replace r1 := Rep.mono _ g13 r1
            replace r2 := Rep.mono _ g13 r2
            replace r3 := Rep.mono _ g13 r3
            replace r4 := Rep.mono _ g13 r4
            replace r6 := Rep.mono _ g13 r6
            replace x20 := x20.frzO fz13 ne11 g13
            replace x19 := x19.frzO fz13 ne12 g13
            replace r16 := Rep.mono _ g13 r16
            replace w := w15
            replace gx5 := Ex.tr gx5 g13
            replace gx4 := Ex.tr gx4 g13
            replace gx2 := Ex.tr gx2 g13
            exact hN17 ys3 _ _ _ ⟨_, w, gx5, rfl, r20, x20, x19⟩ hW
          · have hW := ifN hW hc1
            exact hN17 ([] : List Str) _ _ _ ⟨_, w, gx5, rfl, r16, x20, x19⟩ hW
        · intro outs1 σ' F41 H42 hI5 hW
          obtain ⟨v4, w, gx6, rfl, r17, x24, x25⟩ := hI5
          have r1 := Rep.mono _ gx6 r1
          have r2 := Rep.mono _ gx6 r2
          have r3 := Rep.mono _ gx6 r3
          have r4 := Rep.mono _ gx6 r4
          have r6 := Rep.mono _ gx6 r6
          have gx4 := Ex.tr gx4 gx6
          have gx2 := Ex.tr gx2 gx6
          refine a_retE ?_
          refine e_tup ?_
          refine a_val (v := (.ref p2)) (val_var rfl) ?_
          refine a_val (v := (.ref p14)) (val_var rfl) ?_
          refine a_val (v := (.ref p15)) (val_var rfl) ?_
          refine a_val (v := v4) (val_var rfl) ?_
          refine a_nil ?_
          obtain ⟨F42, w16, g14, r21, fz14⟩ := x24.frzE w
          replace r1 := Rep.mono _ g14 r1
          replace r2 := Rep.mono _ g14 r2
          replace r3 := Rep.mono _ g14 r3
          replace r4 := Rep.mono _ g14 r4
          replace r6 := Rep.mono _ g14 r6
          replace x25 := x25.frzO fz14 (Ne.symm ne6) g14
          replace r17 := Rep.mono _ g14 r17
          replace w := w16
          replace gx6 := Ex.tr gx6 g14
          replace gx4 := Ex.tr gx4 g14
          replace gx2 := Ex.tr gx2 g14
          obtain ⟨F43, w17, g15, r22, fz15⟩ := x25.frzE w
          replace r1 := Rep.mono _ g15 r1
          replace r2 := Rep.mono _ g15 r2
          replace r3 := Rep.mono _ g15 r3
          replace r4 := Rep.mono _ g15 r4
          replace r6 := Rep.mono _ g15 r6
          replace r21 := Rep.mono _ g15 r21
          replace r17 := Rep.mono _ g15 r17
          replace w := w17
          replace gx6 := Ex.tr gx6 g15
          replace gx4 := Ex.tr gx4 g15
          replace gx2 := Ex.tr gx2 g15
          refine n_tup4 (e := (pL pS)) (f := (pL (pT2 pS (pL pS)))) (g := (pL (pT2 pS pS))) (i := (pL pS)) (x := ys1) (x2 := (cutT sums1 (some at1) none) ++ ((cutT sums1 none (some at1)).reverse)) (x3 := ends1) (x4 := outs1) r3 r21 r22 r17 w ?_
          intro p21 F44 H43 s38 r23
          replace r1 := Rep.mono _ s38.g r1
          replace r2 := Rep.mono _ s38.g r2
          replace r3 := Rep.mono _ s38.g r3
          replace r4 := Rep.mono _ s38.g r4
          replace r6 := Rep.mono _ s38.g r6
          replace r21 := Rep.mono _ s38.g r21
          replace r22 := Rep.mono _ s38.g r22
          replace r17 := Rep.mono _ s38.g r17
          replace w := w.tr s38
          replace gx6 := Ex.tr gx6 s38.g
          replace gx4 := Ex.tr gx4 s38.g
          replace gx2 := Ex.tr gx2 s38.g
          exact hQ _ hW _ _ _ w r23
abbrev s_run : Stmt := topS 37
/-! _law_run -/
def W_run (net_one1 : List (Str × WireV) × List Str × List Str × List (Str × Bool)) (rows1 : List Nat) (R : (List Nat × Nat) → Prop) : Prop := W_Run___init__ net_one1 fun (net1, held1, replies1) => forW rows1 (held1, replies1) (fun row1 (run_here_held1, run_here_replies1) nx2 bk1 => W_Run_step net1 run_here_held1 run_here_replies1 row1 fun (z2, held2, replies2) => nx2 (held2, replies2)) fun (run_here_held1, run_here_replies1) => W_Run_answered run_here_replies1 fun z3 => W_Run_state run_here_held1 fun z4 => R (z3, z4)
def sp_run (K : PySem.W.Frag) (cc : Cz) : Sp := fun vs H Q _ => ∃ (F : Hp) (v1 : V) (net_one1 : List (Str × WireV) × List Str × List Str × List (Str × Bool)) (v2 : V) (rows1 : List Nat) (R : (List Nat × Nat) → Prop), vs = [v1, v2] ∧ Ex F H ∧ (pO4 cc.Net "all" "ends" "line_up" "laid" (pD (κ := Str) (pW cc.InWire cc.SumWire cc.StoreWire)) (pL pS) (pL pS) (pD (κ := Str) pB)).r F v1 net_one1 ∧ (pL pN).r F v2 rows1 ∧ W_run net_one1 rows1 R ∧ ∀ z, R z → ∀ v F' H', Wf F H F' H' → (pT2 (pL pN) pN).r F' v z → Q v H'
abbrev N_run : List Str := ["_law_net_one", "_law_rows", "_law_run_here", "_law_row"]
theorem sc_run : FnScope N_run ["_law_net_one", "_law_rows"] (defScope s_run) := ⟨rfl, rfl, rfl, by decide +kernel, rfl, by decide +kernel, by decide +kernel⟩
theorem ok_run {P : Program} {w0 : World} {K : PySem.W.Frag} {mg : Str → Option Value} {base : Heap} {f : Addr} {fd : FuncData} {cc : Cz} (T : Tz K mg cc) (FU : Fun K "_law_run" "_law_run" s_run f fd) (hm : mg "_law_run" = some (.ref f)) (hb : Binds K fd ["_law_net_one", "_law_rows"] []) (c_Run___init__ : Nw P w0 K mg base CX0 1 cc.Run "Run" ["self", "net"] (sp_Run___init__ K cc)) (c_Run_step : Md P w0 K mg base CX0 4 cc.Run "step" ["self", "row"] (sp_Run_step K cc)) (c_Run_answered : Md P w0 K mg base CX0 1 cc.Run "answered" ["self"] (sp_Run_answered K cc)) (c_Run_state : Md P w0 K mg base CX0 1 cc.Run "state" ["self"] (sp_Run_state K cc)) : Fn P w0 K mg base CX0 5 "_law_run" ["_law_net_one", "_law_rows"] (sp_run K cc) := by
  refine ⟨f, fd, FU.ok sc_run (fun vs H Q E h => ?_) (fun cdv A outer s H0 vs Q E hr h => ?_), hm, FU.kp, hb⟩
  · obtain ⟨_, _, _, _, _, _, rfl, _⟩ := h; rfl
  · obtain ⟨F0, v1, net_one1, v2, rows1, R, rfl, wf, r1, r2, hW, hQ⟩ := h
    have nd := sc_run.nd
    refine ⟨(tSeq (tAsg (tMake cc.Run (sp_Run___init__ K cc) [] E0 (tCons (tVar 0) tNil)) (gName 2)) (tSeq (tFor (iList K (tVar 1)) (gName 3) (tDrop (tMeth cc.Run "step" (sp_Run_step K cc) [] E0 (tVar 2) (tCons (tVar 3) tNil)))) (tRet (tTup (tCons (tMeth cc.Run "answered" (sp_Run_answered K cc) [] E0 (tVar 2) tNil) (tCons (tMeth cc.Run "state" (sp_Run_state K cc) [] E0 (tVar 2) tNil) tNil)))))), (pss_cons (ps_set (i := 2) nd rfl (Or.inl rfl) (pe_nw c_Run___init__ (hr.mono (by decide)) rfl (pa_cons (pv 0) pa_nil))) (pss_cons (ps_for PassesOwn.never rfl (pi_list (pv 1)) (pg_name (i := 3) nd rfl (Or.inl rfl)) (pss_one (ps_expr (pe_md c_Run_step T.cl_Run (hr.mono (by decide)) (pv 2) (pa_cons (pv 3) pa_nil))))) (pss_one (ps_ret (pe_tup (pa_cons (pe_md0 c_Run_answered T.cl_Run (hr.mono (by decide)) (pv 2)) (pa_cons (pe_md0 c_Run_state T.cl_Run (hr.mono (by decide)) (pv 2)) pa_nil))))))), ?_⟩
    have w := Wf.id wf
    refine q_sq fun N1 hN1 => ?_
    refine a_asgE ?_
    refine e_nw ?_
    refine a_val (v := v1) (val_var rfl) ?_
    refine a_nil ?_
    intro ob1 dx1 nx1 nd1 ne1
    refine ⟨F0, ob1, dx1, (v1), (net_one1), _, rfl, upd_same, (w.f.non nx1), (Ex.made w.f nx1 nd1), r1, hW, ?_⟩
    intro z1 hW v3 p1 F1 H1 s1 xo1 r3 x1 ne2
    obtain ⟨net1, held1, replies1⟩ := z1
    refine ⟨rfl, ?_⟩
    obtain ⟨x1, hd1⟩ := x1.made ne2 w
    replace xo1 := xo1.fromL (w.h.non nx1)
    replace s1 := Wf.made nx1 nd1 s1
    replace r1 := Rep.mono _ s1.g r1
    replace r2 := Rep.mono _ s1.g r2
    replace w := w.tr s1
    refine hN1 _ _ ?_
    refine q_sq fun N2 hN2 => ?_
    refine f_LE ?_
    refine e_val (v := v2) (val_var rfl) ?_
    refine w_forL (S := Nat × List Nat) (fun s σ' F' H' => match s with | (run_here_held1, run_here_replies1) => ∃ (o1 : Option V), Wf F0 H0 F' H' ∧ Ex F1 F' ∧ σ' = [some v1, some v2, some (.ref ob1), o1] ∧ XL pN H0 F' H' p1 run_here_replies1 ∧ XO_Run cc H0 F' H' ob1 dx1 v3 run_here_held1 p1) r2 hW ⟨_, w, Ex.rfl', rfl, x1, xo1⟩ (fun s σ' F' H' hI => by obtain ⟨run_here_held1, run_here_replies1⟩ := s; obtain ⟨_, w', gx', _⟩ := hI; exact ⟨gx', w'.f⟩) w.f ?_ ?_
    · intro N3 Bk1 row1 u1 s2 σ' F2 H2 nx2 bk1 hI1 hx1 ru1 hW hN3 hB1
      obtain ⟨run_here_held1, run_here_replies1⟩ := s2
      obtain ⟨o1, w, gx1, rfl, x2, x3⟩ := hI1
      have r1 := Rep.mono _ gx1 r1
      have r2 := Rep.mono _ gx1 r2
      have r3 := Rep.mono _ gx1 r3
      obtain rfl : u1 = (.int ((row1 : Nat) : Int)) := ru1
      refine g_name ?_
      refine a_dropE ?_
      refine e_md ?_
      refine e_val (v := (.ref ob1)) (val_var rfl) ?_
      obtain ⟨v4, xo2⟩ := x3.x
      refine ⟨_, _, _, rfl, xo2.h, ((lk_ne (by decide +kernel)).trans ((lk_ne (by decide +kernel)).trans ((lk_ne (by decide +kernel)).trans ((lk_ne (by decide +kernel)).trans rfl)))), ?_⟩
      refine a_val (v := (.int ((row1 : Nat) : Int))) (val_var rfl) ?_
      refine a_nil ?_
      refine ⟨F2, ob1, dx1, v3, (net1), (run_here_held1), p1, (run_here_replies1), (row1), _, rfl, w.f, (x3.toL (List.mem_cons_self ..)), r3, (x2.toL (List.mem_cons_of_mem _ (List.mem_cons_self ..))), ne2, hW, ?_⟩
      intro zz1 hW F3 H3 s3 xo3 x4
      obtain ⟨z2, held2, replies2⟩ := zz1
      replace xo3 := xo3.fromL x3.zero
      replace x4 := x4.fromL x2.zero
      replace w := w.mcall (L := [ob1, p1]) (allL2 x3.zero x2.zero) s3 (allL2 xo3.nF x4.nF)
      replace r1 := Rep.mono _ s3.g r1
      replace r2 := Rep.mono _ s3.g r2
      replace r3 := Rep.mono _ s3.g r3
      replace gx1 := Ex.tr gx1 s3.g
      exact hN3 (held2, replies2) _ _ _ ⟨_, w, gx1, rfl, x4, xo3⟩ hW
    · intro s4 σ' F4 H4 hI2 hW
      obtain ⟨run_here_held1, run_here_replies1⟩ := s4
      obtain ⟨o1, w, gx2, rfl, x2, x3⟩ := hI2
      have r1 := Rep.mono _ gx2 r1
      have r2 := Rep.mono _ gx2 r2
      have r3 := Rep.mono _ gx2 r3
      refine hN2 _ _ ?_
      refine a_retE ?_
      refine e_tup ?_
      refine a_cons ?_
      refine e_md ?_
      refine e_val (v := (.ref ob1)) (val_var rfl) ?_
      obtain ⟨v5, xo4⟩ := x3.x
      refine ⟨_, _, _, rfl, xo4.h, ((lk_ne (by decide +kernel)).trans ((lk_ne (by decide +kernel)).trans ((lk_ne (by decide +kernel)).trans ((lk_ne (by decide +kernel)).trans rfl)))), ?_⟩
      refine a_nil ?_
      refine ⟨F4, ob1, dx1, _, p1, (run_here_replies1), _, rfl, w.f, xo4.h, ((lk_ne (by decide +kernel)).trans ((lk_ne (by decide +kernel)).trans ((lk_ne (by decide +kernel)).trans lk_eq))), x2.bw, hW, ?_⟩
      intro z3 hW p2 F5 H5 s5 x5
      have ne3 := x2.ne x5.zero
      have ne4 := x3.ne x5.zero
      replace x5 := x5.base w
      replace r1 := Rep.mono _ s5.g r1
      replace r2 := Rep.mono _ s5.g r2
      replace r3 := Rep.mono _ s5.g r3
      replace x2 := x2.step s5
      replace x3 := x3.step s5
      replace w := w.tr s5
      replace gx2 := Ex.tr gx2 s5.g
      refine a_cons ?_
      refine e_md ?_
      refine e_val (v := (.ref ob1)) (val_var rfl) ?_
      obtain ⟨v6, xo5⟩ := x3.x
      refine ⟨_, _, _, rfl, xo5.h, ((lk_ne (by decide +kernel)).trans ((lk_ne (by decide +kernel)).trans ((lk_ne (by decide +kernel)).trans ((lk_ne (by decide +kernel)).trans rfl)))), ?_⟩
      refine a_nil ?_
      refine ⟨F5, ob1, dx1, _, (run_here_held1), _, rfl, w.f, xo5.h, ((lk_ne (by decide +kernel)).trans lk_eq), hW, ?_⟩
      intro z4 hW F6 H6 s6
      replace r1 := Rep.mono _ s6.g r1
      replace r2 := Rep.mono _ s6.g r2
      replace r3 := Rep.mono _ s6.g r3
      replace x2 := x2.step s6
      replace x3 := x3.step s6
      replace x5 := x5.step s6
      replace w := w.tr s6
      replace gx2 := Ex.tr gx2 s6.g
      refine a_nil ?_
      obtain ⟨F7, w1, g1, r4, fz1⟩ := x5.frzE w
      replace r1 := Rep.mono _ g1 r1
      replace r2 := Rep.mono _ g1 r2
      replace r3 := Rep.mono _ g1 r3
      replace x2 := x2.frzO fz1 ne3 g1
      replace x3 := x3.frzO fz1 ne4 g1
      replace w := w1
      replace gx2 := Ex.tr gx2 g1
      refine n_tup2 (e := (pL pN)) (f := pN) (x := z3) (y := z4) r4 rfl w ?_
      intro p3 F8 H7 s7 r5
      replace r1 := Rep.mono _ s7.g r1
      replace r2 := Rep.mono _ s7.g r2
      replace r3 := Rep.mono _ s7.g r3
      replace x2 := x2.step s7
      replace x3 := x3.step s7
      replace r4 := Rep.mono _ s7.g r4
      replace w := w.tr s7
      replace gx2 := Ex.tr gx2 s7.g
      exact hQ _ hW _ _ _ w r5
abbrev s_law : Stmt := topS 38
/-! law -/
def W_law (script1 : List Int) (R : Bool → Prop) : Prop := W_net script1 2 6 fun z1 => W_Net___init__ z1.1 z1.2.1 z1.2.2.1 z1.2.2.2 fun z2 => ((cutT script1 (some 9) (some 61)).length < 1000000) ∧ compW (cutT script1 (some 9) (some 61)) (fun cell_here1 kk => (z1.1.length < 100000000) ∧ kk (some (modN cell_here1 (2 ^ z1.1.length)))) fun ys1 => ∀ half1 : Nat, half1 = ys1.length / 2 → W_run z2 (cutT ys1 none (some half1)) fun z3 => W_run z2 (cutT ys1 (some half1) (some (2 * half1))) fun z4 => (((cutT ys1 none (some half1)).zip (cutT ys1 (some half1) (some (2 * half1)))).length < 1000000) ∧ compW ((cutT ys1 none (some half1)).zip (cutT ys1 (some half1) (some (2 * half1)))) (fun it1 kk => kk (some (it1.1 ^^^ it1.2))) fun ys2 => W_run z2 ys2 fun z5 => jn (fun kk => ((z3.1.zip z4.1).length < 1000000) ∧ compW (z3.1.zip z4.1) (fun it2 kk => kk (some (it2.1 ^^^ it2.2))) fun ys3 => if z5.1 ≠ ys3 then (kk true) else (kk (decide (z5.2 ≠ (z3.2 ^^^ z4.2))))) fun b1 => if b1 = true then (R false) else (([0].length * half1 < 1000000 ∧ half1 < 1000000) ∧ W_run z2 ((List.replicate half1 [0]).flatten) fun z6 => ([0].length * half1 < 1000000 ∧ half1 < 1000000) ∧ if z6 ≠ ((List.replicate half1 [0]).flatten, 0) then (R false) else (([0].length * 5 < 1000000 ∧ 5 < 1000000) ∧ (((List.replicate 5 [0]).flatten).length + (cutT ys1 none (some half1)).length < 1000000) ∧ W_answers_of z2 (((List.replicate 5 [0]).flatten) ++ (cutT ys1 none (some half1))) fun z7 => ([0].length * 5 < 1000000 ∧ 5 < 1000000) ∧ (((List.replicate 5 [0]).flatten).length + z3.1.length < 1000000) ∧ R (decide (z7 = (((List.replicate 5 [0]).flatten) ++ z3.1)))))
def sp_law (K : PySem.W.Frag) (cc : Cz) : Sp := fun vs H Q _ => ∃ (F : Hp) (v1 : V) (script1 : List Int) (R : Bool → Prop), vs = [v1] ∧ Ex F H ∧ (pScr K).r F v1 script1 ∧ W_law script1 R ∧ ∀ z, R z → ∀ F' H', Wf F H F' H' → Q (.bl (z)) H'
abbrev N_law : List Str := ["_law_script", "_law_net_here", "_law_net_one", "_law_rows", "_law_cell_here", "_law_half", "_law_one", "_law_other", "_law_both", "_law_left", "_law_right", "_law_nothing", "_law_late"]
theorem sc_law : FnScope N_law ["_law_script"] (defScope s_law) := ⟨rfl, rfl, rfl, by decide +kernel, rfl, by decide +kernel, by decide +kernel⟩
theorem ok_law {P : Program} {w0 : World} {K : PySem.W.Frag} {mg : Str → Option Value} {base : Heap} {f : Addr} {fd : FuncData} {cc : Cz} (T : Tz K mg cc) (FU : Fun K "law" "law" s_law f fd) (c_net : Fn P w0 K mg base CX0 3 "_law_net" ["_law_script", "_law_start", "_law_most"] (sp_net K cc)) (c_Net___init__ : Nw P w0 K mg base CX0 5 cc.Net "Net" ["self", "ins", "sums", "stores", "outs"] (sp_Net___init__ K cc)) (c_run : Fn P w0 K mg base CX0 5 "_law_run" ["_law_net_one", "_law_rows"] (sp_run K cc)) (c_answers_of : Fn P w0 K mg base CX0 5 "answers_of" ["net", "rows"] (sp_answers_of K cc)) (n_len : mg "len" = none) (n_zip : mg "zip" = none) : FnOk P w0 K mg base CX0 7 f fd ["_law_script"] (sp_law K cc) := by
  refine FU.ok sc_law (fun vs H Q E h => ?_) (fun cdv A outer s H0 vs Q E hr h => ?_)
  · obtain ⟨_, _, _, _, rfl, _⟩ := h; rfl
  · obtain ⟨F0, v1, script1, R, rfl, wf, r1, hW, hQ⟩ := h
    have nd := sc_law.nd
    refine ⟨(tSeq (tAsg (tCall (sp_net K cc) [] E0 (tCons (tVar 0) (tCons (tC (.int 2)) (tCons (tC (.int 6)) tNil)))) (gName 1)) (tSeq (tAsg (tMake cc.Net (sp_Net___init__ K cc) [] E0 (tCons (tOp (L2.rIxT K) (tVar 1) (tC (.int 0))) (tCons (tOp (L2.rIxT K) (tVar 1) (tC (.int 1))) (tCons (tOp (L2.rIxT K) (tVar 1) (tC (.int 2))) (tCons (tOp (L2.rIxT K) (tVar 1) (tC (.int 3))) tNil))))) (gName 2)) (tSeq (tAsg (tLc (iList K (tSl (rSlL K) (tVar 0) (tPart (tC (.int 9))) (tPart (tC (.int 61))))) (gName 4) tYes (tOp kMod (tVar 4) (tOp kShl (tC (.int 1)) (tCB (Wk.rLen K) (tCons (tOp (L2.rIxT K) (tVar 1) (tC (.int 0))) tNil)))) [4]) (gName 3)) (tSeq (tAsg (tOp kDiv (tCB (Wk.rLen K) (tCons (tVar 3) tNil)) (tC (.int 2))) (gName 5)) (tSeq (tAsg (tCall (sp_run K cc) [] E0 (tCons (tVar 2) (tCons (tSl (rSlL K) (tVar 3) tNoPart (tPart (tVar 5))) tNil))) (gName 6)) (tSeq (tAsg (tCall (sp_run K cc) [] E0 (tCons (tVar 2) (tCons (tSl (rSlL K) (tVar 3) (tPart (tVar 5)) (tPart (tOp kMul (tC (.int 2)) (tVar 5)))) tNil))) (gName 7)) (tSeq (tAsg (tCall (sp_run K cc) [] E0 (tCons (tVar 2) (tCons (tLc (iZip K (tCons (tSl (rSlL K) (tVar 3) tNoPart (tPart (tVar 5))) (tCons (tSl (rSlL K) (tVar 3) (tPart (tVar 5)) (tPart (tOp kMul (tC (.int 2)) (tVar 5)))) tNil))) (gTup K 2 (gCons (gName 9) (gCons (gName 10) gNil))) tYes (tOp kXor (tVar 9) (tVar 10)) [9, 10]) tNil))) (gName 8)) (tSeq (tIfS (tOr (tTest (tOp (L2.rNeD K) (tOp (L2.rIxT K) (tVar 8) (tC (.int 0))) (tLc (iZip K (tCons (tOp (L2.rIxT K) (tVar 6) (tC (.int 0))) (tCons (tOp (L2.rIxT K) (tVar 7) (tC (.int 0))) tNil))) (gTup K 2 (gCons (gName 9) (gCons (gName 10) gNil))) tYes (tOp kXor (tVar 9) (tVar 10)) [9, 10]))) (tTest (tOp L2.rNe (tOp (L2.rIxT K) (tVar 8) (tC (.int 1))) (tOp kXor (tOp (L2.rIxT K) (tVar 6) (tC (.int 1))) (tOp (L2.rIxT K) (tVar 7) (tC (.int 1))))))) (tRet (tC (.bl false))) tNext) (tSeq (tAsg (tCall (sp_run K cc) [] E0 (tCons (tVar 2) (tCons (tOp L2.rRep (tLst (tCons (tC (.int 0)) tNil)) (tVar 5)) tNil))) (gName 11)) (tSeq (tIfS (tTest (tOp (L2.rNeD K) (tVar 11) (tTup (tCons (tOp L2.rRep (tLst (tCons (tC (.int 0)) tNil)) (tVar 5)) (tCons (tC (.int 0)) tNil))))) (tRet (tC (.bl false))) tNext) (tSeq (tAsg (tCall (sp_answers_of K cc) [] E0 (tCons (tVar 2) (tCons (tOp L2.rCat (tOp L2.rRep (tLst (tCons (tC (.int 0)) tNil)) (tC (.int 5))) (tSl (rSlL K) (tVar 3) tNoPart (tPart (tVar 5)))) tNil))) (gName 12)) (tRet (tOp (L2.rEqD K) (tVar 12) (tOp L2.rCat (tOp L2.rRep (tLst (tCons (tC (.int 0)) tNil)) (tC (.int 5))) (tOp (L2.rIxT K) (tVar 6) (tC (.int 0))))))))))))))))), (pss_cons (ps_set (i := 1) nd rfl (Or.inr rfl) (pe_fn c_net (hr.mono (by decide)) rfl (pa_cons (pv 0) (pa_cons pe_int (pa_cons pe_int pa_nil))))) (pss_cons (ps_set (i := 2) nd rfl (Or.inl rfl) (pe_nw c_Net___init__ (hr.mono (by decide)) rfl (pa_cons (pe_ix ix_tup (pv 1) pe_int (fun _ _ => rfl)) (pa_cons (pe_ix ix_tup (pv 1) pe_int (fun _ _ => rfl)) (pa_cons (pe_ix ix_tup (pv 1) pe_int (fun _ _ => rfl)) (pa_cons (pe_ix ix_tup (pv 1) pe_int (fun _ _ => rfl)) pa_nil)))))) (pss_cons (ps_setLc (i := 3) (own := [("_law_cell_here", 4)]) (wi := (iList K (tSl (rSlL K) (tVar 0) (tPart (tC (.int 9))) (tPart (tC (.int 61)))))) (g := (gName 4)) (tt := tYes) (te := (tOp kMod (tVar 4) (tOp kShl (tC (.int 1)) (tCB (Wk.rLen K) (tCons (tOp (L2.rIxT K) (tVar 1) (tC (.int 0))) tNil))))) rfl nd rfl rfl (sw_true rfl rfl rfl (by decide +kernel)) (pi_list (pe_slice sl_list (pv 0) (po_some pe_int) (po_some pe_int))) (blkOk_by (N := N_law) (sc := defScope s_law) (by decide +kernel)) (fun _ _ _ _ _ => (pg_name (i := 4) nd rfl (Or.inl rfl))) (fun _ _ _ _ _ => pts_nil) (fun _ _ _ _ _ => (pe_op op_mod (pv 4) (pe_op op_shlW pe_int (pe_callB call_len_seq (by rfl) n_len PySem.boot_len (pa_cons (pe_ix ix_tup (pv 1) pe_int (fun _ _ => rfl)) pa_nil)))))) (pss_cons (ps_set (i := 5) nd rfl (Or.inl rfl) (pe_op op_fdivW (pe_callB call_len_seq (by rfl) n_len PySem.boot_len (pa_cons (pv 3) pa_nil)) pe_int)) (pss_cons (ps_set (i := 6) nd rfl (Or.inl rfl) (pe_fn c_run (hr.mono (by decide)) rfl (pa_cons (pv 2) (pa_cons (pe_slice sl_list (pv 3) po_none (po_some (pv 5))) pa_nil)))) (pss_cons (ps_set (i := 7) nd rfl (Or.inl rfl) (pe_fn c_run (hr.mono (by decide)) rfl (pa_cons (pv 2) (pa_cons (pe_slice sl_list (pv 3) (po_some (pv 5)) (po_some (pe_op op_mul pe_int (pv 5)))) pa_nil)))) (pss_cons (ps_set (i := 8) nd rfl (Or.inl rfl) (pe_fn c_run (hr.mono (by decide)) rfl (pa_cons (pv 2) (pa_cons (pe_lc (own := [("_law_left", 9), ("_law_right", 10)]) (wi := (iZip K (tCons (tSl (rSlL K) (tVar 3) tNoPart (tPart (tVar 5))) (tCons (tSl (rSlL K) (tVar 3) (tPart (tVar 5)) (tPart (tOp kMul (tC (.int 2)) (tVar 5)))) tNil)))) (g := (gTup K 2 (gCons (gName 9) (gCons (gName 10) gNil)))) (tt := tYes) (te := (tOp kXor (tVar 9) (tVar 10))) rfl nd (pi_zip (by rfl) n_zip (pa_cons (pe_slice sl_list (pv 3) po_none (po_some (pv 5))) (pa_cons (pe_slice sl_list (pv 3) (po_some (pv 5)) (po_some (pe_op op_mul pe_int (pv 5)))) pa_nil))) (blkOk_by (N := N_law) (sc := defScope s_law) (by decide +kernel)) (fun _ _ _ _ _ => (pg_tup rfl (pgs_cons (pg_name (i := 9) nd rfl (Or.inl rfl)) (pgs_cons (pg_name (i := 10) nd rfl (Or.inl rfl)) pgs_nil)) (by rfl))) (fun _ _ _ _ _ => pts_nil) (fun _ _ _ _ _ => (pe_op op_xor (pv 9) (pv 10)))) pa_nil)))) (pss_cons (ps_if (PW.pt (pw_or (pt_cmpR (op_neD hr.units) (pe_ix ix_tup (pv 8) pe_int (fun _ _ => rfl)) (pe_lc (own := [("_law_left", 9), ("_law_right", 10)]) (wi := (iZip K (tCons (tOp (L2.rIxT K) (tVar 6) (tC (.int 0))) (tCons (tOp (L2.rIxT K) (tVar 7) (tC (.int 0))) tNil)))) (g := (gTup K 2 (gCons (gName 9) (gCons (gName 10) gNil)))) (tt := tYes) (te := (tOp kXor (tVar 9) (tVar 10))) rfl nd (pi_zip (by rfl) n_zip (pa_cons (pe_ix ix_tup (pv 6) pe_int (fun _ _ => rfl)) (pa_cons (pe_ix ix_tup (pv 7) pe_int (fun _ _ => rfl)) pa_nil))) (blkOk_by (N := N_law) (sc := defScope s_law) (by decide +kernel)) (fun _ _ _ _ _ => (pg_tup rfl (pgs_cons (pg_name (i := 9) nd rfl (Or.inl rfl)) (pgs_cons (pg_name (i := 10) nd rfl (Or.inl rfl)) pgs_nil)) (by rfl))) (fun _ _ _ _ _ => pts_nil) (fun _ _ _ _ _ => (pe_op op_xor (pv 9) (pv 10)))) (nomark _)) (pw_or1 (pt_cmpR op_ne (pe_ix ix_tup (pv 8) pe_int (fun _ _ => rfl)) (pe_op op_xor (pe_ix ix_tup (pv 6) pe_int (fun _ _ => rfl)) (pe_ix ix_tup (pv 7) pe_int (fun _ _ => rfl))) (nomark _))))) (pss_one (ps_ret pe_bl)) pss_nil) (pss_cons (ps_set (i := 11) nd rfl (Or.inl rfl) (pe_fn c_run (hr.mono (by decide)) rfl (pa_cons (pv 2) (pa_cons (pe_op op_rep (pe_lst (pa_cons pe_int pa_nil)) (pv 5)) pa_nil)))) (pss_cons (ps_if (pt_cmpR (op_neD hr.units) (pv 11) (pe_tup (pa_cons (pe_op op_rep (pe_lst (pa_cons pe_int pa_nil)) (pv 5)) (pa_cons pe_int pa_nil))) (nomark _)) (pss_one (ps_ret pe_bl)) pss_nil) (pss_cons (ps_set (i := 12) nd rfl (Or.inl rfl) (pe_fn c_answers_of (hr.mono (by decide)) rfl (pa_cons (pv 2) (pa_cons (pe_op op_cat (pe_op op_rep (pe_lst (pa_cons pe_int pa_nil)) pe_int) (pe_slice sl_list (pv 3) po_none (po_some (pv 5)))) pa_nil)))) (pss_one (ps_ret (pe_cmpR (op_eqD hr.units) (pv 12) (pe_op op_cat (pe_op op_rep (pe_lst (pa_cons pe_int pa_nil)) pe_int) (pe_ix ix_tup (pv 6) pe_int (fun _ _ => rfl))) (nomark _))))))))))))))), ?_⟩
    have w := Wf.id wf
    refine q_sq fun N1 hN1 => ?_
    refine a_asgE ?_
    refine e_call ?_
    refine a_val (v := v1) (val_var rfl) ?_
    refine a_val (v := (.int ((2 : Nat) : Int))) val_c ?_
    refine a_val (v := (.int ((6 : Nat) : Int))) val_c ?_
    refine a_nil ?_
    refine ⟨F0, (v1), (script1), (2), (6), _, rfl, w.f, r1, hW, ?_⟩
    intro z1 hW v2 F1 H1 s1 r2
    replace r1 := Rep.mono _ s1.g r1
    replace w := w.tr s1
    refine hN1 _ _ ?_
    refine q_sq fun N2 hN2 => ?_
    refine a_asgE ?_
    refine e_nw ?_
    obtain ⟨v3, r3, ix1⟩ := ix_4a (K := K) r2 w.f
    refine a_val (v := v3) (ix1 (val_var rfl) val_c) ?_
    obtain ⟨v4, r4, ix2⟩ := ix_4b (K := K) r2 w.f
    refine a_val (v := v4) (ix2 (val_var rfl) val_c) ?_
    obtain ⟨v5, r5, ix3⟩ := ix_4c (K := K) r2 w.f
    refine a_val (v := v5) (ix3 (val_var rfl) val_c) ?_
    obtain ⟨v6, r6, ix4⟩ := ix_4d (K := K) r2 w.f
    refine a_val (v := v6) (ix4 (val_var rfl) val_c) ?_
    refine a_nil ?_
    intro ob1 dx1 nx1 nd1 ne1
    refine ⟨F1, ob1, dx1, (v3), (z1.1), (v4), (z1.2.1), (v5), (z1.2.2.1), (v6), (z1.2.2.2), _, rfl, upd_same, (w.f.non nx1), (Ex.made w.f nx1 nd1), r3, r4, r5, r6, hW, ?_⟩
    intro z2 hW F2 H2 s2 r7
    refine ⟨rfl, ?_⟩
    replace s2 := Wf.made nx1 nd1 s2
    replace r1 := Rep.mono _ s2.g r1
    replace r2 := Rep.mono _ s2.g r2
    replace r3 := Rep.mono _ s2.g r3
    replace r4 := Rep.mono _ s2.g r4
    replace r5 := Rep.mono _ s2.g r5
    replace r6 := Rep.mono _ s2.g r6
    replace w := w.tr s2
    refine hN2 _ _ ?_
    refine q_sq fun N3 hN3 => ?_
    refine a_asgE ?_
    refine c_LE ?_
    refine n_cutS (lo := (some 9)) (hi := (some 61)) r1 (val_var rfl) (po_s (n := 9) val_c) (po_s (n := 61) val_c) w ?_
    intro p1 H3 hp1 s3 x1
    replace r1 := Rep.mono _ s3.g r1
    replace r2 := Rep.mono _ s3.g r2
    replace r7 := Rep.mono _ s3.g r7
    replace w := w.tr s3
    obtain ⟨F3, w1, g1, r8, fz1⟩ := x1.frzE w
    replace r1 := Rep.mono _ g1 r1
    replace r2 := Rep.mono _ g1 r2
    replace r7 := Rep.mono _ g1 r7
    replace w := w1
    obtain ⟨c1, hW⟩ := hW
    refine w_compL (e := pN) r8 w c1 hW ?_ ?_
    · intro Qy Qn cell_here1 u1 F4 H4 R1 q1 hx1 ru1 hW hy1 hn1
      have r1 := Rep.mono _ q1.g r1
      have r2 := Rep.mono _ q1.g r2
      have r7 := Rep.mono _ q1.g r7
      have r8 := Rep.mono _ q1.g r8
      have w := Wf.id q1.f
      obtain rfl : u1 = (.int (cell_here1)) := ru1
      refine ⟨rfl, ?_⟩
      refine c_yes ?_
      obtain ⟨v7, r9, ix5⟩ := ix_4a (K := K) r2 w.f
      obtain ⟨c2, hW⟩ := hW
      refine e_val (v := (.int ((modN cell_here1 (2 ^ z1.1.length) : Nat) : Int))) (vm_mod (val_var rfl) (vn_one val_c (len_L r9 w.f (ix5 (val_var rfl) val_c)) c2) (Nat.two_pow_pos _)) ?_
      exact hy1 _ _ _ _ w rfl hW
    intro p2 ys1 F5 H5 hp2 s4 x2 hW
    replace r1 := Rep.mono _ s4.g r1
    replace r2 := Rep.mono _ s4.g r2
    replace r7 := Rep.mono _ s4.g r7
    replace r8 := Rep.mono _ s4.g r8
    replace w := w.tr s4
    obtain ⟨F6, w2, g2, r10, fz2⟩ := x2.frzE w
    replace r1 := Rep.mono _ g2 r1
    replace r2 := Rep.mono _ g2 r2
    replace r7 := Rep.mono _ g2 r7
    replace r8 := Rep.mono _ g2 r8
    replace w := w2
    refine hN3 _ _ ?_
    refine q_sq fun N4 hN4 => ?_
    obtain ⟨half1, ehalf1⟩ : ∃ half1 : Nat, half1 = ys1.length / 2 := ⟨_, rfl⟩
    replace hW := hW half1 ehalf1
    refine a_asg (v := (.int ((half1 : Nat) : Int))) (v_eq (vn_div (len_L r10 w.f (val_var rfl)) val_c ⟨by decide, by decide +kernel⟩) (by rw [ehalf1])) ?_
    refine hN4 _ _ ?_
    refine q_sq fun N5 hN5 => ?_
    refine a_asgE ?_
    refine e_call ?_
    refine a_val (v := (.ref ob1)) (val_var rfl) ?_
    refine a_cons ?_
    refine n_cutX (lo := none) (hi := (some half1)) r10 (val_var rfl) po_n (po_s (n := half1) (val_var rfl)) w ?_
    intro p3 H6 hp3 s5 x3
    replace r1 := Rep.mono _ s5.g r1
    replace r2 := Rep.mono _ s5.g r2
    replace r7 := Rep.mono _ s5.g r7
    replace r10 := Rep.mono _ s5.g r10
    replace w := w.tr s5
    refine a_nil ?_
    obtain ⟨F7, w3, g3, r11, fz3⟩ := x3.frzE w
    replace r1 := Rep.mono _ g3 r1
    replace r2 := Rep.mono _ g3 r2
    replace r7 := Rep.mono _ g3 r7
    replace r10 := Rep.mono _ g3 r10
    replace w := w3
    refine ⟨F7, ((.ref ob1)), (z2), ((.ref p3)), (cutT ys1 none (some half1)), _, rfl, w.f, r7, r11, hW, ?_⟩
    intro z3 hW v8 F8 H7 s6 r12
    replace r1 := Rep.mono _ s6.g r1
    replace r2 := Rep.mono _ s6.g r2
    replace r7 := Rep.mono _ s6.g r7
    replace r10 := Rep.mono _ s6.g r10
    replace r11 := Rep.mono _ s6.g r11
    replace w := w.tr s6
    refine hN5 _ _ ?_
    refine q_sq fun N6 hN6 => ?_
    refine a_asgE ?_
    refine e_call ?_
    refine a_val (v := (.ref ob1)) (val_var rfl) ?_
    refine a_cons ?_
    refine n_cutX (lo := (some half1)) (hi := (some (2 * half1))) r10 (val_var rfl) (po_s (n := half1) (val_var rfl)) (po_s (n := 2 * half1) (vn_mul val_c (val_var rfl) (.inl (by decide)))) w ?_
    intro p4 H8 hp4 s7 x4
    replace r1 := Rep.mono _ s7.g r1
    replace r2 := Rep.mono _ s7.g r2
    replace r7 := Rep.mono _ s7.g r7
    replace r10 := Rep.mono _ s7.g r10
    replace r12 := Rep.mono _ s7.g r12
    replace w := w.tr s7
    refine a_nil ?_
    obtain ⟨F9, w4, g4, r13, fz4⟩ := x4.frzE w
    replace r1 := Rep.mono _ g4 r1
    replace r2 := Rep.mono _ g4 r2
    replace r7 := Rep.mono _ g4 r7
    replace r10 := Rep.mono _ g4 r10
    replace r12 := Rep.mono _ g4 r12
    replace w := w4
    refine ⟨F9, ((.ref ob1)), (z2), ((.ref p4)), (cutT ys1 (some half1) (some (2 * half1))), _, rfl, w.f, r7, r13, hW, ?_⟩
    intro z4 hW v9 F10 H9 s8 r14
    replace r1 := Rep.mono _ s8.g r1
    replace r2 := Rep.mono _ s8.g r2
    replace r7 := Rep.mono _ s8.g r7
    replace r10 := Rep.mono _ s8.g r10
    replace r12 := Rep.mono _ s8.g r12
    replace r13 := Rep.mono _ s8.g r13
    replace w := w.tr s8
    refine hN6 _ _ ?_
    refine q_sq fun N7 hN7 => ?_
    refine a_asgE ?_
    refine e_call ?_
    refine a_val (v := (.ref ob1)) (val_var rfl) ?_
    refine a_cons ?_
    refine c_J ?_
    refine a_cons ?_
    refine n_cutX (lo := none) (hi := (some half1)) r10 (val_var rfl) po_n (po_s (n := half1) (val_var rfl)) w ?_
    intro p5 H10 hp5 s9 x5
    replace r1 := Rep.mono _ s9.g r1
    replace r2 := Rep.mono _ s9.g r2
    replace r7 := Rep.mono _ s9.g r7
    replace r10 := Rep.mono _ s9.g r10
    replace r12 := Rep.mono _ s9.g r12
    replace r14 := Rep.mono _ s9.g r14
    replace w := w.tr s9
    refine a_cons ?_
    refine n_cutX (lo := (some half1)) (hi := (some (2 * half1))) r10 (val_var rfl) (po_s (n := half1) (val_var rfl)) (po_s (n := 2 * half1) (vn_mul val_c (val_var rfl) (.inl (by decide)))) w ?_
    intro p6 H11 hp6 s10 x6
    have ne2 := x5.ne hp6
    replace r1 := Rep.mono _ s10.g r1
    replace r2 := Rep.mono _ s10.g r2
    replace r7 := Rep.mono _ s10.g r7
    replace r10 := Rep.mono _ s10.g r10
    replace r12 := Rep.mono _ s10.g r12
    replace r14 := Rep.mono _ s10.g r14
    replace x5 := x5.step s10
    replace w := w.tr s10
    refine a_nil ?_
    obtain ⟨F11, w5, g5, r15, fz5⟩ := x5.frzE w
    replace r1 := Rep.mono _ g5 r1
    replace r2 := Rep.mono _ g5 r2
    replace r7 := Rep.mono _ g5 r7
    replace r10 := Rep.mono _ g5 r10
    replace r12 := Rep.mono _ g5 r12
    replace r14 := Rep.mono _ g5 r14
    replace x6 := x6.frzO fz5 (Ne.symm ne2) g5
    replace w := w5
    obtain ⟨F12, w6, g6, r16, fz6⟩ := x6.frzE w
    replace r1 := Rep.mono _ g6 r1
    replace r2 := Rep.mono _ g6 r2
    replace r7 := Rep.mono _ g6 r7
    replace r10 := Rep.mono _ g6 r10
    replace r12 := Rep.mono _ g6 r12
    replace r14 := Rep.mono _ g6 r14
    replace r15 := Rep.mono _ g6 r15
    replace w := w6
    refine src_zip r15 r16 w.f (fun a1 a2 T1 => ?_)
    obtain ⟨c3, hW⟩ := hW
    refine w_compG (e := pN) T1 w c3 hW ?_ ?_
    · intro Qy Qn it1 u2 F13 H12 R2 q2 hx2 ru2 hW hy2 hn2
      have r1 := Rep.mono _ q2.g r1
      have r2 := Rep.mono _ q2.g r2
      have r7 := Rep.mono _ q2.g r7
      have r10 := Rep.mono _ q2.g r10
      have r12 := Rep.mono _ q2.g r12
      have r14 := Rep.mono _ q2.g r14
      have r15 := Rep.mono _ q2.g r15
      have r16 := Rep.mono _ q2.g r16
      have w := Wf.id q2.f
      obtain ⟨p7, u3, u4, rfl, h1, rfl, rfl⟩ := ru2
      refine ⟨p7, _, rfl, SqT.of (w.f _ _ h1), rfl, _, _, rfl, _, _, rfl, rfl, ?_⟩
      refine ⟨rfl, ?_⟩
      refine c_yes ?_
      refine e_val (v := (.int ((it1.1 ^^^ it1.2 : Nat) : Int))) (vn_xor (val_var rfl) (val_var rfl)) ?_
      exact hy2 _ _ _ _ w rfl hW
    intro p8 ys2 F14 H13 hp7 s11 x7 hW
    replace r1 := Rep.mono _ s11.g r1
    replace r2 := Rep.mono _ s11.g r2
    replace r7 := Rep.mono _ s11.g r7
    replace r10 := Rep.mono _ s11.g r10
    replace r12 := Rep.mono _ s11.g r12
    replace r14 := Rep.mono _ s11.g r14
    replace r15 := Rep.mono _ s11.g r15
    replace r16 := Rep.mono _ s11.g r16
    replace w := w.tr s11
    refine a_nil ?_
    obtain ⟨F15, w7, g7, r17, fz7⟩ := x7.frzE w
    replace r1 := Rep.mono _ g7 r1
    replace r2 := Rep.mono _ g7 r2
    replace r7 := Rep.mono _ g7 r7
    replace r10 := Rep.mono _ g7 r10
    replace r12 := Rep.mono _ g7 r12
    replace r14 := Rep.mono _ g7 r14
    replace r15 := Rep.mono _ g7 r15
    replace r16 := Rep.mono _ g7 r16
    replace w := w7
    refine ⟨F15, ((.ref ob1)), (z2), ((.ref p8)), (ys2), _, rfl, w.f, r7, r17, hW, ?_⟩
    intro z5 hW v10 F16 H14 s12 r18
    replace r1 := Rep.mono _ s12.g r1
    replace r2 := Rep.mono _ s12.g r2
    replace r7 := Rep.mono _ s12.g r7
    replace r10 := Rep.mono _ s12.g r10
    replace r12 := Rep.mono _ s12.g r12
    replace r14 := Rep.mono _ s12.g r14
    replace r15 := Rep.mono _ s12.g r15
    replace r16 := Rep.mono _ s12.g r16
    replace r17 := Rep.mono _ s12.g r17
    replace w := w.tr s12
    refine hN7 _ _ ?_
    refine q_sq fun N8 hN8 => ?_
    refine a_ifE ?_
    refine e_jnT hW (fun b F' H' => b = b ∧ Wf F0 H0 F' H' ∧ Ex F16 F') ?_ ?_
    · intro N9 hN9 hW
      have gx1 : Ex F16 F16 := Ex.rfl'
      refine e_tOr ?_
      refine e_tT ?_
      refine e_op ?_
      obtain ⟨v11, r19, ix6⟩ := ix_2a (K := K) r18 w.f
      refine e_val (v := v11) (ix6 (val_var rfl) val_c) ?_
      refine c_J ?_
      obtain ⟨v12, r20, ix7⟩ := ix_2a (K := K) r12 w.f
      refine a_val (v := v12) (ix7 (val_var rfl) val_c) ?_
      obtain ⟨v13, r21, ix8⟩ := ix_2a (K := K) r14 w.f
      refine a_val (v := v13) (ix8 (val_var rfl) val_c) ?_
      refine a_nil ?_
      refine src_zip r20 r21 w.f (fun a3 a4 T2 => ?_)
      obtain ⟨c4, hW⟩ := hW
      refine w_compG (e := pN) T2 w c4 hW ?_ ?_
      · intro Qy Qn it2 u5 F17 H15 R3 q3 hx3 ru3 hW hy3 hn3
        have r1 := Rep.mono _ q3.g r1
        have r2 := Rep.mono _ q3.g r2
        have r7 := Rep.mono _ q3.g r7
        have r10 := Rep.mono _ q3.g r10
        have r12 := Rep.mono _ q3.g r12
        have r14 := Rep.mono _ q3.g r14
        have r18 := Rep.mono _ q3.g r18
        have r19 := Rep.mono _ q3.g r19
        have r20 := Rep.mono _ q3.g r20
        have r21 := Rep.mono _ q3.g r21
        have w := Wf.id q3.f
        obtain ⟨p9, u6, u7, rfl, h2, rfl, rfl⟩ := ru3
        refine ⟨p9, _, rfl, SqT.of (w.f _ _ h2), rfl, _, _, rfl, _, _, rfl, rfl, ?_⟩
        refine ⟨rfl, ?_⟩
        refine c_yes ?_
        refine e_val (v := (.int ((it2.1 ^^^ it2.2 : Nat) : Int))) (vn_xor (val_var rfl) (val_var rfl)) ?_
        exact hy3 _ _ _ _ w rfl hW
      intro p10 ys3 F18 H16 hp8 s13 x8 hW
      replace r1 := Rep.mono _ s13.g r1
      replace r2 := Rep.mono _ s13.g r2
      replace r7 := Rep.mono _ s13.g r7
      replace r10 := Rep.mono _ s13.g r10
      replace r12 := Rep.mono _ s13.g r12
      replace r14 := Rep.mono _ s13.g r14
      replace r18 := Rep.mono _ s13.g r18
      replace r19 := Rep.mono _ s13.g r19
      replace r20 := Rep.mono _ s13.g r20
      replace r21 := Rep.mono _ s13.g r21
      replace w := w.tr s13
      replace gx1 := Ex.tr gx1 s13.g
      obtain ⟨F19, w8, g8, r22, fz8⟩ := x8.frzE w
      replace r1 := Rep.mono _ g8 r1
      replace r2 := Rep.mono _ g8 r2
      replace r7 := Rep.mono _ g8 r7
      replace r10 := Rep.mono _ g8 r10
      replace r12 := Rep.mono _ g8 r12
      replace r14 := Rep.mono _ g8 r14
      replace r18 := Rep.mono _ g8 r18
      replace r19 := Rep.mono _ g8 r19
      replace r20 := Rep.mono _ g8 r20
      replace r21 := Rep.mono _ g8 r21
      replace w := w8
      replace gx1 := Ex.tr gx1 g8
      refine rv2T (b := decide (z5.1 ≠ ys3)) (c_neD (K := K) (e := (pL pN)) val_c val_c w.f r19 w.f r22) ?_
      refine b_if (fun hc1 => ?_) (fun hc1 => ?_)
      · have hW := ifP hW hc1
        exact hN9 true _ _ ⟨rfl, w, gx1⟩ hW
      · have hW := ifN hW hc1
        obtain ⟨_, rfl, ix9⟩ := ix_2b (K := K) r18 w.f
        obtain ⟨_, rfl, ix10⟩ := ix_2b (K := K) r12 w.f
        obtain ⟨_, rfl, ix11⟩ := ix_2b (K := K) r14 w.f
        refine e_ans (b := decide (z5.2 ≠ (z3.2 ^^^ z4.2))) (t_of (vb_dec (c_neI (ix9 (val_var rfl) val_c) (vn_xor (ix10 (val_var rfl) val_c) (ix11 (val_var rfl) val_c))) n_ne)) ?_
        exact hN9 (decide (z5.2 ≠ (z3.2 ^^^ z4.2))) _ _ ⟨rfl, w, gx1⟩ hW
    intro b1 F20 H17 hI1 hW
    obtain ⟨_, w, gx2⟩ := hI1
    have r1 := Rep.mono _ gx2 r1
    have r2 := Rep.mono _ gx2 r2
    have r7 := Rep.mono _ gx2 r7
    have r10 := Rep.mono _ gx2 r10
    have r12 := Rep.mono _ gx2 r12
    have r14 := Rep.mono _ gx2 r14
    have r18 := Rep.mono _ gx2 r18
    refine bb_if (fun hc2 => ?_) (fun hc2 => ?_)
    · have hW := ifP hW hc2
      refine a_ret (v := (.bl (false))) val_c ?_
      exact hQ _ hW _ _ w
    · have hW := ifN hW hc2
      refine hN8 _ _ ?_
      refine q_sq fun N10 hN10 => ?_
      refine a_asgE ?_
      refine e_call ?_
      refine a_val (v := (.ref ob1)) (val_var rfl) ?_
      refine a_cons ?_
      refine e_op ?_
      refine e_lst ?_
      refine a_val (v := (.int ((0 : Nat) : Int))) val_c ?_
      refine a_nil ?_
      refine n_lstX (e := pN) (xs := [0]) (vs := [(.int ((0 : Nat) : Int))]) (show All pN _ [(.int ((0 : Nat) : Int))] [0] from ⟨rfl, trivial⟩) (show 1 < 1000000 from by decide) w ?_
      intro p11 H18 hp9 s14 x9
      replace r1 := Rep.mono _ s14.g r1
      replace r2 := Rep.mono _ s14.g r2
      replace r7 := Rep.mono _ s14.g r7
      replace r10 := Rep.mono _ s14.g r10
      replace r12 := Rep.mono _ s14.g r12
      replace r14 := Rep.mono _ s14.g r14
      replace r18 := Rep.mono _ s14.g r18
      replace w := w.tr s14
      refine e_val (v := (.int ((half1 : Nat) : Int))) (val_var rfl) ?_
      obtain ⟨F21, w9, g9, r26, fz9⟩ := x9.frzE w
      replace r1 := Rep.mono _ g9 r1
      replace r2 := Rep.mono _ g9 r2
      replace r7 := Rep.mono _ g9 r7
      replace r10 := Rep.mono _ g9 r10
      replace r12 := Rep.mono _ g9 r12
      replace r14 := Rep.mono _ g9 r14
      replace r18 := Rep.mono _ g9 r18
      replace w := w9
      obtain ⟨c5, hW⟩ := hW
      refine n_rep (n := half1) r26 w c5.1 c5.2 ?_
      intro p12 H19 hp10 s15 x10
      replace r1 := Rep.mono _ s15.g r1
      replace r2 := Rep.mono _ s15.g r2
      replace r7 := Rep.mono _ s15.g r7
      replace r10 := Rep.mono _ s15.g r10
      replace r12 := Rep.mono _ s15.g r12
      replace r14 := Rep.mono _ s15.g r14
      replace r18 := Rep.mono _ s15.g r18
      replace r26 := Rep.mono _ s15.g r26
      replace w := w.tr s15
      refine a_nil ?_
      obtain ⟨F22, w10, g10, r27, fz10⟩ := x10.frzE w
      replace r1 := Rep.mono _ g10 r1
      replace r2 := Rep.mono _ g10 r2
      replace r7 := Rep.mono _ g10 r7
      replace r10 := Rep.mono _ g10 r10
      replace r12 := Rep.mono _ g10 r12
      replace r14 := Rep.mono _ g10 r14
      replace r18 := Rep.mono _ g10 r18
      replace r26 := Rep.mono _ g10 r26
      replace w := w10
      refine ⟨F22, ((.ref ob1)), (z2), ((.ref p12)), ((List.replicate half1 [0]).flatten), _, rfl, w.f, r7, r27, hW, ?_⟩
      intro z6 hW v17 F23 H20 s16 r28
      replace r1 := Rep.mono _ s16.g r1
      replace r2 := Rep.mono _ s16.g r2
      replace r7 := Rep.mono _ s16.g r7
      replace r10 := Rep.mono _ s16.g r10
      replace r12 := Rep.mono _ s16.g r12
      replace r14 := Rep.mono _ s16.g r14
      replace r18 := Rep.mono _ s16.g r18
      replace r26 := Rep.mono _ s16.g r26
      replace r27 := Rep.mono _ s16.g r27
      replace w := w.tr s16
      refine hN10 _ _ ?_
      refine q_sq fun N11 hN11 => ?_
      refine a_ifE ?_
      refine e_tT ?_
      refine e_op ?_
      refine e_val (v := v17) (val_var rfl) ?_
      refine e_tup ?_
      refine a_cons ?_
      refine e_op ?_
      refine e_lst ?_
      refine a_val (v := (.int ((0 : Nat) : Int))) val_c ?_
      refine a_nil ?_
      refine n_lstX (e := pN) (xs := [0]) (vs := [(.int ((0 : Nat) : Int))]) (show All pN _ [(.int ((0 : Nat) : Int))] [0] from ⟨rfl, trivial⟩) (show 1 < 1000000 from by decide) w ?_
      intro p13 H21 hp11 s17 x11
      replace r1 := Rep.mono _ s17.g r1
      replace r2 := Rep.mono _ s17.g r2
      replace r7 := Rep.mono _ s17.g r7
      replace r10 := Rep.mono _ s17.g r10
      replace r12 := Rep.mono _ s17.g r12
      replace r14 := Rep.mono _ s17.g r14
      replace r18 := Rep.mono _ s17.g r18
      replace r28 := Rep.mono _ s17.g r28
      replace w := w.tr s17
      refine e_val (v := (.int ((half1 : Nat) : Int))) (val_var rfl) ?_
      obtain ⟨F24, w11, g11, r29, fz11⟩ := x11.frzE w
      replace r1 := Rep.mono _ g11 r1
      replace r2 := Rep.mono _ g11 r2
      replace r7 := Rep.mono _ g11 r7
      replace r10 := Rep.mono _ g11 r10
      replace r12 := Rep.mono _ g11 r12
      replace r14 := Rep.mono _ g11 r14
      replace r18 := Rep.mono _ g11 r18
      replace r28 := Rep.mono _ g11 r28
      replace w := w11
      obtain ⟨c6, hW⟩ := hW
      refine n_rep (n := half1) r29 w c6.1 c6.2 ?_
      intro p14 H22 hp12 s18 x12
      replace r1 := Rep.mono _ s18.g r1
      replace r2 := Rep.mono _ s18.g r2
      replace r7 := Rep.mono _ s18.g r7
      replace r10 := Rep.mono _ s18.g r10
      replace r12 := Rep.mono _ s18.g r12
      replace r14 := Rep.mono _ s18.g r14
      replace r18 := Rep.mono _ s18.g r18
      replace r28 := Rep.mono _ s18.g r28
      replace r29 := Rep.mono _ s18.g r29
      replace w := w.tr s18
      refine a_val (v := (.int ((0 : Nat) : Int))) val_c ?_
      refine a_nil ?_
      obtain ⟨F25, w12, g12, r30, fz12⟩ := x12.frzE w
      replace r1 := Rep.mono _ g12 r1
      replace r2 := Rep.mono _ g12 r2
      replace r7 := Rep.mono _ g12 r7
      replace r10 := Rep.mono _ g12 r10
      replace r12 := Rep.mono _ g12 r12
      replace r14 := Rep.mono _ g12 r14
      replace r18 := Rep.mono _ g12 r18
      replace r28 := Rep.mono _ g12 r28
      replace r29 := Rep.mono _ g12 r29
      replace w := w12
      refine n_tup2 (e := (pL pN)) (f := pN) (x := (List.replicate half1 [0]).flatten) (y := 0) r30 rfl w ?_
      intro p15 F26 H23 s19 r31
      replace r1 := Rep.mono _ s19.g r1
      replace r2 := Rep.mono _ s19.g r2
      replace r7 := Rep.mono _ s19.g r7
      replace r10 := Rep.mono _ s19.g r10
      replace r12 := Rep.mono _ s19.g r12
      replace r14 := Rep.mono _ s19.g r14
      replace r18 := Rep.mono _ s19.g r18
      replace r28 := Rep.mono _ s19.g r28
      replace r29 := Rep.mono _ s19.g r29
      replace r30 := Rep.mono _ s19.g r30
      replace w := w.tr s19
      refine rv2T (b := decide (z6 ≠ ((List.replicate half1 [0]).flatten, 0))) (c_neD (K := K) (e := (pT2 (pL pN) pN)) val_c val_c w.f r28 w.f r31) ?_
      refine b_if (fun hc3 => ?_) (fun hc3 => ?_)
      · have hW := ifP hW hc3
        refine a_ret (v := (.bl (false))) val_c ?_
        exact hQ _ hW _ _ w
      · have hW := ifN hW hc3
        refine hN11 _ _ ?_
        refine q_sq fun N12 hN12 => ?_
        refine a_asgE ?_
        refine e_call ?_
        refine a_val (v := (.ref ob1)) (val_var rfl) ?_
        refine a_cons ?_
        refine e_op ?_
        refine e_op ?_
        refine e_lst ?_
        refine a_val (v := (.int ((0 : Nat) : Int))) val_c ?_
        refine a_nil ?_
        refine n_lstX (e := pN) (xs := [0]) (vs := [(.int ((0 : Nat) : Int))]) (show All pN _ [(.int ((0 : Nat) : Int))] [0] from ⟨rfl, trivial⟩) (show 1 < 1000000 from by decide) w ?_
        intro p16 H24 hp13 s20 x13
        replace r1 := Rep.mono _ s20.g r1
        replace r2 := Rep.mono _ s20.g r2
        replace r7 := Rep.mono _ s20.g r7
        replace r10 := Rep.mono _ s20.g r10
        replace r12 := Rep.mono _ s20.g r12
        replace r14 := Rep.mono _ s20.g r14
        replace r18 := Rep.mono _ s20.g r18
        replace r28 := Rep.mono _ s20.g r28
        replace w := w.tr s20
        refine e_val (v := (.int ((5 : Nat) : Int))) val_c ?_
        obtain ⟨F27, w13, g13, r32, fz13⟩ := x13.frzE w
        replace r1 := Rep.mono _ g13 r1
        replace r2 := Rep.mono _ g13 r2
        replace r7 := Rep.mono _ g13 r7
        replace r10 := Rep.mono _ g13 r10
        replace r12 := Rep.mono _ g13 r12
        replace r14 := Rep.mono _ g13 r14
        replace r18 := Rep.mono _ g13 r18
        replace r28 := Rep.mono _ g13 r28
        replace w := w13
        obtain ⟨c7, hW⟩ := hW
        refine n_rep (n := 5) r32 w c7.1 c7.2 ?_
        intro p17 H25 hp14 s21 x14
        replace r1 := Rep.mono _ s21.g r1
        replace r2 := Rep.mono _ s21.g r2
        replace r7 := Rep.mono _ s21.g r7
        replace r10 := Rep.mono _ s21.g r10
        replace r12 := Rep.mono _ s21.g r12
        replace r14 := Rep.mono _ s21.g r14
        replace r18 := Rep.mono _ s21.g r18
        replace r28 := Rep.mono _ s21.g r28
        replace r32 := Rep.mono _ s21.g r32
        replace w := w.tr s21
        refine n_cutX (lo := none) (hi := (some half1)) r10 (val_var rfl) po_n (po_s (n := half1) (val_var rfl)) w ?_
        intro p18 H26 hp15 s22 x15
        have ne3 := x14.ne hp15
        replace r1 := Rep.mono _ s22.g r1
        replace r2 := Rep.mono _ s22.g r2
        replace r7 := Rep.mono _ s22.g r7
        replace r10 := Rep.mono _ s22.g r10
        replace r12 := Rep.mono _ s22.g r12
        replace r14 := Rep.mono _ s22.g r14
        replace r18 := Rep.mono _ s22.g r18
        replace r28 := Rep.mono _ s22.g r28
        replace r32 := Rep.mono _ s22.g r32
        replace x14 := x14.step s22
        replace w := w.tr s22
        obtain ⟨F28, w14, g14, r33, fz14⟩ := x14.frzE w
        replace r1 := Rep.mono _ g14 r1
        replace r2 := Rep.mono _ g14 r2
        replace r7 := Rep.mono _ g14 r7
        replace r10 := Rep.mono _ g14 r10
        replace r12 := Rep.mono _ g14 r12
        replace r14 := Rep.mono _ g14 r14
        replace r18 := Rep.mono _ g14 r18
        replace r28 := Rep.mono _ g14 r28
        replace r32 := Rep.mono _ g14 r32
        replace x15 := x15.frzO fz14 (Ne.symm ne3) g14
        replace w := w14
        obtain ⟨F29, w15, g15, r34, fz15⟩ := x15.frzE w
        replace r1 := Rep.mono _ g15 r1
        replace r2 := Rep.mono _ g15 r2
        replace r7 := Rep.mono _ g15 r7
        replace r10 := Rep.mono _ g15 r10
        replace r12 := Rep.mono _ g15 r12
        replace r14 := Rep.mono _ g15 r14
        replace r18 := Rep.mono _ g15 r18
        replace r28 := Rep.mono _ g15 r28
        replace r32 := Rep.mono _ g15 r32
        replace r33 := Rep.mono _ g15 r33
        replace w := w15
        obtain ⟨c8, hW⟩ := hW
        refine n_cat r33 r34 w c8 ?_
        intro p19 H27 hp16 s23 x16
        replace r1 := Rep.mono _ s23.g r1
        replace r2 := Rep.mono _ s23.g r2
        replace r7 := Rep.mono _ s23.g r7
        replace r10 := Rep.mono _ s23.g r10
        replace r12 := Rep.mono _ s23.g r12
        replace r14 := Rep.mono _ s23.g r14
        replace r18 := Rep.mono _ s23.g r18
        replace r28 := Rep.mono _ s23.g r28
        replace r32 := Rep.mono _ s23.g r32
        replace r33 := Rep.mono _ s23.g r33
        replace r34 := Rep.mono _ s23.g r34
        replace w := w.tr s23
        refine a_nil ?_
        obtain ⟨F30, w16, g16, r35, fz16⟩ := x16.frzE w
        replace r1 := Rep.mono _ g16 r1
        replace r2 := Rep.mono _ g16 r2
        replace r7 := Rep.mono _ g16 r7
        replace r10 := Rep.mono _ g16 r10
        replace r12 := Rep.mono _ g16 r12
        replace r14 := Rep.mono _ g16 r14
        replace r18 := Rep.mono _ g16 r18
        replace r28 := Rep.mono _ g16 r28
        replace r32 := Rep.mono _ g16 r32
        replace r33 := Rep.mono _ g16 r33
        replace r34 := Rep.mono _ g16 r34
        replace w := w16
        refine ⟨F30, ((.ref ob1)), (z2), ((.ref p19)), (((List.replicate 5 [0]).flatten) ++ (cutT ys1 none (some half1))), _, rfl, w.f, r7, r35, hW, ?_⟩
        intro z7 hW p20 F31 H28 s24 x17
        replace x17 := x17.base w
        replace r1 := Rep.mono _ s24.g r1
        replace r2 := Rep.mono _ s24.g r2
        replace r7 := Rep.mono _ s24.g r7
        replace r10 := Rep.mono _ s24.g r10
        replace r12 := Rep.mono _ s24.g r12
        replace r14 := Rep.mono _ s24.g r14
        replace r18 := Rep.mono _ s24.g r18
        replace r28 := Rep.mono _ s24.g r28
        replace r32 := Rep.mono _ s24.g r32
        replace r33 := Rep.mono _ s24.g r33
        replace r34 := Rep.mono _ s24.g r34
        replace r35 := Rep.mono _ s24.g r35
        replace w := w.tr s24
        obtain ⟨F32, w17, g17, r36, fz17⟩ := x17.frzE w
        replace r1 := Rep.mono _ g17 r1
        replace r2 := Rep.mono _ g17 r2
        replace r7 := Rep.mono _ g17 r7
        replace r10 := Rep.mono _ g17 r10
        replace r12 := Rep.mono _ g17 r12
        replace r14 := Rep.mono _ g17 r14
        replace r18 := Rep.mono _ g17 r18
        replace r28 := Rep.mono _ g17 r28
        replace r32 := Rep.mono _ g17 r32
        replace r33 := Rep.mono _ g17 r33
        replace r34 := Rep.mono _ g17 r34
        replace r35 := Rep.mono _ g17 r35
        replace w := w17
        refine hN12 _ _ ?_
        refine a_retE ?_
        refine e_op ?_
        refine e_val (v := (.ref p20)) (val_var rfl) ?_
        refine e_op ?_
        refine e_op ?_
        refine e_lst ?_
        refine a_val (v := (.int ((0 : Nat) : Int))) val_c ?_
        refine a_nil ?_
        refine n_lstX (e := pN) (xs := [0]) (vs := [(.int ((0 : Nat) : Int))]) (show All pN _ [(.int ((0 : Nat) : Int))] [0] from ⟨rfl, trivial⟩) (show 1 < 1000000 from by decide) w ?_
        intro p21 H29 hp17 s25 x18
        replace r1 := Rep.mono _ s25.g r1
        replace r2 := Rep.mono _ s25.g r2
        replace r7 := Rep.mono _ s25.g r7
        replace r10 := Rep.mono _ s25.g r10
        replace r12 := Rep.mono _ s25.g r12
        replace r14 := Rep.mono _ s25.g r14
        replace r18 := Rep.mono _ s25.g r18
        replace r28 := Rep.mono _ s25.g r28
        replace r36 := Rep.mono _ s25.g r36
        replace w := w.tr s25
        refine e_val (v := (.int ((5 : Nat) : Int))) val_c ?_
        obtain ⟨F33, w18, g18, r37, fz18⟩ := x18.frzE w
        replace r1 := Rep.mono _ g18 r1
        replace r2 := Rep.mono _ g18 r2
        replace r7 := Rep.mono _ g18 r7
        replace r10 := Rep.mono _ g18 r10
        replace r12 := Rep.mono _ g18 r12
        replace r14 := Rep.mono _ g18 r14
        replace r18 := Rep.mono _ g18 r18
        replace r28 := Rep.mono _ g18 r28
        replace r36 := Rep.mono _ g18 r36
        replace w := w18
        obtain ⟨c9, hW⟩ := hW
        refine n_rep (n := 5) r37 w c9.1 c9.2 ?_
        intro p22 H30 hp18 s26 x19
        replace r1 := Rep.mono _ s26.g r1
        replace r2 := Rep.mono _ s26.g r2
        replace r7 := Rep.mono _ s26.g r7
        replace r10 := Rep.mono _ s26.g r10
        replace r12 := Rep.mono _ s26.g r12
        replace r14 := Rep.mono _ s26.g r14
        replace r18 := Rep.mono _ s26.g r18
        replace r28 := Rep.mono _ s26.g r28
        replace r36 := Rep.mono _ s26.g r36
        replace r37 := Rep.mono _ s26.g r37
        replace w := w.tr s26
        obtain ⟨v18, r38, ix12⟩ := ix_2a (K := K) r12 w.f
        refine e_val (v := v18) (ix12 (val_var rfl) val_c) ?_
        obtain ⟨F34, w19, g19, r39, fz19⟩ := x19.frzE w
        replace r1 := Rep.mono _ g19 r1
        replace r2 := Rep.mono _ g19 r2
        replace r7 := Rep.mono _ g19 r7
        replace r10 := Rep.mono _ g19 r10
        replace r12 := Rep.mono _ g19 r12
        replace r14 := Rep.mono _ g19 r14
        replace r18 := Rep.mono _ g19 r18
        replace r28 := Rep.mono _ g19 r28
        replace r36 := Rep.mono _ g19 r36
        replace r37 := Rep.mono _ g19 r37
        replace r38 := Rep.mono _ g19 r38
        replace w := w19
        obtain ⟨c10, hW⟩ := hW
        refine n_cat r39 r38 w c10 ?_
        intro p23 H31 hp19 s27 x20
        replace r1 := Rep.mono _ s27.g r1
        replace r2 := Rep.mono _ s27.g r2
        replace r7 := Rep.mono _ s27.g r7
        replace r10 := Rep.mono _ s27.g r10
        replace r12 := Rep.mono _ s27.g r12
        replace r14 := Rep.mono _ s27.g r14
        replace r18 := Rep.mono _ s27.g r18
        replace r28 := Rep.mono _ s27.g r28
        replace r36 := Rep.mono _ s27.g r36
        replace r37 := Rep.mono _ s27.g r37
        replace r39 := Rep.mono _ s27.g r39
        replace r38 := Rep.mono _ s27.g r38
        replace w := w.tr s27
        obtain ⟨F35, w20, g20, r40, fz20⟩ := x20.frzE w
        replace r1 := Rep.mono _ g20 r1
        replace r2 := Rep.mono _ g20 r2
        replace r7 := Rep.mono _ g20 r7
        replace r10 := Rep.mono _ g20 r10
        replace r12 := Rep.mono _ g20 r12
        replace r14 := Rep.mono _ g20 r14
        replace r18 := Rep.mono _ g20 r18
        replace r28 := Rep.mono _ g20 r28
        replace r36 := Rep.mono _ g20 r36
        replace r37 := Rep.mono _ g20 r37
        replace r39 := Rep.mono _ g20 r39
        replace r38 := Rep.mono _ g20 r38
        replace w := w20
        refine rv2 (z := .bl (decide (z7 = (((List.replicate 5 [0]).flatten) ++ z3.1)))) (c_eqD (K := K) (e := (pL pN)) val_c val_c w.f r36 w.f r40) ?_
        exact hQ _ hW _ _ w
end My
namespace My
open Wk
def cellV (s : List Int) (k : Nat) : Int := if h : k < s.length then s[k] else ((41 * k + 3 : Nat) : Int)
theorem w_cell {s : List Int} {k : Nat} {R : Int → Prop} (h : R (cellV s k)) : W_cell s k R := by
  unfold W_cell
  unfold cellV at h
  by_cases e : k < s.length
  · rw [dif_pos e] at h; rw [if_pos e]; exact ⟨_, List.getElem?_eq_getElem e, h⟩
  · rw [dif_neg e] at h; rw [if_neg e]; exact h
def mixN (c : Int) (k : Nat) : Nat := (((modN c 2147483647) * 48271) + (7919 * k) + 11) % 2147483647
def mixV (c : Int) (k : Nat) : Nat := ((mixN c k * mixN c k % 2147483629) * ((mixN c k * mixN c k % 2147483629 + 48271 * k) + 7)) % 2147483587
theorem w_mix {c : Int} {k : Nat} {R : Nat → Prop} (h : R (mixV c k)) : W_mix c k R := by
  rintro _ rfl
  have b : mixN c k < 2 ^ 64 := Nat.lt_trans (Nat.mod_lt _ (by decide)) (by decide)
  refine ⟨.inl b, ?_⟩
  rintro _ rfl
  exact ⟨.inl (Nat.lt_trans (Nat.mod_lt _ (by decide)) (by decide)), h⟩
end My
namespace My
open Wk PySem
/-! names -/
theorem forW_all {α : Type} {p : α → Prop} [DecidablePred p] {r k : Prop} : ∀ {xs : List α}, (if (∀ x ∈ xs, ¬ p x) then k else r) → forW xs () (fun x _ nx _ => if p x then r else nx ()) (fun _ => k)
  | [], h => by
    rw [if_pos (by simp)] at h; exact h
  | x :: xs, h => by
    show (if p x then r else forW xs () _ _)
    by_cases hp : p x
    · rw [if_pos hp]; rw [if_neg (fun q => q x (by simp) hp)] at h; exact h
    · rw [if_neg hp]
      refine forW_all ?_
      by_cases ha : ∀ y ∈ xs, ¬ p y
      · rw [if_pos ha]; rw [if_pos (fun y hy => by rcases List.mem_cons.mp hy with e | e; exact e ▸ hp; exact ha y e)] at h; exact h
      · rw [if_neg ha]; rw [if_neg (fun q => ha fun y hy => q y (List.mem_cons_of_mem _ hy))] at h; exact h
theorem bT {A B : Prop} (h : A) : (if (true = true) then A else B) := by rw [if_pos rfl]; exact h
theorem bF {A B : Prop} (h : B) : (if (false = true) then A else B) := by rw [if_neg (by decide)]; exact h
theorem jn_of {f : (Bool → Prop) → Prop} {k : Bool → Prop} {b : Bool} (h : k b) (hf : ∀ K : Bool → Prop, K b → f K) : jn f k := hf k h
theorem len_sg (c : Nat) : (sg c).length = 1 := rfl
theorem len_app (x y : Str) : (x ++ y).length = x.length + y.length := Str.length_append x y
theorem cps_lit (s : String) : (Str.ofString s).cps.toList = s.toList.map Char.toNat := PyProof.Rows.signs_ofString s
theorem len_lit (s : String) : (Str.ofString s).length = (s.toList.map Char.toNat).length := by
  show (Str.ofString s).cps.toList.length = _
  rw [cps_lit]
theorem in_letters (c : Nat) : c ∈ (Str.ofString "abcdefghijklmnopqrstuvwxyz").cps.toList ↔ 97 ≤ c ∧ c ≤ 122 := by
  rw [cps_lit, show ("abcdefghijklmnopqrstuvwxyz".toList.map Char.toNat) = List.range' 97 26 from by decide +kernel, List.mem_range'_1]
  omega
theorem in_figures (c : Nat) : c ∈ (Str.ofString "0123456789").cps.toList ↔ 48 ≤ c ∧ c ≤ 57 := by
  rw [cps_lit, show ("0123456789".toList.map Char.toNat) = List.range' 48 10 from by decide +kernel, List.mem_range'_1]
  omega
theorem at_len {t : Str} {i : Nat} (h : i < t.length) : ∃ c, t.cps.toList[i]? = some c := ⟨_, List.getElem?_eq_getElem (l := t.cps.toList) h⟩
def isN (t : Str) : Prop := 1 ≤ t.length ∧ t.length ≤ 6 ∧ (∀ c, t.cps.toList[0]? = some c → 97 ≤ c ∧ c ≤ 122) ∧ ∀ c ∈ t.cps.toList, (97 ≤ c ∧ c ≤ 122) ∨ (48 ≤ c ∧ c ≤ 57)
theorem w_is_name {t : Str} (hl : t.length < 1000000) {R : Bool → Prop} (h1 : isN t → R true) (h0 : ¬ isN t → R false) : W_is_name (An.s t) R := by
  refine jnI ?_
  rw [if_neg (show ¬ ¬ (isA "str" (An.s t) = true) from fun q => q rfl)]
  refine ⟨t, rfl, hl, ?_⟩
  by_cases hb : 1 ≤ t.length ∧ t.length ≤ 6
  · rw [decide_eq_false (fun q => q hb)]; refine bF ?_
    refine ⟨t, rfl, forW_all (p := fun s => (¬ (s ∈ (Str.ofString "abcdefghijklmnopqrstuvwxyz").cps.toList)) ∧ (¬ (s ∈ (Str.ofString "0123456789").cps.toList))) ?_⟩
    by_cases ha : ∀ c ∈ t.cps.toList, (97 ≤ c ∧ c ≤ 122) ∨ (48 ≤ c ∧ c ≤ 57)
    · rw [if_pos (fun c hc q => by
        rcases ha c hc with z | z
        · exact q.1 ((in_letters c).mpr z)
        · exact q.2 ((in_figures c).mpr z))]
      obtain ⟨x, hx⟩ := at_len (t := t) (i := 0) (by omega)
      refine ⟨hl, x, hx, ?_⟩
      by_cases hc : 97 ≤ x ∧ x ≤ 122
      · rw [decide_eq_true ((in_letters x).mpr hc)]
        exact h1 ⟨hb.1, hb.2, fun c e => by rw [hx] at e; cases e; exact hc, ha⟩
      · rw [decide_eq_false (fun q => hc ((in_letters x).mp q))]
        exact h0 fun q => hc (q.2.2.1 x hx)
    · rw [if_neg (fun q => ha fun c hc => ?_)]
      · exact h0 fun q => ha q.2.2.2
      · by_cases z : 97 ≤ c ∧ c ≤ 122
        · exact .inl z
        · by_cases z2 : 48 ≤ c ∧ c ≤ 57
          · exact .inr z2
          · exact absurd ⟨fun y => z ((in_letters c).mp y), fun y => z2 ((in_figures c).mp y)⟩ (q c hc)
  · rw [decide_eq_true hb]; refine bT ?_
    exact h0 fun q => hb ⟨q.1, q.2.1⟩
end My
namespace My
open Wk PySem
/-! drawn names: what they are, and that they are unlike -/
theorem str_ext {x y : Str} (h : x.cps.toList = y.cps.toList) : x = y := by
  cases x; cases y; congr 1; exact Array.toList_inj.mp h
/-- the number that figures write -/
def valD : List Nat → Nat
  | [] => 0
  | c :: cs => (c - 48) * 10 ^ cs.length + valD cs
theorem digit_chr : ∀ k, k < 10 → (Nat.digitChar k).toNat = 48 + k := by decide
theorem valD_core : ∀ (f n : Nat) (ds : List Char), n < f → valD ((Nat.toDigitsCore 10 f n ds).map Char.toNat) = n * 10 ^ ds.length + valD (ds.map Char.toNat)
  | 0, n, ds, h => absurd h (Nat.not_lt_zero _)
  | f + 1, n, ds, h => by
    have hd : (Nat.digitChar (n % 10)).toNat = 48 + n % 10 := digit_chr _ (Nat.mod_lt _ (by decide))
    unfold Nat.toDigitsCore
    by_cases z : n / 10 = 0
    · simp only [z, if_true]
      rw [List.map_cons, valD, hd, List.length_map]
      have : n % 10 = n := by omega
      rw [this, Nat.add_sub_cancel_left]
    · simp only [z, if_false]
      rw [valD_core f (n / 10) _ (by omega), List.map_cons, valD, hd, List.length_map, List.length_cons, Nat.add_sub_cancel_left, Nat.pow_succ]
      have e : n = 10 * (n / 10) + n % 10 := (Nat.div_add_mod n 10).symm
      have : n * 10 ^ ds.length = (n / 10) * (10 ^ ds.length * 10) + n % 10 * 10 ^ ds.length := by
        conv => lhs; rw [e]
        rw [Nat.add_mul, Nat.mul_comm 10, Nat.mul_assoc, Nat.mul_comm 10]
      omega
theorem core_figs : ∀ (f n : Nat) (ds : List Char), (∀ c ∈ ds, 48 ≤ c.toNat ∧ c.toNat ≤ 57) → ∀ c ∈ Nat.toDigitsCore 10 f n ds, 48 ≤ c.toNat ∧ c.toNat ≤ 57
  | 0, n, ds, h => by unfold Nat.toDigitsCore; exact h
  | f + 1, n, ds, h => by
    have hd : (Nat.digitChar (n % 10)).toNat = 48 + n % 10 := digit_chr _ (Nat.mod_lt _ (by decide))
    have m : n % 10 < 10 := Nat.mod_lt _ (by decide)
    have h' : ∀ c ∈ Nat.digitChar (n % 10) :: ds, 48 ≤ c.toNat ∧ c.toNat ≤ 57 := fun c hc => by
      rcases List.mem_cons.mp hc with e | e
      · rw [e, hd]; omega
      · exact h c e
    unfold Nat.toDigitsCore
    by_cases z : n / 10 = 0
    · simp only [z, if_true]; exact h'
    · simp only [z, if_false]; exact core_figs f (n / 10) _ h'
theorem core_len : ∀ (f n : Nat) (ds : List Char) (k : Nat), n < 10 ^ (k + 1) → (Nat.toDigitsCore 10 f n ds).length ≤ k + 1 + ds.length
  | 0, n, ds, k, h => by unfold Nat.toDigitsCore; omega
  | f + 1, n, ds, k, h => by
    unfold Nat.toDigitsCore
    by_cases z : n / 10 = 0
    · simp only [z, if_true, List.length_cons]; omega
    · simp only [z, if_false]
      cases k with
      | zero => omega
      | succ k =>
        have := core_len f (n / 10) (Nat.digitChar (n % 10) :: ds) k (by rw [Nat.pow_succ] at h; omega)
        rw [List.length_cons] at this; omega
theorem strN_list (n : Nat) : (strN n).cps.toList = (Nat.toDigits 10 n).map Char.toNat := by
  show (PySem.Str.ofString (Nat.repr n)).cps.toList = _
  rw [Str.ofString_eq_toList]
  show ((Nat.repr n).toList.map Char.toNat) = _
  rw [show (Nat.repr n).toList = Nat.toDigits 10 n from by unfold Nat.repr; exact String.toList_ofList]
theorem strN_val (n : Nat) : valD (strN n).cps.toList = n := by
  rw [strN_list]
  have := valD_core (n + 1) n [] (Nat.lt_succ_self n)
  show valD ((Nat.toDigitsCore 10 (n + 1) n []).map Char.toNat) = n
  simpa [valD] using this
theorem strN_figs (n : Nat) : ∀ c ∈ (strN n).cps.toList, 48 ≤ c ∧ c ≤ 57 := by
  rw [strN_list]
  intro c hc
  obtain ⟨d, hd, e⟩ := List.mem_map.mp hc
  rw [← e]
  exact core_figs (n + 1) n [] (fun c hc => by cases hc) d hd
theorem strN_lenB {n k : Nat} (h : n < 10 ^ (k + 1)) : (strN n).length ≤ k + 1 := by
  show (strN n).cps.toList.length ≤ _
  rw [strN_list, List.length_map]
  exact core_len (n + 1) n [] k h
theorem strN_inj {a b : Nat} (h : strN a = strN b) : a = b := by rw [← strN_val a, ← strN_val b, h]
def abc : Str := Str.ofString "abcdefghijklmnopqrstuvwxyz"
def someW : Str := Str.ofString "cut x x0 x1 fresh new zero none nil tmp c c0 cut0 cut1 gnd off in out sum store" ++ Str.ofString " i0 i1 s0 s1 n0 n1 o0 o1 net wire a b z y0 t0 w w0 k dead open"
def someL : List Str := Txt.split someW (Str.ofString " ")
theorem words_len : someL.length = 40 := by decide +kernel
def isNB (t : Str) : Bool := decide (1 ≤ t.length) && decide (t.length ≤ 6) && (match t.cps.toList with | [] => false | c :: _ => decide (97 ≤ c) && decide (c ≤ 122)) && t.cps.toList.all fun c => (decide (97 ≤ c) && decide (c ≤ 122)) || (decide (48 ≤ c) && decide (c ≤ 57))
theorem isN_of {t : Str} (h : isNB t = true) : isN t := by
  unfold isNB at h
  simp only [Bool.and_eq_true, decide_eq_true_iff, List.all_eq_true, Bool.or_eq_true] at h
  obtain ⟨⟨⟨h1, h2⟩, h3⟩, h4⟩ := h
  refine ⟨h1, h2, fun c hc => ?_, h4⟩
  cases q : t.cps.toList with
  | nil => rw [q] at hc; cases hc
  | cons d ds =>
    rw [q] at hc h3
    have : d = c := by simpa using hc
    subst this
    simpa using h3
theorem words_isN : ∀ x ∈ someL, isN x := by
  have : (someL.all isNB) = true := by decide +kernel
  intro x hx
  exact isN_of (List.all_eq_true.mp this x hx)
theorem words_nodup : someL.Nodup := by decide +kernel
theorem abc_len : abc.cps.toList.length = 26 := by decide +kernel
theorem abc_let : ∀ c ∈ abc.cps.toList, 97 ≤ c ∧ c ≤ 122 := fun c hc => (in_letters c).mp hc
theorem isN_okS {t : Str} (h : isN t) : okS t := by
  show (t.cps.all (· < 0x110000)) = true
  rw [← Array.all_toList, List.all_eq_true]
  intro c hc
  have := h.2.2.2 c hc
  exact decide_eq_true (show c < 0x110000 by omega)
/-- the drawn name -/
def nameV (c : Int) (k : Nat) : Str := if k < 40 ∧ mixV c 402 % 2 = 0 then someL.getD ((k + mixV c 403) % 40) (Str.ofString "") else sg (abc.cps.toList.getD (mixV c 400 % 26) 0) ++ strN (mixV c 401 % 1000 + 37 * k)
theorem app_list (x y : Str) : (x ++ y).cps.toList = x.cps.toList ++ y.cps.toList := Array.toList_append
theorem mk_isN {a n : Nat} (ha : 97 ≤ a ∧ a ≤ 122) (hn : n < 10000) : isN (sg a ++ strN n) := by
  have e : (sg a ++ strN n).cps.toList = a :: (strN n).cps.toList := by rw [app_list]; rfl
  have sl : (strN n).length ≤ 4 := strN_lenB (k := 3) hn
  have ll : (sg a ++ strN n).length = 1 + (strN n).length := by rw [len_app, len_sg]
  have fg := strN_figs n
  generalize strN n = t at e sl ll fg
  generalize sg a ++ t = u at e ll
  refine ⟨by omega, by omega, fun d hd => ?_, fun d hd => ?_⟩
  · rw [e] at hd
    have : a = d := by simpa using hd
    rw [← this]; exact ha
  · rw [e] at hd
    rcases List.mem_cons.mp hd with z | z
    · rw [z]; exact .inl ha
    · exact .inr (fg d z)
theorem nth_word {i : Nat} (hi : i < 40) : ∃ x, someL[i]? = some x ∧ isN x := by
  have h : i < someL.length := by rw [words_len]; exact hi
  exact ⟨_, List.getElem?_eq_getElem h, words_isN _ (List.getElem_mem h)⟩
theorem nth_let {i : Nat} (hi : i < 26) : ∃ x, abc.cps.toList[i]? = some x ∧ 97 ≤ x ∧ x ≤ 122 := by
  have h : i < abc.cps.toList.length := by rw [abc_len]; exact hi
  exact ⟨_, List.getElem?_eq_getElem h, abc_let _ (List.getElem_mem h)⟩
theorem nameV_isN {c : Int} {k : Nat} (hk : k ≤ 200) : isN (nameV c k) := by
  unfold nameV
  by_cases q : k < 40 ∧ mixV c 402 % 2 = 0
  · rw [if_pos q]
    obtain ⟨x, hx, nx⟩ := nth_word (i := (k + mixV c 403) % 40) (Nat.mod_lt _ (by decide))
    rw [List.getD_eq_getElem?_getD, hx, Option.getD_some]; exact nx
  · rw [if_neg q]
    obtain ⟨x, hx, nx⟩ := nth_let (i := mixV c 400 % 26) (Nat.mod_lt _ (by decide))
    rw [List.getD_eq_getElem?_getD, hx, Option.getD_some]
    have n1 : mixV c 401 % 1000 < 1000 := Nat.mod_lt _ (by decide)
    exact mk_isN nx (by omega)
theorem nameV_inj {c : Int} {j k : Nat} (hj : j < 40) (hk : k < 40) (h : nameV c j = nameV c k) : j = k := by
  unfold nameV at h
  by_cases q : mixV c 402 % 2 = 0
  · rw [if_pos ⟨hj, q⟩, if_pos ⟨hk, q⟩] at h
    have hi : ∀ k : Nat, (k + mixV c 403) % 40 < someL.length := fun k => by rw [words_len]; exact Nat.mod_lt _ (by decide)
    rw [List.getD_eq_getElem?_getD, List.getElem?_eq_getElem (hi j), List.getD_eq_getElem?_getD, List.getElem?_eq_getElem (hi k), Option.getD_some, Option.getD_some] at h
    have := (List.getElem?_inj (j := (k + mixV c 403) % 40) (hi j) words_nodup).mp (by rw [List.getElem?_eq_getElem (hi j), List.getElem?_eq_getElem (hi k), h])
    omega
  · rw [if_neg (fun z => q z.2), if_neg (fun z => q z.2)] at h
    have h2 : (sg _ ++ strN _).cps.toList = (sg _ ++ strN _).cps.toList := congrArg (fun x : Str => x.cps.toList) h
    rw [app_list, app_list] at h2
    have h3 := List.append_cancel_left h2
    have h4 := strN_inj (str_ext h3)
    omega
theorem w_name {c : Int} {k : Nat} (hk : k ≤ 200) {R : Str → Prop} (h : R (nameV c k)) : W_name c k R := by
  rintro l (hl : l = abc) s1 hs1
  subst hl
  have e1 : s1.length + (PySem.Str.ofString " i0 i1 s0 s1 n0 n1 o0 o1 net wire a b z y0 t0 w w0 k dead open").length < 1000000 := by rw [hs1]; decide +kernel
  refine ⟨e1, ?_⟩
  clear e1
  rintro s2 hs2
  have e2 : s2 = someW := by rw [hs2, hs1]; rfl
  subst e2
  clear hs2 hs1
  have fin : ∀ b : Bool, b = decide (k < 40 ∧ mixV c 402 % 2 = 0) → (if b = true then ((someW.length + 2 < 1000000) ∧ W_mix c 403 fun z2 => ∃ x2, (Txt.split someW (Str.ofString " "))[(k + z2) % 40]? = some x2 ∧ R x2) else (W_mix c 400 fun z3 => (abc.length < 1000000) ∧ ∃ c4 : Nat, abc.cps.toList[z3 % 26]? = some c4 ∧ W_mix c 401 fun z4 => (((z4 % 1000) + (37 * k)).log2 < 1920) ∧ ((sg c4).length + (strN ((z4 % 1000) + (37 * k))).length < 1000000) ∧ R ((sg c4) ++ (strN ((z4 % 1000) + (37 * k)))))) := by
    intro b hb
    unfold nameV at h
    by_cases q : k < 40 ∧ mixV c 402 % 2 = 0
    · rw [decide_eq_true q] at hb
      subst hb
      rw [if_pos q] at h
      rw [if_pos rfl]
      refine ⟨by decide +kernel, w_mix ?_⟩
      have hi : (k + mixV c 403) % 40 < someL.length := by rw [words_len]; exact Nat.mod_lt _ (by decide)
      rw [List.getD_eq_getElem?_getD, List.getElem?_eq_getElem hi, Option.getD_some] at h
      exact ⟨_, List.getElem?_eq_getElem hi, h⟩
    · rw [decide_eq_false q] at hb
      subst hb
      rw [if_neg q] at h
      rw [if_neg (by decide)]
      refine w_mix ⟨by decide +kernel, ?_⟩
      have hi : mixV c 400 % 26 < abc.cps.toList.length := by rw [abc_len]; exact Nat.mod_lt _ (by decide)
      rw [List.getD_eq_getElem?_getD, List.getElem?_eq_getElem hi, Option.getD_some] at h
      refine ⟨_, List.getElem?_eq_getElem hi, w_mix ?_⟩
      have n1 : mixV c 401 % 1000 < 1000 := Nat.mod_lt _ (by decide)
      have sl : (strN (mixV c 401 % 1000 + 37 * k)).length ≤ 4 := strN_lenB (k := 3) (by omega)
      refine ⟨?_, ?_, h⟩
      · by_cases z : mixV c 401 % 1000 + 37 * k = 0
        · rw [z]; decide
        · exact Nat.lt_trans ((Nat.log2_lt z).mpr (show _ < 2 ^ 14 by omega)) (by decide)
      · rw [len_sg]; omega
  refine jnI ?_
  by_cases q : k < 40
  · rw [if_pos q]
    refine w_mix ?_
    generalize mixV c 402 % 2 = zz at fin
    exact fin _ (dec_iff ⟨fun z => ⟨q, z⟩, fun z => z.2⟩)
  · rw [if_neg q]
    exact fin false (decide_eq_false fun z => q z.1).symm
end My
namespace My
open Wk PySem
/-! nets: how they are made -/
abbrev NetV := List (Str × WireV) × List Str × List Str × List (Str × Bool)
abbrev RowsS := List (Str × List Str)
abbrev RowsE := List (Str × Str)
section
variable {α β : Type}
theorem enumT_snoc (xs : List α) (x : α) : enumT (xs ++ [x]) = enumT xs ++ [(xs.length, x)] := by
  unfold enumT
  rw [List.length_append, List.length_singleton, List.range_succ, List.zip_append (by rw [List.length_range])]
  rfl
theorem enumT_map (xs : List α) (f : α → β) : (enumT xs).map (fun p => f p.2) = xs.map f := by
  rw [show (fun p : Nat × α => f p.2) = f ∘ (·.2) from rfl, ← List.map_map, enumT_snd]
theorem valT_some_mem {m : List (Str × α)} {n : Str} {x : α} (h : valT m n = some x) : (n, x) ∈ m := by
  induction m with
  | nil => cases h
  | cons q m ih =>
    rw [valT_cons] at h
    by_cases e : q.1 = n
    · rw [if_pos e] at h; cases h; subst e; exact List.mem_cons_self ..
    · rw [if_neg e] at h; exact List.mem_cons_of_mem _ (ih h)
theorem valT_mem {m : List (Str × α)} (nd : (m.map (·.1)).Nodup) {n : Str} {x : α} (h : (n, x) ∈ m) : valT m n = some x := by
  induction m with
  | nil => cases h
  | cons q m ih =>
    rw [List.map_cons, List.nodup_cons] at nd
    rw [valT_cons]
    rcases List.mem_cons.mp h with e | e
    · subst e; rw [if_pos rfl]
    · rw [if_neg (fun z => nd.1 (by rw [z]; exact List.mem_map.mpr ⟨_, e, rfl⟩))]
      exact ih nd.2 e
theorem nodup_sub_len [DecidableEq α] : ∀ {l S : List α}, l.Nodup → (∀ x ∈ l, x ∈ S) → l.length ≤ S.length
  | [], _, _, _ => Nat.zero_le _
  | x :: l, S, nd, h => by
    rw [List.nodup_cons] at nd
    have hx := h x (List.mem_cons_self ..)
    have := nodup_sub_len (l := l) (S := S.erase x) nd.2 fun y hy => (List.mem_erase_of_ne (fun e : y = x => nd.1 (by rw [← e]; exact hy))).mpr (h y (List.mem_cons_of_mem _ hy))
    rw [List.length_erase_of_mem hx] at this
    have := List.length_pos_of_mem hx
    rw [List.length_cons]; omega
theorem filter_lt {p q : α → Bool} : ∀ {l : List α}, (∀ x ∈ l, p x = true → q x = true) → (∃ x ∈ l, q x = true ∧ p x = false) → (l.filter p).length < (l.filter q).length
  | [], _, ⟨x, hx, _⟩ => by cases hx
  | y :: l, h, ⟨x, hx, h1, h2⟩ => by
    have hl : ∀ z ∈ l, p z = true → q z = true := fun z hz => h z (List.mem_cons_of_mem _ hz)
    have le : (l.filter p).length ≤ (l.filter q).length := by
      clear h hx h1 h2
      induction l with
      | nil => exact Nat.le_refl _
      | cons z l ih =>
        have ih := ih fun w hw => hl w (List.mem_cons_of_mem _ hw)
        have hz := hl z (List.mem_cons_self ..)
        rw [List.filter_cons, List.filter_cons]
        by_cases a : p z = true
        · rw [if_pos a, if_pos (hz a), List.length_cons, List.length_cons]; omega
        · rw [if_neg a]
          by_cases b : q z = true
          · rw [if_pos b, List.length_cons]; omega
          · rw [if_neg b]; exact ih
    rw [List.filter_cons, List.filter_cons]
    rcases List.mem_cons.mp hx with e | e
    · subst e
      rw [if_neg (by rw [h2]; decide), if_pos h1, List.length_cons]; omega
    · have := filter_lt hl ⟨x, e, h1, h2⟩
      by_cases a : p y = true
      · rw [if_pos a, if_pos (h y (List.mem_cons_self ..) a), List.length_cons, List.length_cons]; omega
      · rw [if_neg a]
        by_cases b : q y = true
        · rw [if_pos b, List.length_cons]; omega
        · rw [if_neg b]; exact this
end
def inAll (l : List Str) : List (Str × WireV) := (enumT l).map fun p => (p.2, .inl (p.2, p.1))
def sumAll (l : RowsS) : List (Str × WireV) := l.map fun p => (p.1, .inr (.inl p))
def stAll (l : RowsE) : List (Str × WireV) := (enumT l).map fun p => (p.2.1, .inr (.inr (p.2.1, p.2.2, p.1)))
def allOf (a : List Str) (b : RowsS) (c : RowsE) : List (Str × WireV) := inAll a ++ sumAll b ++ stAll c
def sumN (b : RowsS) : List Str := b.map (·.1)
def keysOf (a : List Str) (b : RowsS) (c : RowsE) : List Str := a ++ sumN b ++ c.map (·.1)
theorem in_keys (a : List Str) : (inAll a).map (·.1) = a := by
  unfold inAll
  rw [List.map_map]
  exact (enumT_map a id).trans (List.map_id a)
theorem st_keys (c : RowsE) : (stAll c).map (·.1) = c.map (·.1) := by
  unfold stAll
  rw [List.map_map]
  exact enumT_map c (·.1)
theorem sum_keys (b : RowsS) : (sumAll b).map (·.1) = sumN b := by
  unfold sumAll sumN
  rw [List.map_map]; rfl
theorem all_keys (a : List Str) (b : RowsS) (c : RowsE) : (allOf a b c).map (·.1) = keysOf a b c := by
  unfold allOf keysOf
  rw [List.map_append, List.map_append, in_keys, sum_keys, st_keys]
theorem inAll_snoc (a : List Str) (n : Str) : inAll (a ++ [n]) = inAll a ++ [(n, .inl (n, a.length))] := by unfold inAll; rw [enumT_snoc, List.map_append]; rfl
theorem stAll_snoc (c : RowsE) (p : Str × Str) : stAll (c ++ [p]) = stAll c ++ [(p.1, .inr (.inr (p.1, p.2, c.length)))] := by unfold stAll; rw [enumT_snoc, List.map_append]; rfl
theorem inAll_len (a : List Str) : (inAll a).length = a.length := by unfold inAll; rw [List.length_map, enumT_len]
theorem stAll_len (c : RowsE) : (stAll c).length = c.length := by unfold stAll; rw [List.length_map, enumT_len]
theorem allOf_len (a : List Str) (b : RowsS) (c : RowsE) : (allOf a b c).length = a.length + b.length + c.length := by
  unfold allOf; rw [List.length_append, List.length_append, inAll_len, stAll_len]; unfold sumAll; rw [List.length_map]
def readsOf (b : RowsS) (c : RowsE) (d : List Str) : List Str := b.flatMap (·.2) ++ c.map (·.2) ++ d
/-- a net that is let by -/
structure NetOk (a : List Str) (b : RowsS) (c : RowsE) (d : List Str) : Prop where
  na : a.length ≤ 6
  nb : b.length ≤ 40
  nc : c.length ≤ 16
  nd : d.length ≤ 6
  nw : ∀ p ∈ b, p.2.length ≤ 24
  nm : ∀ x ∈ keysOf a b c, isN x
  un : (keysOf a b c).Nodup
  rd : ∀ x ∈ readsOf b c d, x ∈ keysOf a b c
  ac : ∃ rk : Str → Nat, ∀ p ∈ b, ∀ w ∈ p.2, w ∈ sumN b → rk w < rk p.1
def kindV : WireV → Str
  | .inl _ => Str.ofString "in"
  | .inr (.inl _) => Str.ofString "sum"
  | .inr (.inr _) => Str.ofString "store"
theorem w_kind {w : WireV} {R : Str → Prop} (h : R (kindV w)) : W_P_kind w R := match w, h with
  | .inl _, h => h
  | .inr (.inl _), h => h
  | .inr (.inr _), h => h
def needsV : WireV → List Str
  | .inr (.inl x) => x.2
  | _ => []
theorem w_needs {w : WireV} {R : List Str → Prop} (h : R (needsV w)) : W_P_needs w R := match w, h with
  | .inl _, h => h
  | .inr (.inl _), h => h
  | .inr (.inr _), h => h
theorem w_of_kind {all : List (Str × WireV)} {word : Str} (hl : all.length < 1000000) {R : List WireV → Prop} (h : R ((all.map (·.2)).filter fun w => decide (kindV w = word))) : W_Net_of_kind all word R :=
  ⟨hl, compW_filter (fun w => decide (kindV w = word)) (fun w _ kk h1 h0 => w_kind (by
    by_cases q : kindV w = word
    · rw [if_pos q]; exact h1 (decide_eq_true q)
    · rw [if_neg q]; exact h0 (decide_eq_false q))) h⟩
theorem kind_ne1 : ¬ (Str.ofString "in" = Str.ofString "sum") := by decide +kernel
theorem kind_ne2 : ¬ (Str.ofString "in" = Str.ofString "store") := by decide +kernel
theorem kind_ne3 : ¬ (Str.ofString "sum" = Str.ofString "in") := by decide +kernel
theorem kind_ne4 : ¬ (Str.ofString "sum" = Str.ofString "store") := by decide +kernel
theorem kind_ne5 : ¬ (Str.ofString "store" = Str.ofString "in") := by decide +kernel
theorem kind_ne6 : ¬ (Str.ofString "store" = Str.ofString "sum") := by decide +kernel
theorem kinds_of (a : List Str) (b : RowsS) (c : RowsE) (word : Str) : ((allOf a b c).map (·.2)).filter (fun w => decide (kindV w = word)) = (if Str.ofString "in" = word then (inAll a).map (·.2) else []) ++ (if Str.ofString "sum" = word then (sumAll b).map (·.2) else []) ++ (if Str.ofString "store" = word then (stAll c).map (·.2) else []) := by
  have one : ∀ (l : List (Str × WireV)) (k : Str), (∀ p ∈ l, kindV p.2 = k) → (l.map (·.2)).filter (fun w => decide (kindV w = word)) = if k = word then l.map (·.2) else [] := by
    intro l k hk
    by_cases q : k = word
    · rw [if_pos q]
      refine List.filter_eq_self.mpr fun w hw => ?_
      obtain ⟨p, hp, e⟩ := List.mem_map.mp hw
      rw [← e, hk p hp]; exact decide_eq_true q
    · rw [if_neg q]
      refine List.filter_eq_nil_iff.mpr fun w hw => ?_
      obtain ⟨p, hp, e⟩ := List.mem_map.mp hw
      rw [← e, hk p hp, decide_eq_false q]; exact fun z => by cases z
  unfold allOf
  rw [List.map_append, List.map_append, List.filter_append, List.filter_append, one (inAll a) (Str.ofString "in"), one (sumAll b) (Str.ofString "sum"), one (stAll c) (Str.ofString "store")]
  · intro p hp; obtain ⟨q, _, e⟩ := List.mem_map.mp (show p ∈ List.map _ _ from hp); rw [← e]; rfl
  · intro p hp; obtain ⟨q, _, e⟩ := List.mem_map.mp (show p ∈ List.map _ _ from hp); rw [← e]; rfl
  · intro p hp; obtain ⟨q, _, e⟩ := List.mem_map.mp (show p ∈ List.map _ _ from hp); rw [← e]; rfl
section
variable {a : List Str} {b : RowsS} {c : RowsE} {d : List Str}
theorem w_kind_in (hl : (allOf a b c).length < 1000000) {R : List WireV → Prop} (h : R ((inAll a).map (·.2))) : W_Net_of_kind (allOf a b c) (Str.ofString "in") R := w_of_kind hl (by
  rw [kinds_of, if_pos rfl, if_neg kind_ne3, if_neg kind_ne5, List.append_nil, List.append_nil]; exact h)
theorem w_kind_sum (hl : (allOf a b c).length < 1000000) {R : List WireV → Prop} (h : R ((sumAll b).map (·.2))) : W_Net_of_kind (allOf a b c) (Str.ofString "sum") R := w_of_kind hl (by
  rw [kinds_of, if_neg kind_ne1, if_pos rfl, if_neg kind_ne6, List.append_nil, List.nil_append]; exact h)
theorem w_kind_store (hl : (allOf a b c).length < 1000000) {R : List WireV → Prop} (h : R ((stAll c).map (·.2))) : W_Net_of_kind (allOf a b c) (Str.ofString "store") R := w_of_kind hl (by
  rw [kinds_of, if_neg kind_ne2, if_neg kind_ne4, if_pos rfl, List.nil_append, List.nil_append]; exact h)
theorem NetOk.sml (N : NetOk a b c d) : (allOf a b c).length < 1000000 := by
  have := N.na; have := N.nb; have := N.nc
  rw [allOf_len]; omega
theorem flat_len {b : RowsS} (h : ∀ p ∈ b, p.2.length ≤ 24) : (b.flatMap (·.2)).length ≤ 24 * b.length := by
  induction b with
  | nil => exact Nat.zero_le _
  | cons p b ih =>
    have := ih fun q hq => h q (List.mem_cons_of_mem _ hq)
    have := h p (List.mem_cons_self ..)
    rw [List.flatMap_cons, List.length_append, List.length_cons]; omega
theorem w_readings (N : NetOk a b c d) {R : List Str → Prop} (h : R (readsOf b c d)) : W_Net_readings (allOf a b c) d R := by
  have hb := N.nb; have hc := N.nc; have hd := N.nd
  refine w_kind_sum N.sml ?_
  have e : (sumAll b).map (·.2) = b.map (fun p => (Sum.inr (Sum.inl p) : WireV)) := by unfold sumAll; rw [List.map_map]; rfl
  rw [e]
  refine forW_ind (fun pre s => ∃ pb : RowsS, pre = pb.map (fun p => (Sum.inr (Sum.inl p) : WireV)) ∧ s = pb.flatMap (·.2)) ⟨[], rfl, rfl⟩ (fun pre x post s nx bk es ⟨pb, e1, e2⟩ hn _ => ?_) fun s ⟨pb, e1, e2⟩ => ?_
  · have hx : x ∈ b.map (fun p => (Sum.inr (Sum.inl p) : WireV)) := by rw [es]; simp
    obtain ⟨p, hp, ex⟩ := List.mem_map.mp hx
    subst ex e1 e2
    have mm : b.map (fun p => (Sum.inr (Sum.inl p) : WireV)) = (pb ++ [p]).map (fun p => (Sum.inr (Sum.inl p) : WireV)) ++ post := by rw [es, List.map_append]; simp
    have inj : ∀ {l l' : RowsS} {post : List WireV}, l.map (fun p => (Sum.inr (Sum.inl p) : WireV)) = l'.map (fun p => (Sum.inr (Sum.inl p) : WireV)) ++ post → ∀ q ∈ l', q ∈ l := fun {l l' post} h q hq => by
      have : (Sum.inr (Sum.inl q) : WireV) ∈ l.map (fun p => (Sum.inr (Sum.inl p) : WireV)) := by rw [h]; exact List.mem_append_left _ (List.mem_map.mpr ⟨q, hq, rfl⟩)
      obtain ⟨r, hr, e⟩ := List.mem_map.mp this
      have : r = q := Sum.inl.inj (Sum.inr.inj e)
      rw [← this]; exact hr
    have ln : (pb ++ [p]).length ≤ b.length := by
      have := congrArg List.length mm
      rw [List.length_append, List.length_map, List.length_map] at this; omega
    have fl := flat_len (b := pb ++ [p]) fun q hq => N.nw q (inj mm q hq)
    rw [List.flatMap_append, List.length_append] at fl
    refine w_needs ⟨?_, hn _ ⟨pb ++ [p], by rw [List.map_append]; rfl, by rw [List.flatMap_append]; simp [needsV]⟩⟩
    show (pb.flatMap (·.2)).length + p.2.length < 1000000
    have : ([p].flatMap (·.2)).length = p.2.length := by simp
    omega
  · have : b = pb := by
      have inj : Function.Injective (fun p : Str × List Str => (Sum.inr (Sum.inl p) : WireV)) := fun p q e => Sum.inl.inj (Sum.inr.inj e)
      exact (List.map_inj_right fun x y e => inj e).mp e1
    subst this e2
    have fl := flat_len N.nw
    refine w_kind_store N.sml ⟨by rw [List.length_map, stAll_len]; omega, compW_map (fun w => (wWire w).getD (Str.ofString "")) (fun w hw kk hk => ?_) ?_⟩
    · obtain ⟨p, hp, ew⟩ := List.mem_map.mp hw
      obtain ⟨q, _, ep⟩ := List.mem_map.mp (show p ∈ List.map _ _ from hp)
      subst ep ew
      exact ⟨_, rfl, hk⟩
    · have e3 : ((stAll c).map (·.2)).map (fun w => (wWire w).getD (Str.ofString "")) = c.map (·.2) := by
        unfold stAll
        rw [List.map_map, List.map_map]
        exact enumT_map c (·.2)
      rw [e3]
      refine ⟨by rw [List.length_map]; omega, by rw [List.length_append, List.length_map]; omega, h⟩
theorem mem_all_name {n : Str} {w : WireV} (h : (n, w) ∈ allOf a b c) : wName w = n := by
  unfold allOf at h
  rcases List.mem_append.mp h with h | h
  · rcases List.mem_append.mp h with h | h
    · obtain ⟨q, _, e⟩ := List.mem_map.mp (show _ ∈ List.map _ _ from h); cases e; rfl
    · obtain ⟨q, _, e⟩ := List.mem_map.mp (show _ ∈ List.map _ _ from h); cases e; rfl
  · obtain ⟨q, _, e⟩ := List.mem_map.mp (show _ ∈ List.map _ _ from h); cases e; rfl
theorem has_key {n : Str} : hasT (allOf a b c) n = true ↔ n ∈ keysOf a b c := by rw [hasT_iff, all_keys]
theorem key_val {n : Str} (h : n ∈ keysOf a b c) : ∃ w, valT (allOf a b c) n = some w := by
  have := has_key.mpr h
  unfold hasT at this
  cases q : valT (allOf a b c) n with
  | none => rw [q] at this; cases this
  | some x => exact ⟨x, rfl⟩
theorem sum_val (un : (keysOf a b c).Nodup) {n : Str} {ws : List Str} (h : (n, ws) ∈ b) : valT (allOf a b c) n = some (.inr (.inl (n, ws))) := by
  refine valT_mem (by rw [all_keys]; exact un) ?_
  unfold allOf
  exact List.mem_append_left _ (List.mem_append_right _ (List.mem_map.mpr ⟨_, h, rfl⟩))
theorem mem_sumN {n : Str} (h : n ∈ sumN b) : ∃ ws, (n, ws) ∈ b := by
  obtain ⟨p, hp, e⟩ := List.mem_map.mp (show n ∈ List.map _ _ from h)
  exact ⟨p.2, by rw [← e]; exact hp⟩
theorem in_sumN {n : Str} {ws : List Str} (h : (n, ws) ∈ b) : n ∈ sumN b := List.mem_map.mpr ⟨_, h, rfl⟩
theorem sum_key {n : Str} (h : n ∈ sumN b) : n ∈ keysOf a b c := List.mem_append_left _ (List.mem_append_right _ h)
theorem kind_sum (un : (keysOf a b c).Nodup) {n : Str} {w : WireV} (h : valT (allOf a b c) n = some w) : kindV w = Str.ofString "sum" ↔ n ∈ sumN b := by
  constructor
  · intro k
    have m := valT_some_mem h
    unfold allOf at m
    rcases List.mem_append.mp m with m | m
    · rcases List.mem_append.mp m with m | m
      · obtain ⟨q, _, e⟩ := List.mem_map.mp (show _ ∈ List.map _ _ from m); cases e; exact absurd k kind_ne1
      · obtain ⟨q, hq, e⟩ := List.mem_map.mp (show _ ∈ List.map _ _ from m); cases e; exact List.mem_map.mpr ⟨_, hq, rfl⟩
    · obtain ⟨q, _, e⟩ := List.mem_map.mp (show _ ∈ List.map _ _ from m); cases e; exact absurd k kind_ne6
  · intro k
    obtain ⟨ws, hw⟩ := mem_sumN k
    have := sum_val un hw
    rw [h] at this; cases this; rfl
theorem rd_sum (N : NetOk a b c d) {n : Str} {ws : List Str} (h : (n, ws) ∈ b) {x : Str} (hx : x ∈ ws) : x ∈ keysOf a b c := N.rd x (List.mem_append_left _ (List.mem_append_left _ (List.mem_flatMap.mpr ⟨_, h, hx⟩)))
theorem rd_st (N : NetOk a b c d) {p : Str × Str} (h : p ∈ c) : p.2 ∈ keysOf a b c := N.rd _ (List.mem_append_left _ (List.mem_append_right _ (List.mem_map.mpr ⟨_, h, rfl⟩)))
theorem rd_out (N : NetOk a b c d) {x : Str} (h : x ∈ d) : x ∈ keysOf a b c := N.rd _ (List.mem_append_right _ h)
theorem w_wire_of (nm : ∀ x ∈ keysOf a b c, isN x) {n : Str} (h : n ∈ keysOf a b c) {R : WireV → Prop} (k : ∀ w, valT (allOf a b c) n = some w → R w) : W_Net_wire_of (allOf a b c) n R := by
  have hn := nm n h
  have hl : n.length < 1000000 := by have := hn.2.1; omega
  obtain ⟨w, hw⟩ := key_val h
  refine jnI (w_is_name hl (fun _ => ?_) fun q => absurd hn q)
  rw [if_pos rfl, has_key.mpr h]
  exact ⟨w, hw, k w hw⟩
/-- sums laid in an order -/
structure Laid (b : RowsS) (line : List Str) (laid : List (Str × Bool)) : Prop where
  nd : line.Nodup
  sub : ∀ x ∈ line, x ∈ sumN b
  has : ∀ x, hasT laid x = true ↔ x ∈ line
  len : laid.length ≤ line.length
  cl : ∀ pre n post ws, line = pre ++ n :: post → (n, ws) ∈ b → ∀ w ∈ ws, w ∈ sumN b → w ∈ pre
theorem Laid.snoc {line : List Str} {laid : List (Str × Bool)} (L : Laid b line laid) {n : Str} (hn : n ∉ line) (hs : n ∈ sumN b) (hw : ∀ ws, (n, ws) ∈ b → ∀ w ∈ ws, w ∈ sumN b → w ∈ line) : Laid b (line ++ [n]) (putT laid n true) := by
  refine ⟨?_, fun x hx => ?_, fun x => ?_, ?_, fun pre m post ws e hm w hx hy => ?_⟩
  · rw [List.nodup_append]
    refine ⟨L.nd, by simp, fun x hx y hy e => ?_⟩
    rw [List.mem_singleton.mp hy] at e; exact hn (e ▸ hx)
  · rcases List.mem_append.mp hx with g | g
    · exact L.sub x g
    · rw [List.mem_singleton.mp g]; exact hs
  · rw [hasT_putT, List.mem_append, List.mem_singleton, Bool.or_eq_true, decide_eq_true_iff, L.has]
    exact ⟨fun h => h.elim (fun q => .inr q.symm) .inl, fun h => h.elim .inr fun q => .inl q.symm⟩
  · rw [List.length_append]; exact Nat.le_trans putT_len (Nat.succ_le_succ L.len)
  · rcases List.eq_nil_or_concat post with z | ⟨post', y, z⟩
    · subst z
      obtain ⟨e1, e2⟩ := List.append_inj' e rfl
      cases e2
      subst e1
      exact hw ws hm w hx hy
    · rw [List.concat_eq_append] at z
      subst z
      have e' : line ++ [n] = (pre ++ m :: post') ++ [y] := by rw [e]; simp
      obtain ⟨e1, _⟩ := List.append_inj' e' rfl
      exact L.cl pre m post' ws e1 hm w hx hy
theorem okV_of (nm : ∀ x ∈ keysOf a b c, isN x) {l : List Str} (h : ∀ x ∈ l, x ∈ keysOf a b c) : okV (pL pS) l := fun x hx => isN_okS (nm x (h x hx))
theorem okV_nil : okV (pL pS) ([] : List Str) := fun x hx => by cases hx
theorem w_lay_out (N : NetOk a b c d) {line : List Str} {laid : List (Str × Bool)} (L : Laid b line laid) {first : Str} (hf : first ∈ sumN b) {R : List Str × List (Str × Bool) → Prop} (h : ∀ line' laid', Laid b line' laid' → (∀ x ∈ line, x ∈ line') → first ∈ line' → R (line', laid')) : W_Net_lay_out (allOf a b c) line laid first R := by
  obtain ⟨rk, hrk⟩ := N.ac
  have sl : (sumN b).length ≤ 40 := by unfold sumN; rw [List.length_map]; exact N.nb
  refine whileW_ind (fun s : List Str × List (Str × Bool) × List Str => Laid b s.2.2 s.2.1 ∧ (first ∈ s.1 ∨ first ∈ s.2.2) ∧ ((s.1 = [first] ∧ first ∈ s.2.2) ∨ ∀ x ∈ s.1, x ∉ s.2.2) ∧ (∀ x ∈ s.1, x ∈ sumN b) ∧ s.1.Pairwise (fun x y => rk y < rk x) ∧ ∀ x ∈ line, x ∈ s.2.2)
    (fun s => 2 * ((sumN b).filter fun x => !decide (x ∈ s.2.2) && !decide (x ∈ s.1)).length + s.1.length) ⟨L, .inl (List.mem_cons_self ..), ?_, fun x hx => by rw [List.mem_singleton.mp hx]; exact hf, List.pairwise_singleton _ _, fun x hx => hx⟩ ?_
  · by_cases q : first ∈ line
    · exact .inl ⟨rfl, q⟩
    · exact .inr fun x hx => by rw [List.mem_singleton.mp hx]; exact q
  rintro ⟨path, lad, lin⟩ nx ⟨(I1 : Laid b lin lad), (I2 : first ∈ path ∨ first ∈ lin), (I3 : (path = [first] ∧ first ∈ lin) ∨ ∀ x ∈ path, x ∉ lin), (I4 : ∀ x ∈ path, x ∈ sumN b), (I5 : path.Pairwise (fun x y => rk y < rk x)), (I6 : ∀ x ∈ line, x ∈ lin)⟩ hx
  refine ⟨⟨okV_of N.nm fun x hx => sum_key (I4 x hx), okV_nil⟩, ?_⟩
  by_cases hp : path = []
  · rw [decide_eq_false (fun z => z hp)]
    refine bF ?_
    refine h lin lad I1 I6 (I2.resolve_left fun z => ?_)
    rw [hp] at z; cases z
  · rw [decide_eq_true (show path ≠ [] from hp)]
    refine bT ?_
    obtain ⟨init, here, epath⟩ : ∃ i y, path = i ++ [y] := by
      rcases List.eq_nil_or_concat path with z | ⟨i, y, z⟩
      · exact absurd z hp
      · exact ⟨i, y, by rw [z, List.concat_eq_append]⟩
    subst epath
    have hs : here ∈ sumN b := I4 here (by simp)
    obtain ⟨ws, hws⟩ := mem_sumN hs
    have hlad : lad.length < 1000000 := by
      have := nodup_sub_len I1.nd I1.sub; have := I1.len; omega
    have hlin : lin.length < 1000000 := by
      have := nodup_sub_len I1.nd I1.sub; omega
    have ndp : (init ++ [here]).Nodup := I5.imp fun {x y} h e => by rw [e] at h; omega
    have hpath : (init ++ [here]).length < 1000000 := by
      have := nodup_sub_len ndp I4; omega
    have dl : (init ++ [here]).dropLast = init := List.dropLast_concat
    refine ⟨here, List.getLast?_concat, _, sum_val N.un hws, ?_⟩
    refine w_needs ⟨?_, ?_⟩
    · have := N.nw _ hws
      show ws.length < 1000000
      have : (here, ws).2.length ≤ 24 := this
      exact Nat.lt_of_le_of_lt this (by decide)
    have hhere : ∀ y : Str, y ∈ (needsV (.inr (.inl (here, ws)))).filter (fun n => decide (n ∈ sumN b) && !hasT lad n) ↔ y ∈ ws ∧ y ∈ sumN b ∧ y ∉ lin := fun y => by
      rw [List.mem_filter]
      show y ∈ ws ∧ _ ↔ _
      rw [Bool.and_eq_true, decide_eq_true_iff, Bool.not_eq_true', ← Bool.not_eq_true, I1.has]
    refine compW_filter (fun n => decide (n ∈ sumN b) && !hasT lad n) (fun n hn kk h1 h0 => ?_) ?_
    · have hk : n ∈ keysOf a b c := rd_sum N hws hn
      obtain ⟨w, hw⟩ := key_val hk
      refine jnI ⟨w, hw, w_kind ?_⟩
      by_cases q : n ∈ sumN b
      · rw [if_pos ((kind_sum N.un hw).mpr q)]
        by_cases z : hasT lad n = true
        · rw [decide_eq_false (fun y => y z)]; refine bF (h0 ?_); rw [z]; simp
        · rw [decide_eq_true z]; refine bT (h1 ?_); rw [decide_eq_true q]; simpa using z
      · rw [if_neg (fun z => q ((kind_sum N.un hw).mp z))]
        refine bF (h0 ?_); rw [decide_eq_false q]; rfl
    generalize hleft : (needsV (.inr (.inl (here, ws)))).filter (fun n => decide (n ∈ sumN b) && !hasT lad n) = left at hhere
    by_cases hh : hasT lad here = true
    · -- it is laid already
      have hin : here ∈ lin := (I1.has here).mp hh
      obtain ⟨epth, ef⟩ : init ++ [here] = [first] ∧ first ∈ lin := I3.resolve_right fun z => z here (by simp) hin
      have ei : init = [] := by
        have := congrArg List.length epth
        rw [List.length_append] at this
        exact List.eq_nil_of_length_eq_zero (by simp at this; exact List.length_eq_zero_iff.mpr this)
      refine jnI ?_
      rw [if_pos hh]
      refine bT ⟨hp, ?_⟩
      rw [if_neg (fun z => z hh), dl, ei]
      refine hx _ ⟨I1, .inr ef, .inr (fun x hx => by cases hx), (fun x hx => by cases hx), List.Pairwise.nil, I6⟩ ?_
      have ef2 : first = here := by rw [ei] at epth; cases epth; rfl
      have fe : ((sumN b).filter fun x => !decide (x ∈ lin) && !decide (x ∈ ([] : List Str))) = (sumN b).filter fun x => !decide (x ∈ lin) && !decide (x ∈ init ++ [here]) := by
        refine List.filter_congr fun x _ => ?_
        by_cases q : x ∈ lin
        · rw [decide_eq_true q]; rfl
        · rw [decide_eq_false q]
          have : x ∉ init ++ [here] := fun z => by rw [epth] at z; rw [List.mem_singleton.mp z] at q; exact q ef
          rw [decide_eq_false this, decide_eq_false (by simp)]
      show 2 * ((sumN b).filter fun x => !decide (x ∈ lin) && !decide (x ∈ ([] : List Str))).length + 0 < 2 * ((sumN b).filter fun x => !decide (x ∈ lin) && !decide (x ∈ init ++ [here])).length + (init ++ [here]).length
      rw [fe, List.length_append, List.length_singleton]; omega
    · have nin : here ∉ lin := fun z => hh ((I1.has here).mpr z)
      have I3' : ∀ x ∈ init ++ [here], x ∉ lin := I3.resolve_left fun z => by
        have : here ∈ [first] := by rw [← z.1]; simp
        rw [List.mem_singleton.mp this] at nin; exact nin z.2
      refine jnI ?_
      rw [if_neg hh]
      refine ⟨⟨fun y hy => isN_okS (N.nm _ (sum_key ((hhere y).mp hy).2.1)), okV_nil⟩, ?_⟩
      by_cases hl : left = []
      · -- all that it needs is laid
        rw [decide_eq_true hl]
        refine bT ⟨hp, ?_⟩
        rw [if_pos hh, dl]
        refine ⟨hlad, hlin, ?_⟩
        have L2 : Laid b (lin ++ [here]) (putT lad here true) := I1.snoc nin hs fun ws' hw' w hw hsw => by
          have e := sum_val (a := a) (c := c) N.un hw'
          rw [sum_val N.un hws] at e
          cases e
          refine Classical.byContradiction fun q => ?_
          have := (hhere w).mpr ⟨hw, hsw, q⟩
          rw [hl] at this; cases this
        refine hx _ ⟨L2, ?_, .inr fun x hx z => ?_, fun x hx => I4 x (List.mem_append_left _ hx), (List.pairwise_append.mp I5).1, fun x hx => List.mem_append_left _ (I6 x hx)⟩ ?_
        · rcases I2 with z | z
          · rcases List.mem_append.mp z with y | y
            · exact .inl y
            · exact .inr (List.mem_append_right _ y)
          · exact .inr (List.mem_append_left _ z)
        · rcases List.mem_append.mp z with y | y
          · exact I3' x (List.mem_append_left _ hx) y
          · rw [List.mem_singleton.mp y] at hx
            rw [List.nodup_append] at ndp
            exact ndp.2.2 here hx here (by simp) rfl
        · have fe : ((sumN b).filter fun x => !decide (x ∈ lin ++ [here]) && !decide (x ∈ init)) = (sumN b).filter fun x => !decide (x ∈ lin) && !decide (x ∈ init ++ [here]) := by
            refine List.filter_congr fun x _ => ?_
            simp only [List.mem_append, List.mem_singleton]
            by_cases q1 : x ∈ lin <;> by_cases q2 : x ∈ init <;> by_cases q3 : x = here <;> simp [q1, q2, q3]
          show 2 * ((sumN b).filter fun x => !decide (x ∈ lin ++ [here]) && !decide (x ∈ init)).length + init.length < 2 * ((sumN b).filter fun x => !decide (x ∈ lin) && !decide (x ∈ init ++ [here])).length + (init ++ [here]).length
          rw [fe, List.length_append, List.length_singleton]; omega
      · rw [decide_eq_false hl]
        refine bF ?_
        obtain ⟨y, ys, hy⟩ : ∃ y ys, left = y :: ys := by
          cases left with
          | nil => exact absurd rfl hl
          | cons y ys => exact ⟨y, ys, rfl⟩
        obtain ⟨hyw, hys, hyn⟩ := (hhere y).mp (by rw [hy]; exact List.mem_cons_self ..)
        have ry : ∀ x ∈ init ++ [here], rk y < rk x := fun x hx => by
          have r1 : rk y < rk here := hrk _ hws y hyw hys
          rcases List.mem_append.mp hx with z | z
          · have := (List.pairwise_append.mp I5).2.2 x z here (by simp); omega
          · rw [List.mem_singleton.mp z]; exact r1
        have np : y ∉ init ++ [here] := fun z => by have := ry y z; omega
        rw [hy]
        refine ⟨y, rfl, ?_⟩
        rw [if_neg np]
        refine ⟨y, rfl, hpath, hx _ ⟨I1, ?_, .inr fun x hx z => ?_, fun x hx => ?_, ?_, I6⟩ ?_⟩
        · exact I2.imp_left fun z => List.mem_append_left _ z
        · rcases List.mem_append.mp hx with q | q
          · exact I3' x q z
          · rw [List.mem_singleton.mp q] at z; exact hyn z
        · rcases List.mem_append.mp hx with q | q
          · exact I4 x q
          · rw [List.mem_singleton.mp q]; exact hys
        · exact List.pairwise_append.mpr ⟨I5, List.pairwise_singleton _ _, fun x hx z hz => by rw [List.mem_singleton.mp hz]; exact ry x hx⟩
        · have fl : ((sumN b).filter fun x => !decide (x ∈ lin) && !decide (x ∈ (init ++ [here]) ++ [y])).length < ((sumN b).filter fun x => !decide (x ∈ lin) && !decide (x ∈ init ++ [here])).length := by
            refine filter_lt (fun x _ hq => ?_) ⟨y, hys, ?_, ?_⟩
            · rw [Bool.and_eq_true] at hq ⊢
              refine ⟨hq.1, ?_⟩
              have := hq.2
              rw [Bool.not_eq_true', decide_eq_false_iff_not] at this ⊢
              exact fun z => this (List.mem_append_left _ z)
            · rw [decide_eq_false hyn, decide_eq_false np]; rfl
            · rw [decide_eq_true (show y ∈ (init ++ [here]) ++ [y] by simp)]; simp
          show 2 * ((sumN b).filter fun x => !decide (x ∈ lin) && !decide (x ∈ (init ++ [here]) ++ [y])).length + ((init ++ [here]) ++ [y]).length < 2 * ((sumN b).filter fun x => !decide (x ∈ lin) && !decide (x ∈ init ++ [here])).length + (init ++ [here]).length
          rw [List.length_append (bs := [y]), List.length_singleton]; omega
theorem w_put_in {all : List (Str × WireV)} {n : Str} {one : WireV} (hn : isN n) (hh : n ∉ all.map (·.1)) (hl : all.length < 1000000) {R : List (Str × WireV) → Prop} (h : R (all ++ [(n, one)])) : W_Net_put_in all n one R := by
  have hln : n.length < 1000000 := by have := hn.2.1; omega
  refine w_is_name hln (fun _ => bT ?_) fun q => absurd hn q
  have hf : hasT all n = false := by
    cases q : hasT all n with
    | false => rfl
    | true => exact absurd (hasT_iff.mp q) hh
  rw [hf, if_neg (by decide)]
  refine ⟨hl, ?_⟩
  unfold putT
  rw [hf, if_neg (by decide)]; exact h
/-- an order in which each sum stands behind those that it needs -/
structure Order (b : RowsS) (o : List Str) : Prop where
  nd : o.Nodup
  mem : ∀ x, x ∈ o ↔ x ∈ sumN b
  cl : ∀ pre n post ws, o = pre ++ n :: post → (n, ws) ∈ b → ∀ w ∈ ws, w ∈ sumN b → w ∈ pre
theorem w_need_sizes (N : NetOk a b c d) {R : Unit → Prop} (h : R ()) : W_need_sizes a b c d R := by
  have h1 := N.na; have h2 := N.nb; have h3 := N.nc; have h4 := N.nd
  unfold W_need_sizes
  rw [if_neg (by omega)]
  exact forW_unit (fun p hp nx bk hn => by rw [if_neg (by have := N.nw p hp; omega)]; exact hn) h
theorem nodup_mid {pre post : List Str} {x : Str} (h : (pre ++ x :: post).Nodup) : x ∉ pre := fun z => by
  rw [List.nodup_append] at h
  exact h.2.2 x z x (List.mem_cons_self ..) rfl
theorem w_net_init (N : NetOk a b c d) {R : NetV → Prop} (h : ∀ o l, Order b o → R (allOf a b c, d, o, l)) : W_Net___init__ a b c d R := by
  have h1 := N.na; have h2 := N.nb; have h3 := N.nc; have h4 := N.nd
  have un := N.un
  refine w_need_sizes N ?_
  refine forW_ind (fun pre s => s = inAll pre) rfl (fun pre n post s nx bk e hs hn _ => ?_) fun s hs => ?_
  · subst hs
    have ln : pre.length < 6 := by have := congrArg List.length e; rw [List.length_append, List.length_cons] at this; omega
    refine w_put_in (N.nm n (List.mem_append_left _ (List.mem_append_left _ (by rw [e]; simp)))) ?_ (by rw [inAll_len]; omega) (hn _ (by rw [inAll_snoc, inAll_len]))
    rw [in_keys]
    refine nodup_mid (post := post ++ sumN b ++ c.map (·.1)) ?_
    unfold keysOf at un
    rw [e] at un
    simpa [List.append_assoc] using un
  subst hs
  refine forW_ind (fun pre s => s = inAll a ++ sumAll pre) (by simp [sumAll]) (fun pre p post s nx bk e hs hn _ => ?_) fun s hs => ?_
  · subst hs
    have ln : pre.length < 40 := by have := congrArg List.length e; rw [List.length_append, List.length_cons] at this; omega
    have k0 : p.1 ∈ sumN b := List.mem_map.mpr ⟨p, by rw [e]; simp, rfl⟩
    refine w_put_in (N.nm p.1 (sum_key k0)) ?_ (by rw [List.length_append, inAll_len]; unfold sumAll; rw [List.length_map]; omega) (hn _ (by unfold sumAll; rw [List.map_append, List.append_assoc]; rfl))
    rw [List.map_append, in_keys, sum_keys]
    refine nodup_mid (post := sumN post ++ c.map (·.1)) ?_
    unfold keysOf at un
    rw [e] at un
    simpa [sumN, List.append_assoc] using un
  subst hs
  refine forW_enum (fun pre s => s = inAll a ++ sumAll b ++ stAll pre) (by show _ = _ ++ []; rw [List.append_nil]) (fun pre p post s nx bk e hs hn => ?_) fun s hs => ?_
  · subst hs
    have ln : pre.length < 16 := by have := congrArg List.length e; rw [List.length_append, List.length_cons] at this; omega
    refine w_put_in (N.nm p.1 (List.mem_append_right _ (List.mem_map.mpr ⟨p, by rw [e]; simp, rfl⟩))) ?_ (by rw [List.length_append, List.length_append, inAll_len, stAll_len]; unfold sumAll; rw [List.length_map]; omega) (hn _ (by rw [stAll_snoc, ← List.append_assoc]))
    rw [List.map_append, List.map_append, in_keys, sum_keys, st_keys]
    refine nodup_mid (post := post.map (·.1)) ?_
    unfold keysOf at un
    rw [e] at un
    simpa [List.append_assoc] using un
  subst hs
  refine w_readings (a := a) (b := b) (c := c) N (forW_unit (fun x hx nx bk hn => w_wire_of N.nm (N.rd x hx) fun w _ => hn) ?_)
  refine w_kind_sum (a := a) (b := b) (c := c) N.sml ?_
  have e0 : (sumAll b).map (·.2) = b.map (fun p => (Sum.inr (Sum.inl p) : WireV)) := by unfold sumAll; rw [List.map_map]; rfl
  rw [e0]
  refine forW_ind (fun (pre : List WireV) (s : List Str × List (Str × Bool)) => Laid b s.1 s.2 ∧ ∀ p : Str × List Str, (Sum.inr (Sum.inl p) : WireV) ∈ pre → p.1 ∈ s.1) ⟨⟨List.nodup_nil, fun x hx => (by cases hx), fun x => ⟨fun z => (by cases z), fun z => (by cases z)⟩, Nat.le_refl _, fun pre n post ws e => (by simp at e)⟩, fun p hp => by cases hp⟩ (fun pre w post s nx bk e hs hn _ => ?_) fun s hs => ?_
  · obtain ⟨line, laid⟩ := s
    obtain ⟨(L : Laid b line laid), (hp : ∀ p : Str × List Str, (Sum.inr (Sum.inl p) : WireV) ∈ pre → p.1 ∈ line)⟩ := hs
    have hw : w ∈ b.map (fun p => (Sum.inr (Sum.inl p) : WireV)) := by rw [e]; simp
    obtain ⟨p, hpb, ew⟩ := List.mem_map.mp hw
    subst ew
    refine w_lay_out N L (List.mem_map.mpr ⟨p, hpb, rfl⟩) fun line' laid' L' hsub hf => hn _ ⟨L', fun q hq => ?_⟩
    rcases List.mem_append.mp hq with z | z
    · exact hsub _ (hp q z)
    · have : q = p := Sum.inl.inj (Sum.inr.inj (List.mem_singleton.mp z))
      rw [this]; exact hf
  · obtain ⟨line, laid⟩ := s
    obtain ⟨(L : Laid b line laid), (hp : ∀ p : Str × List Str, (Sum.inr (Sum.inl p) : WireV) ∈ b.map (fun p => (Sum.inr (Sum.inl p) : WireV)) → p.1 ∈ line)⟩ := hs
    refine h line laid ⟨L.nd, fun x => ⟨L.sub x, fun hx => ?_⟩, L.cl⟩
    obtain ⟨p, hpb, ep⟩ := List.mem_map.mp (show x ∈ List.map _ _ from hx)
    rw [← ep]; exact hp p (List.mem_map.mpr ⟨p, hpb, rfl⟩)
end
end My
namespace My
open Wk PySem
/-! drawn nets -/
theorem w_wires {c : Int} {st : Nat} {names : List Str} {dg : Bool} (hl : names.length < 1000) (hk : ∀ x ∈ names, okS x) {R : List Str → Prop} (h : ∀ ws, ws.length ≤ 4 → (∀ w ∈ ws, w ∈ names) → R ws) : W_wires c st names dg R := by
  unfold W_wires
  by_cases q : dg = true
  · rw [if_pos q]
    refine ⟨by omega, Nat.pow_pos (by omega), ?_⟩
    rintro left _
    refine ⟨by decide, forW_ind (fun pre (s : List Str × Nat) => s.1.length ≤ pre.length ∧ ∀ x ∈ s.1, x ∈ names) ⟨Nat.le_refl _, fun x hx => by cases hx⟩ (fun pre k post s nx bk e hs hn _ => ?_) fun s hs => ?_⟩
    · obtain ⟨ws, lf⟩ := s
      obtain ⟨(s1 : ws.length ≤ _), (s2 : ∀ x ∈ ws, _)⟩ := hs
      have pl : pre.length < 4 := by
        have := congrArg List.length e
        rw [List.length_range, List.length_append, List.length_cons] at this; omega
      have fin : ∀ ws', ws'.length ≤ (pre ++ [k]).length → (∀ x ∈ ws', x ∈ names) → (NDiv (names.length + 1)) ∧ ∀ left3 : Nat, left3 = lf / (names.length + 1) → nx (ws', left3) := fun ws' h1 h2 => by
        refine ⟨⟨by omega, ?_⟩, ?_⟩
        · have : (names.length + 1).log2 < 10 := (Nat.log2_lt (by omega)).mpr (by omega)
          omega
        · rintro _ rfl; exact hn _ ⟨h1, h2⟩
      refine jnI ⟨by omega, ?_⟩
      by_cases q2 : 0 < lf % (names.length + 1)
      · rw [if_pos q2]
        have hi : lf % (names.length + 1) - 1 < names.length := by have := Nat.mod_lt lf (show 0 < names.length + 1 by omega); omega
        refine ⟨by omega, by omega, _, List.getElem?_eq_getElem hi, by omega, fin _ ?_ fun x hx => ?_⟩
        · rw [List.length_append, List.length_append]; exact Nat.succ_le_succ s1
        · rcases List.mem_append.mp hx with g | g
          · exact s2 x g
          · rw [List.mem_singleton.mp g]; exact List.getElem_mem hi
      · rw [if_neg q2]
        exact fin _ (by rw [List.length_append]; exact Nat.le_succ_of_le s1) s2
    · obtain ⟨ws, lf⟩ := s
      obtain ⟨(s1 : ws.length ≤ _), (s2 : ∀ x ∈ ws, _)⟩ := hs
      rw [List.length_range] at s1
      exact h ws s1 s2
  · rw [if_neg q]
    refine w_mix ?_
    rintro many rfl
    have m5 : mixV c st % 5 < 5 := Nat.mod_lt _ (by decide)
    refine ⟨by omega, compW_rel (fun (k : Nat) (o : Option Str) => ∀ x, o = some x → x ∈ names) (fun k hk2 kk hh => ?_) fun ys hy => ?_⟩
    · refine ⟨⟨hk, fun x hx => by cases hx⟩, ?_⟩
      by_cases z : names ≠ []
      · rw [if_pos z]
        have lp : 0 < names.length := List.length_pos_iff.mpr z
        have hi : mixV c (st + 1 + k) % names.length < names.length := Nat.mod_lt _ lp
        exact w_mix ⟨lp, _, List.getElem?_eq_getElem hi, hh _ fun x e => by cases e; exact List.getElem_mem hi⟩
      · rw [if_neg z]; exact hh _ fun x e => by cases e
    · have key : ∀ (xs : List Nat) (ys : List Str), CR (fun (k : Nat) (o : Option Str) => ∀ x, o = some x → x ∈ names) xs ys → ys.length ≤ xs.length ∧ ∀ y ∈ ys, y ∈ names := by
        intro xs
        induction xs with
        | nil => intro ys hc; cases (show ys = [] from hc); exact ⟨Nat.le_refl _, fun y hy => by cases hy⟩
        | cons x xs ih =>
          rintro ys ⟨o, ys', ho, e, hc⟩
          obtain ⟨i1, i2⟩ := ih ys' hc
          subst e
          cases o with
          | none => exact ⟨Nat.le_succ_of_le i1, i2⟩
          | some y =>
            refine ⟨Nat.succ_le_succ i1, fun z hz => ?_⟩
            rcases List.mem_cons.mp (show z ∈ y :: ys' from hz) with g | g
            · rw [g]; exact ho y rfl
            · exact i2 z g
      obtain ⟨k1, k2⟩ := key _ _ hy
      rw [List.length_range] at k1
      exact h ys (by omega) k2
theorem okV_okS {l : List Str} (h : ∀ x ∈ l, okS x) : okV (pL pS) l := fun x hx => h x hx
def insV (c : Int) (n : Nat) : List Str := (List.range n).map (nameV c)
def stsV (c : Int) (n : Nat) : List Str := (List.range n).map fun k => nameV c (6 + k)
def smN (c : Int) (n : Nat) : List Str := (List.range n).map fun k => nameV c (22 + k)
def smV (c : Int) (n : Nat) (ws : Nat → List Str) : RowsS := (List.range n).map fun k => (nameV c (22 + k), ws k)
/-- what is drawn: rows of sums, each of wires that are known ahead -/
structure Drawn (c : Int) (x y z : Nat) (ws : Nat → List Str) (at_ : Nat) (ends : List Str) (outs : List Str) : Prop where
  hx : x ≤ 3
  hy : y ≤ 16
  hz : z ≤ 16
  wl : ∀ k, k < z → (ws k).length ≤ 4
  wm : ∀ k, k < z → ∀ w ∈ ws k, w ∈ insV c x ++ stsV c y ++ smN c k
  el : ends.length = y
  em : ∀ e ∈ ends, e ∈ insV c x ++ stsV c y ++ smN c z
  ol : outs.length ≤ 3
  om : ∀ e ∈ outs, e ∈ insV c x ++ stsV c y ++ smN c z
def turnL {α : Type} (l : List α) (k : Nat) : List α := l.drop k ++ (l.take k).reverse
theorem mem_turnL {α : Type} {l : List α} {k : Nat} {x : α} : x ∈ turnL l k ↔ x ∈ l := by
  unfold turnL
  rw [List.mem_append, List.mem_reverse]
  constructor
  · exact fun h => h.elim List.mem_of_mem_drop List.mem_of_mem_take
  · intro h
    rw [← List.take_append_drop k l] at h
    exact (List.mem_append.mp h).symm
theorem turnL_map {α β : Type} (f : α → β) (l : List α) (k : Nat) : (turnL l k).map f = turnL (l.map f) k := by
  unfold turnL
  rw [List.map_append, List.map_drop, List.map_reverse, List.map_take]
theorem turnL_len {α : Type} (l : List α) (k : Nat) : (turnL l k).length = l.length := by
  unfold turnL
  rw [List.length_append, List.length_drop, List.length_reverse, List.length_take]; omega
theorem turnL_nodup {l : List Nat} {k : Nat} (h : l.Nodup) : (turnL l k).Nodup := by
  unfold turnL
  rw [← List.take_append_drop k l, List.nodup_append] at h
  rw [List.nodup_append]
  exact ⟨h.2.1, List.pairwise_reverse.mpr (h.1.imp fun h e => h e.symm), fun a ha b hb e => h.2.2 b (List.mem_reverse.mp hb) a ha e.symm⟩
theorem nodup_names {c : Int} : ∀ {l : List Nat}, l.Nodup → (∀ k ∈ l, k < 40) → (l.map (nameV c)).Nodup
  | [], _, _ => List.nodup_nil
  | k :: l, nd, h => by
    rw [List.nodup_cons] at nd
    rw [List.map_cons, List.nodup_cons]
    refine ⟨fun z => ?_, nodup_names nd.2 fun j hj => h j (List.mem_cons_of_mem _ hj)⟩
    obtain ⟨j, hj, e⟩ := List.mem_map.mp z
    have := nameV_inj (h j (List.mem_cons_of_mem _ hj)) (h k (List.mem_cons_self ..)) e
    exact nd.1 (this ▸ hj)
theorem Drawn.ok {c : Int} {x y z : Nat} {ws : Nat → List Str} {at_ : Nat} {ends outs : List Str} (D : Drawn c x y z ws at_ ends outs) : NetOk (insV c x) (turnL (smV c z ws) at_) ((stsV c y).zip ends) outs := by
  have hx := D.hx; have hy := D.hy; have hz := D.hz
  have yl : (stsV c y).length = y := by unfold stsV; rw [List.length_map, List.length_range]
  have sn : sumN (turnL (smV c z ws) at_) = turnL (smN c z) at_ := by
    unfold sumN; rw [turnL_map]; unfold smV smN; rw [List.map_map]; rfl
  have zn : ((stsV c y).zip ends).map (·.1) = stsV c y := List.map_fst_zip (by rw [yl, D.el]; exact Nat.le_refl _)
  have kn : keysOf (insV c x) (turnL (smV c z ws) at_) ((stsV c y).zip ends) = (List.range x ++ turnL ((List.range z).map (22 + ·)) at_ ++ (List.range y).map (6 + ·)).map (nameV c) := by
    unfold keysOf
    rw [sn, zn, List.map_append, List.map_append, turnL_map, List.map_map, List.map_map]; rfl
  have km : ∀ w, w ∈ keysOf (insV c x) (turnL (smV c z ws) at_) ((stsV c y).zip ends) ↔ w ∈ insV c x ++ stsV c y ++ smN c z := fun w => by
    unfold keysOf
    rw [sn, zn]
    simp only [List.mem_append, mem_turnL]
    exact ⟨fun h => h.elim (fun h => h.elim (fun h => .inl (.inl h)) .inr) (fun h => .inl (.inr h)), fun h => h.elim (fun h => h.elim (fun h => .inl (.inl h)) .inr) (fun h => .inl (.inr h))⟩
  have un : (keysOf (insV c x) (turnL (smV c z ws) at_) ((stsV c y).zip ends)).Nodup := by
    rw [kn]
    have i6 : ((List.range y).map (6 + ·)).Nodup := List.Pairwise.map _ (fun a b (h : a ≠ b) (e : 6 + a = 6 + b) => h (by omega)) List.nodup_range
    have i22 : (turnL ((List.range z).map (22 + ·)) at_).Nodup := turnL_nodup (List.Pairwise.map _ (fun a b (h : a ≠ b) (e : 22 + a = 22 + b) => h (by omega)) List.nodup_range)
    have m6 : ∀ k, k ∈ (List.range y).map (6 + ·) → 6 ≤ k ∧ k < 22 := fun k hk => by
      obtain ⟨j, hj, e⟩ := List.mem_map.mp hk
      have := List.mem_range.mp hj
      omega
    have m22 : ∀ k, k ∈ turnL ((List.range z).map (22 + ·)) at_ → 22 ≤ k ∧ k < 40 := fun k hk => by
      obtain ⟨j, hj, e⟩ := List.mem_map.mp (mem_turnL.mp hk)
      have := List.mem_range.mp hj
      omega
    have m0 : ∀ k, k ∈ List.range x → k < 6 := fun k hk => by have := List.mem_range.mp hk; omega
    refine nodup_names ?_ fun k hk => ?_
    · rw [List.nodup_append]
      refine ⟨?_, i6, fun i hi j hj e => ?_⟩
      · rw [List.nodup_append]
        refine ⟨List.nodup_range, i22, fun i hi j hj e => ?_⟩
        have := m0 i hi; have := m22 j hj; omega
      · have := m6 j hj
        rcases List.mem_append.mp hi with q | q
        · have := m0 i q; omega
        · have := m22 i q; omega
    · rcases List.mem_append.mp hk with q | q
      · rcases List.mem_append.mp q with q | q
        · have := m0 k q; omega
        · exact (m22 k q).2
      · have := m6 k q; omega
  have mk : ∀ {w k}, k ≤ z → w ∈ insV c x ++ stsV c y ++ smN c k → w ∈ insV c x ++ stsV c y ++ smN c z := fun {w k} hk h => by
    rcases List.mem_append.mp h with q | q
    · exact List.mem_append_left _ q
    · obtain ⟨j, hj, e⟩ := List.mem_map.mp (show w ∈ List.map _ _ from q)
      exact List.mem_append_right _ (List.mem_map.mpr ⟨j, List.mem_range.mpr (by have := List.mem_range.mp hj; omega), e⟩)
  have bm : ∀ p, p ∈ turnL (smV c z ws) at_ → ∃ k, k < z ∧ p = (nameV c (22 + k), ws k) := fun p hp => by
    obtain ⟨k, hk, e⟩ := List.mem_map.mp (show p ∈ List.map _ _ from mem_turnL.mp hp)
    exact ⟨k, List.mem_range.mp hk, e.symm⟩
  refine ⟨?_, ?_, ?_, ?_, ?_, ?_, un, ?_, ?_⟩
  · unfold insV; rw [List.length_map, List.length_range]; omega
  · rw [turnL_len]; unfold smV; rw [List.length_map, List.length_range]; omega
  · rw [List.length_zip, yl, D.el]; omega
  · have := D.ol; omega
  · intro p hp
    obtain ⟨k, hk, e⟩ := bm p hp
    have := D.wl k hk
    rw [e]; show (ws k).length ≤ 24; omega
  · intro w hw
    rw [kn] at hw
    obtain ⟨k, hk, e⟩ := List.mem_map.mp hw
    rw [← e]
    refine nameV_isN ?_
    rcases List.mem_append.mp hk with q | q
    · rcases List.mem_append.mp q with q | q
      · have := List.mem_range.mp q; omega
      · obtain ⟨j, hj, e⟩ := List.mem_map.mp (mem_turnL.mp q)
        have := List.mem_range.mp hj
        omega
    · obtain ⟨j, hj, e⟩ := List.mem_map.mp q
      have := List.mem_range.mp hj
      omega
  · intro w hw
    rw [km]
    rcases List.mem_append.mp (show w ∈ _ ++ _ from hw) with q | q
    · rcases List.mem_append.mp q with q | q
      · obtain ⟨p, hp, hq⟩ := List.mem_flatMap.mp q
        obtain ⟨k, hk, e⟩ := bm p hp
        rw [e] at hq
        exact mk (Nat.le_of_lt hk) (D.wm k hk w hq)
      · obtain ⟨p, hp, e⟩ := List.mem_map.mp q
        rw [← e]
        exact D.em _ (List.of_mem_zip (show (p.1, p.2) ∈ _ from hp)).2
    · exact D.om w q
  · refine ⟨fun n => ((List.range 40).find? fun k => decide (nameV c k = n)).getD 0, fun p hp w hw hs => ?_⟩
    obtain ⟨k, hk, e⟩ := bm p hp
    have rk : ∀ j, j < 40 → ((List.range 40).find? fun i => decide (nameV c i = nameV c j)).getD 0 = j := fun j hj => by
      cases q : (List.range 40).find? fun i => decide (nameV c i = nameV c j) with
      | none =>
        have := List.find?_eq_none.mp q j (List.mem_range.mpr hj)
        exact absurd (decide_eq_true rfl) this
      | some i =>
        have h1 := List.find?_some q
        have h2 := List.mem_range.mp (List.mem_of_find?_eq_some q)
        exact nameV_inj h2 hj (of_decide_eq_true h1)
    subst e
    rw [sn] at hs
    obtain ⟨j, hj, ej⟩ := List.mem_map.mp (show w ∈ List.map _ _ from mem_turnL.mp hs)
    have hj' := List.mem_range.mp hj
    subst ej
    show (List.find? (fun i => decide (nameV c i = nameV c (22 + j))) (List.range 40)).getD 0 < (List.find? (fun i => decide (nameV c i = nameV c (22 + k))) (List.range 40)).getD 0
    rw [rk _ (by omega), rk _ (by omega)]
    have hw' := D.wm k hk _ hw
    rcases List.mem_append.mp hw' with q | q
    · exfalso
      rcases List.mem_append.mp q with q | q
      · obtain ⟨i, hi, ei⟩ := List.mem_map.mp (show _ ∈ List.map _ _ from q)
        have := List.mem_range.mp hi
        have := nameV_inj (by omega) (by omega) ei
        omega
      · obtain ⟨i, hi, ei⟩ := List.mem_map.mp (show _ ∈ List.map _ _ from q)
        have := List.mem_range.mp hi
        have := nameV_inj (by omega) (by omega) ei
        omega
    · obtain ⟨i, hi, ei⟩ := List.mem_map.mp (show _ ∈ List.map _ _ from q)
      have := List.mem_range.mp hi
      have := nameV_inj (by omega) (by omega) ei
      omega
theorem smN_snoc (c : Int) (n : Nat) : smN c (n + 1) = smN c n ++ [nameV c (22 + n)] := by unfold smN; rw [List.range_succ, List.map_append]; rfl
theorem smV_snoc (c : Int) (n : Nat) (ws : Nat → List Str) : smV c (n + 1) ws = smV c n ws ++ [(nameV c (22 + n), ws n)] := by unfold smV; rw [List.range_succ, List.map_append]; rfl
theorem smV_congr {c : Int} {n : Nat} {ws ws' : Nat → List Str} (h : ∀ k, k < n → ws k = ws' k) : smV c n ws = smV c n ws' := List.map_congr_left fun k hk => by rw [h k (List.mem_range.mp hk)]
theorem range_split {n : Nat} {pre post : List Nat} {k : Nat} (h : List.range n = pre ++ k :: post) : k = pre.length ∧ pre = List.range k ∧ k < n := by
  have hl : pre.length < n := by
    have := congrArg List.length h
    rw [List.length_range, List.length_append, List.length_cons] at this; omega
  have e : (List.range n)[pre.length]? = some k := by rw [h]; simp
  rw [List.getElem?_range hl] at e
  cases e
  refine ⟨rfl, ?_, hl⟩
  have := congrArg (List.take pre.length) h
  rw [List.take_left' rfl, List.take_range, Nat.min_eq_left (Nat.le_of_lt hl)] at this
  exact this.symm
theorem w_net {s : List Int} {start most : Nat} (hm : most ≤ 16) {R : List Str × RowsS × RowsE × List Str → Prop} (h : ∀ c x y z ws at_ ends outs, c = cellV s start → y ≤ most → z ≤ most → Drawn c x y z ws at_ ends outs → R (insV c x, turnL (smV c z ws) at_, (stsV c y).zip ends, outs)) : W_net s start most R := by
  refine w_cell ?_
  have h := fun x y z ws at_ ends outs => h (cellV s start) x y z ws at_ ends outs rfl
  generalize cellV s start = c at h
  refine w_mix (w_mix ⟨by omega, w_mix ⟨by omega, ?_⟩⟩)
  have m1 : mixV c 1 % 4 < 4 := Nat.mod_lt _ (by decide)
  have m2 : mixV c 2 % (most + 1) < most + 1 := Nat.mod_lt _ (by omega)
  have m3 : mixV c 3 % (most + 1) < most + 1 := Nat.mod_lt _ (by omega)
  generalize mixV c 1 % 4 = x at m1
  generalize mixV c 2 % (most + 1) = y at m2
  generalize mixV c 3 % (most + 1) = z at m3
  refine ⟨x, rfl, by omega, compW_map (nameV c) (fun k hk kk hh => w_name (by have := List.mem_range.mp hk; omega) hh) ?_⟩
  refine ⟨y, rfl, by omega, compW_map (fun k => nameV c (6 + k)) (fun k hk kk hh => w_name (by have := List.mem_range.mp hk; omega) hh) ?_⟩
  show _ ∧ _
  have l1 : (insV c x).length = x := by unfold insV; rw [List.length_map, List.length_range]
  have l2 : (stsV c y).length = y := by unfold stsV; rw [List.length_map, List.length_range]
  have okn : ∀ n, n ≤ 16 → ∀ w ∈ insV c x ++ stsV c y ++ smN c n, okS w := fun n hn w hw => by
    rcases List.mem_append.mp hw with q | q
    · rcases List.mem_append.mp q with q | q
      · obtain ⟨i, hi, ei⟩ := List.mem_map.mp (show _ ∈ List.map _ _ from q)
        have := List.mem_range.mp hi
        rw [← ei]; exact isN_okS (nameV_isN (by omega))
      · obtain ⟨i, hi, ei⟩ := List.mem_map.mp (show _ ∈ List.map _ _ from q)
        have := List.mem_range.mp hi
        rw [← ei]; exact isN_okS (nameV_isN (by omega))
    · obtain ⟨i, hi, ei⟩ := List.mem_map.mp (show _ ∈ List.map _ _ from q)
      have := List.mem_range.mp hi
      rw [← ei]; exact isN_okS (nameV_isN (by omega))
  have knl : ∀ n, (insV c x ++ stsV c y ++ smN c n).length = x + y + n := fun n => by
    rw [List.length_append, List.length_append, l1, l2]; unfold smN; rw [List.length_map, List.length_range]
  refine ⟨by show (insV c x).length + (stsV c y).length < 1000000; omega, z, rfl, by omega, ?_⟩
  refine forW_ind (fun pre (t : RowsS × List Str) => ∃ ws, t = (smV c pre.length ws, insV c x ++ stsV c y ++ smN c pre.length) ∧ (∀ k, k < pre.length → (ws k).length ≤ 4) ∧ ∀ k, k < pre.length → ∀ w ∈ ws k, w ∈ insV c x ++ stsV c y ++ smN c k) ⟨fun _ => [], by show _ = (([] : RowsS), _ ++ []); rw [List.append_nil]; rfl, fun k hk => absurd hk (Nat.not_lt_zero _), fun k hk => absurd hk (Nat.not_lt_zero _)⟩ (fun pre k post t nx bk e ht hn _ => ?_) fun t ht => ?_
  · obtain ⟨ek, ep, lk⟩ := range_split e
    obtain ⟨ws, et, w1, w2⟩ := ht
    subst et
    rw [← ek] at w1 w2 ⊢
    show W_cell s (start + 1 + k) _
    refine w_cell (w_wires (by rw [knl]; omega) (okn k (by omega)) fun wk wk1 wk2 => w_name (by omega) ⟨?_, w_name (by omega) ⟨?_, hn _ ⟨fun j => if j = k then wk else ws j, ?_, fun j hj => ?_, fun j hj => ?_⟩⟩⟩)
    · show (smV c k ws).length < 1000000
      unfold smV; rw [List.length_map, List.length_range]; omega
    · show (insV c x ++ stsV c y ++ smN c k).length + 1 < 1000000
      rw [knl]; omega
    · rw [List.length_append, List.length_singleton, ← ek, smV_snoc, smN_snoc, if_pos rfl]
      rw [smV_congr (ws' := ws) fun j hj => if_neg (by omega), ← List.append_assoc]
    · rw [List.length_append, List.length_singleton, ← ek] at hj
      show (if j = k then wk else ws j).length ≤ 4
      by_cases q : j = k
      · rw [if_pos q]; exact wk1
      · rw [if_neg q]; exact w1 j (by omega)
    · rw [List.length_append, List.length_singleton, ← ek] at hj
      show ∀ w ∈ (if j = k then wk else ws j), w ∈ insV c x ++ stsV c y ++ smN c j
      by_cases q : j = k
      · rw [if_pos q, q]; exact wk2
      · rw [if_neg q]; exact w2 j (by omega)
  · obtain ⟨ws, et, w1, w2⟩ := ht
    rw [List.length_range] at et w1 w2
    subst et
    have sl : (smV c z ws).length = z := by unfold smV; rw [List.length_map, List.length_range]
    have kl := knl z
    have ok := okn z (by omega)
    refine w_mix ⟨by show 0 < (smV c z ws).length + 1; omega, ?_⟩
    rintro at_ _
    refine ⟨?_, ?_⟩
    · show ((smV c z ws).drop at_).length + ((smV c z ws).take at_).reverse.length < 1000000
      rw [List.length_drop, List.length_reverse, List.length_take, sl]; omega
    show forW (enumT (stsV c y)) ([] : RowsE) _ _
    have nek : 0 < y → 0 < (insV c x ++ stsV c y ++ smN c z).length := fun q => by omega
    show forW _ _ (fun (it1 : Nat × Str) ends1 nx2 bk2 => W_mix c (50 + it1.1) fun z12 => (0 < (insV c x ++ stsV c y ++ smN c z).length) ∧ ∃ x21, (insV c x ++ stsV c y ++ smN c z)[z12 % (insV c x ++ stsV c y ++ smN c z).length]? = some x21 ∧ _) _
    refine forW_enum (fun pre (t : RowsE) => ∃ es : List Str, es.length = pre.length ∧ t = pre.zip es ∧ ∀ e ∈ es, e ∈ insV c x ++ stsV c y ++ smN c z) ⟨[], rfl, rfl, fun e he => by cases he⟩ (fun pre p post t nx bk e ht hn => ?_) fun t ht => ?_
    · obtain ⟨es, e1, et, e2⟩ := ht
      subst et
      have pl : pre.length < y := by
        have := congrArg List.length e
        rw [l2, List.length_append, List.length_cons] at this; omega
      have np := nek (by omega)
      have hi : mixV c (50 + pre.length) % (insV c x ++ stsV c y ++ smN c z).length < (insV c x ++ stsV c y ++ smN c z).length := Nat.mod_lt _ np
      have ev := List.getElem?_eq_getElem hi
      have em := List.getElem_mem hi
      generalize (insV c x ++ stsV c y ++ smN c z)[mixV c (50 + pre.length) % (insV c x ++ stsV c y ++ smN c z).length] = v at ev em
      refine w_mix ⟨np, v, ev, by rw [List.length_zip]; omega, hn _ ⟨es ++ [v], by rw [List.length_append, List.length_append, e1]; rfl, ?_, fun u hu => ?_⟩⟩
      · exact (List.zip_append (r₁ := [p]) (r₂ := [v]) e1.symm).symm
      · rcases List.mem_append.mp hu with q | q
        · exact e2 u q
        · rw [List.mem_singleton.mp q]; exact em
    · obtain ⟨es, e1, et, e2⟩ := ht
      subst et
      rw [l2] at e1
      have fin : ∀ outs : List Str, outs.length ≤ 3 → (∀ u ∈ outs, u ∈ insV c x ++ stsV c y ++ smN c z) → R (insV c x, turnL (smV c z ws) at_, (stsV c y).zip es, outs) := fun outs o1 o2 => h x y z ws at_ es outs (by omega) (by omega) ⟨by omega, by omega, by omega, w1, w2, e1, e2, o1, o2⟩
      generalize insV c x ++ stsV c y ++ smN c z = kn at fin ok
      refine jnI ⟨⟨okV_okS ok, okV_nil⟩, ?_⟩
      by_cases q : kn ≠ []
      · rw [if_pos q]
        have np : 0 < kn.length := List.length_pos_iff.mpr q
        have m4 : mixV c 5 % 4 < 4 := Nat.mod_lt _ (by decide)
        have hi : ∀ k, ∃ v, kn[mixV c (80 + k) % kn.length]? = some v ∧ v ∈ kn := fun k => ⟨_, List.getElem?_eq_getElem (Nat.mod_lt _ np), List.getElem_mem _⟩
        refine w_mix ?_
        generalize mixV c 5 % 4 = m at m4
        refine ⟨by omega, compW_map (fun k => kn.getD (mixV c (80 + k) % kn.length) (Str.ofString "")) (fun k hk kk hh => w_mix ?_) ?_⟩
        · obtain ⟨v, h1, h2⟩ := hi k
          rw [List.getD_eq_getElem?_getD, h1, Option.getD_some] at hh
          exact ⟨np, v, h1, hh⟩
        · refine fin _ (by rw [List.length_map, List.length_range]; omega) fun u hu => ?_
          obtain ⟨k, _, e⟩ := List.mem_map.mp hu
          obtain ⟨v, h1, h2⟩ := hi k
          rw [List.getD_eq_getElem?_getD, h1, Option.getD_some] at e
          rw [← e]; exact h2
      · rw [if_neg q]
        exact fin [] (Nat.zero_le _) fun u hu => by cases hu
end My
namespace My
open Wk
theorem fine_i {z : Int} : fineA (An.i z) := trivial
theorem w_is_whole {x : An} (hf : fineA x) {R : Bool → Prop} (h1 : ∀ z : Int, x = An.i z → R true) (h0 : (∀ z : Int, x ≠ An.i z) → R false) : W_is_whole x R := by
  show R (decide (_ ∧ _))
  by_cases h : ∃ z : Int, x = An.i z
  · rw [decide_eq_true ((isA_int x hf).mpr h)]
    obtain ⟨z, e⟩ := h
    exact h1 z e
  · rw [decide_eq_false (fun q => h ((isA_int x hf).mp q))]
    exact h0 fun z e => h ⟨z, e⟩
theorem w_is_mask {x : An} {w : Nat} (hf : fineA x) (hw : w < 100000000) {R : Bool → Prop} (h1 : okA x w → R true) (h0 : ¬ okA x w → R false) : W_is_mask x w R := by
  refine jnI (w_is_whole hf (fun z e => ?_) fun hn => ?_)
  · rw [if_pos rfl]
    refine ⟨z, e, hw, ?_⟩
    have hp : ((2 ^ w : Nat) : Int) = ((2 ^ w : Nat) : Int) := rfl
    by_cases h : ((0 : Nat) : Int) ≤ z ∧ z < ((2 ^ w : Nat) : Int)
    · rw [decide_eq_true h]
      refine h1 ⟨z.toNat, ?_, ?_⟩
      · rw [e, Int.toNat_of_nonneg (by have := h.1; omega)]
      · have := h.1; have := h.2; omega
    · rw [decide_eq_false h]
      refine h0 fun ⟨n, e2, hn⟩ => h ?_
      rw [e] at e2
      have e3 : z = (n : Int) := An.i.inj e2
      rw [e3]
      exact ⟨by omega, by omega⟩
  · rw [if_neg (by simp)]
    exact h0 fun ⟨n, e, _⟩ => hn _ e
theorem okA_nat {n w : Nat} : okA (An.i (n : Int)) w ↔ n < 2 ^ w := by
  constructor
  · rintro ⟨m, e, h⟩
    have e2 : (n : Int) = (m : Int) := An.i.inj e
    have : n = m := by omega
    rw [this]; exact h
  · exact fun h => ⟨n, rfl, h⟩
end My
namespace My
open Wk PySem
/-! runs of nets -/
def baseB (w : WireV) (row st : Nat) : Bool := match w with
  | .inl x => row.testBit x.2
  | .inr (.inl _) => false
  | .inr (.inr x) => st.testBit x.2.2
def env0 (all : List (Str × WireV)) (row st : Nat) (n : Str) : Bool := match valT all n with
  | some w => baseB w row st
  | none => false
def sumB (e : Str → Bool) (ws : List Str) : Bool := ws.foldl (fun x m => xor x (e m)) false
def needN (all : List (Str × WireV)) (n : Str) : List Str := match valT all n with
  | some w => needsV w
  | none => []
def updB (e : Str → Bool) (n : Str) (x : Bool) : Str → Bool := fun m => if m = n then x else e m
def envF (all : List (Str × WireV)) (o : List Str) (e : Str → Bool) : Str → Bool := o.foldl (fun e n => updB e n (sumB e (needN all n))) e
def envO (all : List (Str × WireV)) (row st : Nat) (o : List Str) : Str → Bool := envF all o (env0 all row st)
def ansV (d : List Str) (e : Str → Bool) : Nat := maskB (d.map e)
def nxtV (c : RowsE) (e : Str → Bool) : Nat := maskB (c.map fun p => e p.2)
theorem shr_one (n i : Nat) : n >>> i &&& 1 = (n.testBit i).toNat := by
  rw [Nat.and_one_is_mod, Nat.testBit_eq_decide_div_mod_eq, Nat.shiftRight_eq_div_pow]
  have := Nat.mod_lt (n / 2 ^ i) (show 0 < 2 by decide)
  by_cases h : n / 2 ^ i % 2 = 1
  · rw [decide_eq_true h]; exact h
  · rw [decide_eq_false h]; show _ = 0; omega
theorem xor_toNat (a b : Bool) : a.toNat ^^^ b.toNat = (xor a b).toNat := by cases a <;> cases b <;> rfl
theorem sumB_nat (e : Str → Bool) : ∀ (ws : List Str) (x : Bool), ws.foldl (fun (y : Nat) m => y ^^^ (e m).toNat) x.toNat = (ws.foldl (fun x m => xor x (e m)) x).toNat
  | [], _ => rfl
  | w :: ws, x => by rw [List.foldl_cons, List.foldl_cons, xor_toNat, sumB_nat e ws]
section
variable {a : List Str} {b : RowsS} {c : RowsE} {d o : List Str}
theorem w_in_names (hl : (allOf a b c).length < 1000000) {d o l} {R : List Str → Prop} (h : R a) : W_Net_in_names (allOf a b c, d, o, l) R := by
  refine w_kind_in hl ⟨?_, compW_map wName (fun w _ kk hk => hk) ?_⟩
  · have := hl
    rw [allOf_len] at this
    rw [List.length_map, inAll_len]; omega
  · have e : ((inAll a).map (·.2)).map wName = a := by
      unfold inAll
      rw [List.map_map, List.map_map]
      exact (enumT_map a id).trans (List.map_id a)
    rw [e]; exact h
theorem w_store_rows (hl : (allOf a b c).length < 1000000) {d o l} {R : RowsE → Prop} (h : R c) : W_Net_store_rows (allOf a b c, d, o, l) R := by
  refine w_kind_store hl ⟨?_, compW_map (fun w => (wName w, (wWire w).getD (Str.ofString ""))) (fun w hw kk hk => ?_) ?_⟩
  · have := hl
    rw [allOf_len] at this
    rw [List.length_map, stAll_len]; omega
  · obtain ⟨p, hp, ew⟩ := List.mem_map.mp hw
    obtain ⟨q, _, ep⟩ := List.mem_map.mp (show p ∈ List.map _ _ from hp)
    subst ep ew
    exact ⟨_, rfl, hk⟩
  · have e : ((stAll c).map (·.2)).map (fun w => (wName w, (wWire w).getD (Str.ofString ""))) = c := by
      unfold stAll
      rw [List.map_map, List.map_map]
      exact (enumT_map c id).trans (List.map_id c)
    rw [e]; exact h
theorem w_wire_names {d o l} {R : List Str → Prop} (h : R (keysOf a b c)) : W_Net_wire_names (allOf a b c, d, o, l) R := by
  show R ((allOf a b c).map (·.1))
  rw [all_keys]; exact h
theorem env0_sum (un : (keysOf a b c).Nodup) {n : Str} (h : n ∈ sumN b) (row st : Nat) : env0 (allOf a b c) row st n = false := by
  obtain ⟨ws, hw⟩ := mem_sumN h
  unfold env0
  rw [sum_val un hw]; rfl
theorem needN_sum (un : (keysOf a b c).Nodup) {n : Str} {ws : List Str} (h : (n, ws) ∈ b) : needN (allOf a b c) n = ws := by
  unfold needN
  rw [sum_val un h]; rfl
theorem envF_snoc (all : List (Str × WireV)) (o : List Str) (n : Str) (e : Str → Bool) : envF all (o ++ [n]) e = updB (envF all o e) n (sumB (envF all o e) (needN all n)) := by
  unfold envF; rw [List.foldl_append]; rfl
/-- what the bits are told to be behind a turn's walks -/
theorem w_bits_all (N : NetOk a b c d) (O : Order b o) {row st : Nat} {l} {K : List (Str × Nat) → Prop} (h : ∀ bits, (∀ n ∈ keysOf a b c, valT bits n = some (envO (allOf a b c) row st o n).toNat) → K bits) :
    forW (keysOf a b c) ([] : List (Str × Nat)) (fun name1 bits1 nx1 bk1 => W_Net_wire_of (allOf a b c) name1 fun z4 => W_P_kind z4 fun z5 => if z5 ≠ (PySem.Str.ofString "sum") then (W_P_bit z4 bits1 row st fun z6 => (bits1.length < 1000000) ∧ nx1 (putT bits1 name1 z6)) else (nx1 bits1)) fun bits1 => W_Net_order (allOf a b c, d, o, l) fun z7 => forW z7 bits1 (fun name2 bits2 nx2 bk2 => W_Net_wire_of (allOf a b c) name2 fun z8 => W_P_bit z8 bits2 row st fun z9 => (bits2.length < 1000000) ∧ nx2 (putT bits2 name2 z9)) fun bits2 => K bits2 := by
  have un := N.un
  have kl : (keysOf a b c).length ≤ 62 := by
    have := N.na; have := N.nb; have := N.nc
    unfold keysOf sumN
    rw [List.length_append, List.length_append, List.length_map, List.length_map]; omega
  have ol : o.length ≤ 40 := by
    have := nodup_sub_len O.nd fun x hx => (O.mem x).mp hx
    have := N.nb
    unfold sumN at *
    rw [List.length_map] at *; omega
  refine forW_ind (fun pre s => (∀ n ∈ pre, n ∉ sumN b → valT s n = some (env0 (allOf a b c) row st n).toNat) ∧ s.length ≤ pre.length) ⟨fun n hn => (by cases hn), Nat.le_refl _⟩ (fun pre n post s nx bk e hs hn _ => ?_) fun s hs => ?_
  · obtain ⟨s1, s2⟩ := hs
    have pl : pre.length < 62 := by have := congrArg List.length e; rw [List.length_append, List.length_cons] at this; omega
    have hk : n ∈ keysOf a b c := by rw [e]; simp
    refine w_wire_of N.nm hk fun w hw => w_kind ?_
    have put : ∀ x : Nat, x = (env0 (allOf a b c) row st n).toNat → (s.length < 1000000) ∧ nx (putT s n x) := fun x ex => ⟨by omega, hn _ ⟨fun m hm hs => ?_, by rw [List.length_append]; exact Nat.le_trans putT_len (Nat.succ_le_succ s2)⟩⟩
    · by_cases q : kindV w ≠ Str.ofString "sum"
      · rw [if_pos q]
        have e0 : env0 (allOf a b c) row st n = baseB w row st := by unfold env0; rw [hw]
        match w, q, e0 with
        | .inl y, _, e0 => exact put _ (by rw [e0]; exact shr_one _ _)
        | .inr (.inl y), q, _ => exact absurd rfl q
        | .inr (.inr y), _, e0 => exact put _ (by rw [e0]; exact shr_one _ _)
      · rw [if_neg q]
        refine hn _ ⟨fun m hm hs => ?_, by rw [List.length_append]; exact Nat.le_succ_of_le s2⟩
        rcases List.mem_append.mp hm with z | z
        · exact s1 m z hs
        · rw [List.mem_singleton.mp z] at hs
          exact absurd ((kind_sum un hw).mp (Classical.not_not.mp q)) hs
    · rw [valT_putT]
      by_cases z : n = m
      · rw [if_pos z, ex, z]
      · rw [if_neg z]
        exact s1 m ((List.mem_append.mp hm).resolve_right fun y => z (List.mem_singleton.mp y).symm) hs
  · obtain ⟨s1, s2⟩ := hs
    show forW o s _ _
    refine forW_ind (fun pre t => (∀ n ∈ keysOf a b c, (n ∈ sumN b → n ∈ pre) → valT t n = some (envO (allOf a b c) row st pre n).toNat) ∧ t.length ≤ 62 + pre.length) ⟨fun n hn hs => ?_, by show s.length ≤ 62 + 0; omega⟩ (fun pre n post t nx bk e ht hn _ => ?_) fun t ht => ?_
    · exact s1 n hn fun z => by have := hs z; cases this
    · obtain ⟨t1, t2⟩ := ht
      have pl : pre.length < 40 := by have := congrArg List.length e; rw [List.length_append, List.length_cons] at this; omega
      have hs : n ∈ sumN b := (O.mem n).mp (by rw [e]; simp)
      obtain ⟨ws, hw⟩ := mem_sumN hs
      refine w_wire_of N.nm (sum_key hs) fun w hv => ?_
      rw [sum_val un hw] at hv
      cases hv
      show forW ws 0 _ _
      refine forW_fold (fun (y : Nat) m => y ^^^ (envO (allOf a b c) row st pre m).toNat) (fun m hm y nx2 bk2 h2 => ⟨_, t1 m (rd_sum N hw hm) (fun z => O.cl pre n post ws e hw m hm z), ?_⟩) ?_
      · rintro _ rfl; exact h2
      · have es := sumB_nat (envO (allOf a b c) row st pre) ws false
        rw [show (false : Bool).toNat = 0 from rfl] at es
        rw [es]
        refine ⟨by omega, hn _ ⟨fun m hm hm2 => ?_, by rw [List.length_append]; exact Nat.le_trans putT_len (Nat.succ_le_succ t2)⟩⟩
        show valT (putT t n _) m = some (envF (allOf a b c) (pre ++ [n]) _ m).toNat
        rw [valT_putT, envF_snoc]
        unfold updB
        by_cases z : n = m
        · subst z
          rw [if_pos rfl, if_pos rfl, needN_sum un hw]; rfl
        · rw [if_neg z, if_neg (fun y => z y.symm)]
          exact t1 m hm fun y => (List.mem_append.mp (hm2 y)).resolve_right fun q => z (List.mem_singleton.mp q).symm
    · exact h t fun n hn => ht.1 n hn fun z => (O.mem n).mpr z
/-- a turn -/
theorem w_run_step (N : NetOk a b c d) (O : Order b o) {l} {st row : Nat} {rep : List Nat} (hr : row < 2 ^ a.length) (hl : rep.length < 1000000) {R : Nat × Nat × List Nat → Prop}
    (h : R (ansV d (envO (allOf a b c) row st o), nxtV c (envO (allOf a b c) row st o), rep ++ [ansV d (envO (allOf a b c) row st o)])) : W_Run_step (allOf a b c, d, o, l) st rep row R := by
  have h1 := N.na; have h3 := N.nc; have h4 := N.nd
  refine w_in_names N.sml (w_is_mask fine_i (by omega) (fun _ => bT ?_) fun q => absurd (okA_nat.mpr hr) q)
  refine w_wire_names (w_bits_all N O fun bits hb => ?_)
  generalize envO (allOf a b c) row st o = e at h hb
  show forW (enumT d) 0 _ _
  refine forW_enum (fun pre s => s = maskB (pre.map e)) rfl (fun pre x post s nx bk es hs hn => ?_) fun s hs => ?_
  · subst hs
    have pl : pre.length < 6 := by have := congrArg List.length es; rw [List.length_append, List.length_cons] at this; omega
    refine ⟨_, hb x (rd_out N (by rw [es]; simp)), NShl_bit (by omega), ?_⟩
    rintro _ rfl
    refine hn _ ?_
    have := maskB_snoc (pre.map e) (e x)
    rw [List.length_map] at this
    rw [List.map_append]; exact this.symm
  · subst hs
    refine w_store_rows N.sml ?_
    refine forW_enum (fun pre s => s = maskB (pre.map fun p => e p.2)) rfl (fun pre x post s nx bk es hs hn => ?_) fun s hs => ?_
    · subst hs
      have pl : pre.length < 16 := by have := congrArg List.length es; rw [List.length_append, List.length_cons] at this; omega
      refine ⟨_, hb x.2 (rd_st N (by rw [es]; simp)), NShl_bit (by omega), ?_⟩
      rintro _ rfl
      refine hn _ ?_
      have := maskB_snoc (pre.map fun p => e p.2) (e x.2)
      rw [List.length_map] at this
      rw [List.map_append]; exact this.symm
    · subst hs
      exact ⟨hl, h⟩
end
/-! runs -/
def turnV (all : List (Str × WireV)) (c : RowsE) (d o : List Str) (t : List Nat × Nat) (row : Nat) : List Nat × Nat := (t.1 ++ [ansV d (envO all row t.2 o)], nxtV c (envO all row t.2 o))
def runV (all : List (Str × WireV)) (c : RowsE) (d o : List Str) (rows : List Nat) : List Nat × Nat := rows.foldl (turnV all c d o) ([], 0)
theorem runV_snoc (all : List (Str × WireV)) (c : RowsE) (d o : List Str) (rows : List Nat) (r : Nat) : runV all c d o (rows ++ [r]) = turnV all c d o (runV all c d o rows) r := by unfold runV; rw [List.foldl_append]; rfl
theorem runF_len (all : List (Str × WireV)) (c : RowsE) (d o : List Str) : ∀ (rows : List Nat) (t : List Nat × Nat), (rows.foldl (turnV all c d o) t).1.length = t.1.length + rows.length
  | [], _ => rfl
  | r :: rows, t => by
    rw [List.foldl_cons, runF_len all c d o rows, List.length_cons]
    show (t.1 ++ [_]).length + _ = _
    rw [List.length_append, List.length_singleton]; omega
theorem runV_len (all : List (Str × WireV)) (c : RowsE) (d o : List Str) (rows : List Nat) : (runV all c d o rows).1.length = rows.length := by unfold runV; rw [runF_len]; exact Nat.zero_add _
/-! sums -/
theorem sumF_xor (e f g : Str → Bool) (h : ∀ n, g n = xor (e n) (f n)) : ∀ (ws : List Str) (x y z : Bool), z = xor x y → ws.foldl (fun x m => xor x (g m)) z = xor (ws.foldl (fun x m => xor x (e m)) x) (ws.foldl (fun x m => xor x (f m)) y)
  | [], _, _, _, hz => hz
  | w :: ws, x, y, z, hz => by
    rw [List.foldl_cons, List.foldl_cons, List.foldl_cons]
    refine sumF_xor e f g h ws _ _ _ ?_
    rw [hz, h]
    cases x <;> cases y <;> cases e w <;> cases f w <;> rfl
theorem sumB_xor {e f g : Str → Bool} (h : ∀ n, g n = xor (e n) (f n)) (ws : List Str) : sumB g ws = xor (sumB e ws) (sumB f ws) := sumF_xor e f g h ws false false false rfl
theorem envF_xor (all : List (Str × WireV)) : ∀ (o : List Str) (e f g : Str → Bool), (∀ n, g n = xor (e n) (f n)) → ∀ n, envF all o g n = xor (envF all o e n) (envF all o f n)
  | [], _, _, _, h => h
  | m :: o, e, f, g, h => envF_xor all o _ _ _ fun n => by
    show updB g m _ n = xor (updB e m _ n) (updB f m _ n)
    unfold updB
    by_cases q : n = m
    · rw [if_pos q, if_pos q, if_pos q]; exact sumB_xor h _
    · rw [if_neg q, if_neg q, if_neg q]; exact h n
theorem env0_xor (all : List (Str × WireV)) (r r' s s' : Nat) (n : Str) : env0 all (r ^^^ r') (s ^^^ s') n = xor (env0 all r s n) (env0 all r' s' n) := by
  unfold env0
  cases valT all n with
  | none => rfl
  | some w =>
    match w with
    | .inl y => exact Nat.testBit_xor ..
    | .inr (.inl y) => rfl
    | .inr (.inr y) => exact Nat.testBit_xor ..
theorem envO_xor (all : List (Str × WireV)) (r r' s s' : Nat) (o : List Str) (n : Str) : envO all (r ^^^ r') (s ^^^ s') o n = xor (envO all r s o n) (envO all r' s' o n) := envF_xor all o _ _ _ (env0_xor all r r' s s') n
theorem maskB_xor {α : Type} {e f g : α → Bool} (h : ∀ n, g n = xor (e n) (f n)) (l : List α) : maskB (l.map g) = maskB (l.map e) ^^^ maskB (l.map f) := Nat.eq_of_testBit_eq fun j => by
  rw [Nat.testBit_xor, maskB_bit, maskB_bit, maskB_bit, List.getD_eq_getElem?_getD, List.getD_eq_getElem?_getD, List.getD_eq_getElem?_getD, List.getElem?_map, List.getElem?_map, List.getElem?_map]
  cases l[j]? with
  | none => rfl
  | some x => exact h x
theorem ansV_xor (all : List (Str × WireV)) (d o : List Str) (r r' s s' : Nat) : ansV d (envO all (r ^^^ r') (s ^^^ s') o) = ansV d (envO all r s o) ^^^ ansV d (envO all r' s' o) := maskB_xor (envO_xor all r r' s s' o) d
theorem nxtV_xor (all : List (Str × WireV)) (c : RowsE) (o : List Str) (r r' s s' : Nat) : nxtV c (envO all (r ^^^ r') (s ^^^ s') o) = nxtV c (envO all r s o) ^^^ nxtV c (envO all r' s' o) := maskB_xor (fun p : Str × Str => envO_xor all r r' s s' o p.2) c
/-- rows that are sums are answered by sums -/
theorem runV_xor (all : List (Str × WireV)) (c : RowsE) (d o : List Str) : ∀ (ps : List (Nat × Nat)) (u v w : List Nat × Nat), w.1 = List.zipWith (· ^^^ ·) u.1 v.1 → u.1.length = v.1.length → w.2 = u.2 ^^^ v.2 → ∀ u' v' w', u' = (ps.map (·.1)).foldl (turnV all c d o) u → v' = (ps.map (·.2)).foldl (turnV all c d o) v → w' = (ps.map fun p => p.1 ^^^ p.2).foldl (turnV all c d o) w → w'.1 = List.zipWith (· ^^^ ·) u'.1 v'.1 ∧ w'.2 = u'.2 ^^^ v'.2
  | [], u, v, w, h1, _, h2, _, _, _, rfl, rfl, rfl => ⟨h1, h2⟩
  | p :: ps, u, v, w, h1, hl, h2, u', v', w', e1, e2, e3 => by
    rw [List.map_cons, List.foldl_cons] at e1 e2 e3
    refine runV_xor all c d o ps _ _ _ ?_ ?_ ?_ u' v' w' e1 e2 e3
    · show w.1 ++ [ansV d (envO all (p.1 ^^^ p.2) w.2 o)] = List.zipWith _ (u.1 ++ [_]) (v.1 ++ [_])
      rw [List.zipWith_append hl, ← h1, h2, ansV_xor]; rfl
    · show (u.1 ++ [_]).length = (v.1 ++ [_]).length
      rw [List.length_append, List.length_append, hl]; rfl
    · show nxtV c (envO all (p.1 ^^^ p.2) w.2 o) = nxtV c _ ^^^ nxtV c _
      rw [h2, nxtV_xor]
theorem env0_zero (all : List (Str × WireV)) (n : Str) : env0 all 0 0 n = false := by
  unfold env0
  cases valT all n with
  | none => rfl
  | some w =>
    match w with
    | .inl y => exact Nat.zero_testBit _
    | .inr (.inl y) => rfl
    | .inr (.inr y) => exact Nat.zero_testBit _
theorem sumB_zero {e : Str → Bool} (h : ∀ n, e n = false) : ∀ ws : List Str, sumB e ws = false := by
  intro ws
  unfold sumB
  induction ws with
  | nil => rfl
  | cons w ws ih => rw [List.foldl_cons, h]; exact ih
theorem envF_zero (all : List (Str × WireV)) : ∀ (o : List Str) (e : Str → Bool), (∀ n, e n = false) → ∀ n, envF all o e n = false
  | [], _, h => h
  | m :: o, e, h => envF_zero all o _ fun n => by
    show updB e m _ n = false
    unfold updB
    by_cases q : n = m
    · rw [if_pos q]; exact sumB_zero h _
    · rw [if_neg q]; exact h n
theorem envO_zero (all : List (Str × WireV)) (o : List Str) (n : Str) : envO all 0 0 o n = false := envF_zero all o _ (env0_zero all) n
theorem maskB_zero {α : Type} {e : α → Bool} (h : ∀ n, e n = false) : ∀ l : List α, maskB (l.map e) = 0
  | [] => rfl
  | x :: l => by rw [List.map_cons, maskB, h, maskB_zero h l]; rfl
theorem turnV_zero (all : List (Str × WireV)) (c : RowsE) (d o : List Str) (t : List Nat) : turnV all c d o (t, 0) 0 = (t ++ [0], 0) := by
  show (t ++ [ansV d (envO all 0 0 o)], nxtV c (envO all 0 0 o)) = _
  rw [show ansV d (envO all 0 0 o) = 0 from maskB_zero (envO_zero all o) d, show nxtV c (envO all 0 0 o) = 0 from maskB_zero (fun p : Str × Str => envO_zero all o p.2) c]
theorem runF_zero (all : List (Str × WireV)) (c : RowsE) (d o : List Str) : ∀ (n : Nat) (t : List Nat), (List.replicate n 0).foldl (turnV all c d o) (t, 0) = (t ++ List.replicate n 0, 0)
  | 0, t => by rw [List.replicate_zero, List.foldl_nil, List.append_nil]
  | n + 1, t => by rw [List.replicate_succ, List.foldl_cons, turnV_zero, runF_zero all c d o n, List.append_assoc]; rfl
theorem runF_more (all : List (Str × WireV)) (c : RowsE) (d o : List Str) : ∀ (rows : List Nat) (t q : List Nat) (s : Nat), rows.foldl (turnV all c d o) (q ++ t, s) = (q ++ (rows.foldl (turnV all c d o) (t, s)).1, (rows.foldl (turnV all c d o) (t, s)).2)
  | [], _, _, _ => rfl
  | r :: rows, t, q, s => by
    rw [List.foldl_cons, List.foldl_cons]
    show rows.foldl (turnV all c d o) (q ++ t ++ [_], _) = _
    rw [List.append_assoc, runF_more all c d o rows]; rfl
theorem flat_rep (n : Nat) : (List.replicate n [0]).flatten = List.replicate n (0 : Nat) := by
  induction n with
  | zero => rfl
  | succ n ih => rw [List.replicate_succ, List.flatten_cons, ih, List.replicate_succ]; rfl
theorem map_zipW {α : Type} (f : Nat → Nat → α) : ∀ (l m : List Nat), (l.zip m).map (fun p => f p.1 p.2) = List.zipWith f l m
  | [], _ => rfl
  | _ :: _, [] => rfl
  | x :: l, y :: m => by rw [List.zip_cons_cons, List.map_cons, List.zipWith_cons_cons, map_zipW f l m]
end My
namespace My
open Wk PySem
theorem w_run {a : List Str} {b : RowsS} {c : RowsE} {d o : List Str} (N : NetOk a b c d) (O : Order b o) {l} {rows : List Nat} (hr : ∀ r ∈ rows, r < 2 ^ a.length) (hl : rows.length < 1000000) {R : List Nat × Nat → Prop} (h : R (runV (allOf a b c) c d o rows)) : W_run (allOf a b c, d, o, l) rows R := by
  refine forW_ind (fun pre (t : Nat × List Nat) => (t.2, t.1) = runV (allOf a b c) c d o pre) rfl (fun pre r post t nx bk e ht hn _ => ?_) fun t ht => ?_
  · obtain ⟨st, rep⟩ := t
    have hlen : rep.length = pre.length := by rw [← runV_len (allOf a b c) c d o pre, ← ht]
    have pl : pre.length < rows.length := by have := congrArg List.length e; rw [List.length_append, List.length_cons] at this; omega
    refine w_run_step N O (hr r (by rw [e]; simp)) (by omega) (hn _ ?_)
    rw [runV_snoc, ← ht]; rfl
  · obtain ⟨st, rep⟩ := t
    show R (rep, st)
    rw [show (rep, st) = runV (allOf a b c) c d o rows from ht]; exact h
theorem w_answers_of {a : List Str} {b : RowsS} {c : RowsE} {d o : List Str} (N : NetOk a b c d) (O : Order b o) {l} {rows : List Nat} (hr : ∀ r ∈ rows, r < 2 ^ a.length) (hl : rows.length < 1000000) {R : List Nat → Prop} (h : R (runV (allOf a b c) c d o rows).1) : W_answers_of (allOf a b c, d, o, l) rows R := w_run (R := fun t => R t.1) N O hr hl h
theorem w_law {s : List Int} (hs : s.length ≤ 63) {R : Bool → Prop} (h : R true) : W_law s R := by
  refine w_net (by decide) fun c x y z ws at_ ends outs _ _ _ D => ?_
  have N := D.ok
  generalize insV c x = a at N
  generalize turnL (smV c z ws) at_ = b at N
  generalize (stsV c y).zip ends = e at N
  refine w_net_init N fun o l O => ?_
  have h1 := N.na
  have cl : (cutT s (some 9) (some 61)).length ≤ 52 := by
    show ((s.drop 9).take (61 - 9)).length ≤ 52
    rw [List.length_take]; omega
  refine ⟨by omega, compW_map (fun i => modN i (2 ^ a.length)) (fun i _ kk hk => ⟨by show a.length < 100000000; omega, hk⟩) ?_⟩
  have rl : ((cutT s (some 9) (some 61)).map fun i => modN i (2 ^ a.length)).length ≤ 52 := by rw [List.length_map]; exact cl
  have rb : ∀ r ∈ (cutT s (some 9) (some 61)).map fun i => modN i (2 ^ a.length), r < 2 ^ a.length := fun r hr => by
    obtain ⟨i, _, ei⟩ := List.mem_map.mp hr
    rw [← ei]; exact modN_lt (Nat.two_pow_pos _)
  generalize ((cutT s (some 9) (some 61)).map fun i => modN i (2 ^ a.length)) = rows at rl rb
  rintro half rfl
  show W_run _ (rows.take (rows.length / 2)) _
  have l1 : (rows.take (rows.length / 2)).length = rows.length / 2 := by rw [List.length_take]; omega
  have l2 : ((rows.drop (rows.length / 2)).take (2 * (rows.length / 2) - rows.length / 2)).length = rows.length / 2 := by rw [List.length_take, List.length_drop]; omega
  have b1 : ∀ r ∈ rows.take (rows.length / 2), r < 2 ^ a.length := fun r hr => rb r (List.mem_of_mem_take hr)
  have b2 : ∀ r ∈ (rows.drop (rows.length / 2)).take (2 * (rows.length / 2) - rows.length / 2), r < 2 ^ a.length := fun r hr => rb r (List.mem_of_mem_drop (List.mem_of_mem_take hr))
  have hn : rows.length / 2 ≤ 26 := by omega
  show W_run _ (rows.take (rows.length / 2)) fun z3 => W_run _ ((rows.drop (rows.length / 2)).take (2 * (rows.length / 2) - rows.length / 2)) fun z4 => _ ∧ compW ((rows.take (rows.length / 2)).zip ((rows.drop (rows.length / 2)).take (2 * (rows.length / 2) - rows.length / 2))) _ _
  generalize hA : rows.take (rows.length / 2) = A at l1 b1
  generalize hB : (rows.drop (rows.length / 2)).take (2 * (rows.length / 2) - rows.length / 2) = B at l2 b2
  generalize hH : rows.length / 2 = n at l1 l2 hn
  have hcA : cutT rows none (some n) = A := by rw [← hA, ← hH]; rfl
  refine w_run N O b1 (by omega) (w_run N O b2 (by omega) ⟨?_, compW_map (fun p => p.1 ^^^ p.2) (fun p _ kk hk => hk) ?_⟩)
  · rw [hcA]
    show (A.zip (cutT rows (some n) (some (2 * n)))).length < 1000000
    rw [List.length_zip]; omega
  have bz : ∀ r ∈ (A.zip B).map (fun p => p.1 ^^^ p.2), r < 2 ^ a.length := fun r hr => by
    obtain ⟨p, hp, ep⟩ := List.mem_map.mp hr
    obtain ⟨q1, q2⟩ := List.of_mem_zip (show (p.1, p.2) ∈ _ from hp)
    rw [← ep]; exact Nat.xor_lt_two_pow (b1 _ q1) (b2 _ q2)
  refine w_run N O bz (by rw [List.length_map, List.length_zip]; omega) ?_
  have ly : (A.zip B).length = n := by rw [List.length_zip]; omega
  have key := runV_xor (allOf a b e) e outs o (A.zip B) ([], 0) ([], 0) ([], 0) rfl rfl rfl (runV (allOf a b e) e outs o A) (runV (allOf a b e) e outs o B) (runV (allOf a b e) e outs o ((A.zip B).map fun p => p.1 ^^^ p.2)) (by rw [List.map_fst_zip (by omega)]; rfl) (by rw [List.map_snd_zip (by omega)]; rfl) rfl
  have la := runV_len (allOf a b e) e outs o A
  have lb := runV_len (allOf a b e) e outs o B
  generalize runV (allOf a b e) e outs o ((A.zip B).map fun p => p.1 ^^^ p.2) = rz at key
  have hla : runV (allOf a b e) e outs o (List.replicate 5 0 ++ A) = (List.replicate 5 0 ++ (runV (allOf a b e) e outs o A).1, (runV (allOf a b e) e outs o A).2) := by
    unfold runV
    rw [List.foldl_append, runF_zero, List.nil_append]
    have := runF_more (allOf a b e) e outs o A [] (List.replicate 5 0) 0
    rw [List.append_nil] at this
    exact this
  generalize runV (allOf a b e) e outs o A = ra at key la hla
  generalize runV (allOf a b e) e outs o B = rb' at key lb
  refine jnI ⟨by rw [List.length_zip]; omega, compW_map (fun p => p.1 ^^^ p.2) (fun p _ kk hk => hk) ?_⟩
  rw [map_zipW (fun p q => p ^^^ q), if_neg (fun q => q key.1), decide_eq_false (fun q => q key.2)]
  refine bF ?_
  rw [flat_rep]
  have z1 : ∀ r ∈ List.replicate n 0, r < 2 ^ a.length := fun r hr => by rw [(List.mem_replicate.mp hr).2]; exact Nat.two_pow_pos _
  have e0 : runV (allOf a b e) e outs o (List.replicate n 0) = (List.replicate n 0, 0) := by
    unfold runV; rw [runF_zero]; rfl
  refine ⟨⟨by show 1 * n < 1000000; omega, by omega⟩, w_run N O z1 (by rw [List.length_replicate]; omega) ⟨⟨by show 1 * n < 1000000; omega, by omega⟩, ?_⟩⟩
  rw [e0, if_neg (fun q => q rfl)]
  have e5 : (List.replicate 5 [0]).flatten = List.replicate 5 (0 : Nat) := flat_rep 5
  rw [e5, hcA]
  have z5 : ∀ r ∈ List.replicate 5 0 ++ A, r < 2 ^ a.length := fun r hr => by
    rcases List.mem_append.mp hr with q | q
    · rw [(List.mem_replicate.mp q).2]; exact Nat.two_pow_pos _
    · exact b1 r q
  refine ⟨⟨by decide, by decide⟩, by rw [List.length_replicate]; omega, w_answers_of N O z5 (by rw [List.length_append, List.length_replicate]; omega) ⟨⟨by decide, by decide⟩, by rw [List.length_replicate]; omega, ?_⟩⟩
  rw [hla, decide_eq_true rfl]; exact h
end My
namespace My
open PySem L2 Wk
theorem all_mk {l : PySem.W.OpenLaw} {w : World} {K : PySem.W.Frag} {h : Heap} {mg : Str → Option Value} {fa f_Wire___init__ f_Wire_needs f_InWire___init__ f_InWire_kind f_InWire_bit f_InWire_hang f_SumWire___init__ f_SumWire_kind f_SumWire_needs f_SumWire_bit f_SumWire_hang f_StoreWire___init__ f_StoreWire_kind f_StoreWire_bit f_StoreWire_hang f_is_whole f_is_mask f_is_name f_need_sizes f_Net_put_in f_Net_of_kind f_Net_readings f_Net_wire_of f_Net_lay_out f_Net___init__ f_Net_in_names f_Net_sum_rows f_Net_store_rows f_Net_out_wires f_Net_wire_names f_Net_order f_Run___init__ f_Run_step f_Run_state f_Run_answered f_answers_of f_cell f_mix f_name f_wires f_net f_run f_law C_InWire C_SumWire C_StoreWire C_Net C_Run C_Wire : Addr} (X : K.In h) (G : h.Ns mainGlobals mg) (hfa : mg "law" = some (.ref fa))
    {oc_Wire___init__ kV_Wire___init__ dc_Wire___init__ pm_Wire___init__ cd_Wire___init__ ct_Wire___init__ : Value} {od_Wire___init__ an_Wire___init__ : Option Addr} {sl_Wire___init__ : Array (Option Value)} {oc_Wire_needs kV_Wire_needs dc_Wire_needs pm_Wire_needs cd_Wire_needs ct_Wire_needs : Value} {od_Wire_needs an_Wire_needs : Option Addr} {sl_Wire_needs : Array (Option Value)} {oc_InWire___init__ kV_InWire___init__ dc_InWire___init__ pm_InWire___init__ cd_InWire___init__ ct_InWire___init__ : Value} {od_InWire___init__ an_InWire___init__ : Option Addr} {sl_InWire___init__ : Array (Option Value)} {oc_InWire_kind kV_InWire_kind dc_InWire_kind pm_InWire_kind cd_InWire_kind ct_InWire_kind : Value} {od_InWire_kind an_InWire_kind : Option Addr} {sl_InWire_kind : Array (Option Value)} {oc_InWire_bit kV_InWire_bit dc_InWire_bit pm_InWire_bit cd_InWire_bit ct_InWire_bit : Value} {od_InWire_bit an_InWire_bit : Option Addr} {sl_InWire_bit : Array (Option Value)} {oc_InWire_hang kV_InWire_hang dc_InWire_hang pm_InWire_hang cd_InWire_hang ct_InWire_hang : Value} {od_InWire_hang an_InWire_hang : Option Addr} {sl_InWire_hang : Array (Option Value)} {oc_SumWire___init__ kV_SumWire___init__ dc_SumWire___init__ pm_SumWire___init__ cd_SumWire___init__ ct_SumWire___init__ : Value} {od_SumWire___init__ an_SumWire___init__ : Option Addr} {sl_SumWire___init__ : Array (Option Value)} {oc_SumWire_kind kV_SumWire_kind dc_SumWire_kind pm_SumWire_kind cd_SumWire_kind ct_SumWire_kind : Value} {od_SumWire_kind an_SumWire_kind : Option Addr} {sl_SumWire_kind : Array (Option Value)} {oc_SumWire_needs kV_SumWire_needs dc_SumWire_needs pm_SumWire_needs cd_SumWire_needs ct_SumWire_needs : Value} {od_SumWire_needs an_SumWire_needs : Option Addr} {sl_SumWire_needs : Array (Option Value)} {oc_SumWire_bit kV_SumWire_bit dc_SumWire_bit pm_SumWire_bit cd_SumWire_bit ct_SumWire_bit : Value} {od_SumWire_bit an_SumWire_bit : Option Addr} {sl_SumWire_bit : Array (Option Value)} {oc_SumWire_hang kV_SumWire_hang dc_SumWire_hang pm_SumWire_hang cd_SumWire_hang ct_SumWire_hang : Value} {od_SumWire_hang an_SumWire_hang : Option Addr} {sl_SumWire_hang : Array (Option Value)} {oc_StoreWire___init__ kV_StoreWire___init__ dc_StoreWire___init__ pm_StoreWire___init__ cd_StoreWire___init__ ct_StoreWire___init__ : Value} {od_StoreWire___init__ an_StoreWire___init__ : Option Addr} {sl_StoreWire___init__ : Array (Option Value)} {oc_StoreWire_kind kV_StoreWire_kind dc_StoreWire_kind pm_StoreWire_kind cd_StoreWire_kind ct_StoreWire_kind : Value} {od_StoreWire_kind an_StoreWire_kind : Option Addr} {sl_StoreWire_kind : Array (Option Value)} {oc_StoreWire_bit kV_StoreWire_bit dc_StoreWire_bit pm_StoreWire_bit cd_StoreWire_bit ct_StoreWire_bit : Value} {od_StoreWire_bit an_StoreWire_bit : Option Addr} {sl_StoreWire_bit : Array (Option Value)} {oc_StoreWire_hang kV_StoreWire_hang dc_StoreWire_hang pm_StoreWire_hang cd_StoreWire_hang ct_StoreWire_hang : Value} {od_StoreWire_hang an_StoreWire_hang : Option Addr} {sl_StoreWire_hang : Array (Option Value)} {oc_is_whole kV_is_whole dc_is_whole pm_is_whole cd_is_whole ct_is_whole : Value} {od_is_whole an_is_whole : Option Addr} {sl_is_whole : Array (Option Value)} {oc_is_mask kV_is_mask dc_is_mask pm_is_mask cd_is_mask ct_is_mask : Value} {od_is_mask an_is_mask : Option Addr} {sl_is_mask : Array (Option Value)} {oc_is_name kV_is_name dc_is_name pm_is_name cd_is_name ct_is_name : Value} {od_is_name an_is_name : Option Addr} {sl_is_name : Array (Option Value)} {oc_need_sizes kV_need_sizes dc_need_sizes pm_need_sizes cd_need_sizes ct_need_sizes : Value} {od_need_sizes an_need_sizes : Option Addr} {sl_need_sizes : Array (Option Value)} {oc_Net_put_in kV_Net_put_in dc_Net_put_in pm_Net_put_in cd_Net_put_in ct_Net_put_in : Value} {od_Net_put_in an_Net_put_in : Option Addr} {sl_Net_put_in : Array (Option Value)} {oc_Net_of_kind kV_Net_of_kind dc_Net_of_kind pm_Net_of_kind cd_Net_of_kind ct_Net_of_kind : Value} {od_Net_of_kind an_Net_of_kind : Option Addr} {sl_Net_of_kind : Array (Option Value)} {oc_Net_readings kV_Net_readings dc_Net_readings pm_Net_readings cd_Net_readings ct_Net_readings : Value} {od_Net_readings an_Net_readings : Option Addr} {sl_Net_readings : Array (Option Value)} {oc_Net_wire_of kV_Net_wire_of dc_Net_wire_of pm_Net_wire_of cd_Net_wire_of ct_Net_wire_of : Value} {od_Net_wire_of an_Net_wire_of : Option Addr} {sl_Net_wire_of : Array (Option Value)} {oc_Net_lay_out kV_Net_lay_out dc_Net_lay_out pm_Net_lay_out cd_Net_lay_out ct_Net_lay_out : Value} {od_Net_lay_out an_Net_lay_out : Option Addr} {sl_Net_lay_out : Array (Option Value)} {oc_Net___init__ kV_Net___init__ dc_Net___init__ pm_Net___init__ cd_Net___init__ ct_Net___init__ : Value} {od_Net___init__ an_Net___init__ : Option Addr} {sl_Net___init__ : Array (Option Value)} {oc_Net_in_names kV_Net_in_names dc_Net_in_names pm_Net_in_names cd_Net_in_names ct_Net_in_names : Value} {od_Net_in_names an_Net_in_names : Option Addr} {sl_Net_in_names : Array (Option Value)} {oc_Net_sum_rows kV_Net_sum_rows dc_Net_sum_rows pm_Net_sum_rows cd_Net_sum_rows ct_Net_sum_rows : Value} {od_Net_sum_rows an_Net_sum_rows : Option Addr} {sl_Net_sum_rows : Array (Option Value)} {oc_Net_store_rows kV_Net_store_rows dc_Net_store_rows pm_Net_store_rows cd_Net_store_rows ct_Net_store_rows : Value} {od_Net_store_rows an_Net_store_rows : Option Addr} {sl_Net_store_rows : Array (Option Value)} {oc_Net_out_wires kV_Net_out_wires dc_Net_out_wires pm_Net_out_wires cd_Net_out_wires ct_Net_out_wires : Value} {od_Net_out_wires an_Net_out_wires : Option Addr} {sl_Net_out_wires : Array (Option Value)} {oc_Net_wire_names kV_Net_wire_names dc_Net_wire_names pm_Net_wire_names cd_Net_wire_names ct_Net_wire_names : Value} {od_Net_wire_names an_Net_wire_names : Option Addr} {sl_Net_wire_names : Array (Option Value)} {oc_Net_order kV_Net_order dc_Net_order pm_Net_order cd_Net_order ct_Net_order : Value} {od_Net_order an_Net_order : Option Addr} {sl_Net_order : Array (Option Value)} {oc_Run___init__ kV_Run___init__ dc_Run___init__ pm_Run___init__ cd_Run___init__ ct_Run___init__ : Value} {od_Run___init__ an_Run___init__ : Option Addr} {sl_Run___init__ : Array (Option Value)} {oc_Run_step kV_Run_step dc_Run_step pm_Run_step cd_Run_step ct_Run_step : Value} {od_Run_step an_Run_step : Option Addr} {sl_Run_step : Array (Option Value)} {oc_Run_state kV_Run_state dc_Run_state pm_Run_state cd_Run_state ct_Run_state : Value} {od_Run_state an_Run_state : Option Addr} {sl_Run_state : Array (Option Value)} {oc_Run_answered kV_Run_answered dc_Run_answered pm_Run_answered cd_Run_answered ct_Run_answered : Value} {od_Run_answered an_Run_answered : Option Addr} {sl_Run_answered : Array (Option Value)} {oc_answers_of kV_answers_of dc_answers_of pm_answers_of cd_answers_of ct_answers_of : Value} {od_answers_of an_answers_of : Option Addr} {sl_answers_of : Array (Option Value)} {oc_cell kV_cell dc_cell pm_cell cd_cell ct_cell : Value} {od_cell an_cell : Option Addr} {sl_cell : Array (Option Value)} {oc_mix kV_mix dc_mix pm_mix cd_mix ct_mix : Value} {od_mix an_mix : Option Addr} {sl_mix : Array (Option Value)} {oc_name kV_name dc_name pm_name cd_name ct_name : Value} {od_name an_name : Option Addr} {sl_name : Array (Option Value)} {oc_wires kV_wires dc_wires pm_wires cd_wires ct_wires : Value} {od_wires an_wires : Option Addr} {sl_wires : Array (Option Value)} {oc_net kV_net dc_net pm_net cd_net ct_net : Value} {od_net an_net : Option Addr} {sl_net : Array (Option Value)} {oc_run kV_run dc_run pm_run cd_run ct_run : Value} {od_run an_run : Option Addr} {sl_run : Array (Option Value)} {oc_law kV_law dc_law pm_law cd_law ct_law : Value} {od_law an_law : Option Addr} {sl_law : Array (Option Value)}
    (aC_InWire : PySem.W.nsIn K mainGlobals "InWire" = some (some (.ref C_InWire))) (pg_InWire : PySem.W.plainGet K C_InWire Str.empty = true) (hd_InWire : PySem.W.hasDictIn K C_InWire = true) (po_InWire : PySem.W.plainOver K C_InWire = true) (sa_InWire : PySem.W.findIn K (.ref C_InWire) "__setattr__" = some (some (.builtin "object.__setattr__"))) (mk_InWire : PySem.W.makesIn K C_InWire = true) (kc_InWire : PySem.W.keepIn K (.ref C_InWire) = true)
    (na_InWire_name : PySem.W.findIn K (.ref C_InWire) "name" = some none)
    (na_InWire_number : PySem.W.findIn K (.ref C_InWire) "number" = some none)
    (aC_SumWire : PySem.W.nsIn K mainGlobals "SumWire" = some (some (.ref C_SumWire))) (pg_SumWire : PySem.W.plainGet K C_SumWire Str.empty = true) (hd_SumWire : PySem.W.hasDictIn K C_SumWire = true) (po_SumWire : PySem.W.plainOver K C_SumWire = true) (sa_SumWire : PySem.W.findIn K (.ref C_SumWire) "__setattr__" = some (some (.builtin "object.__setattr__"))) (mk_SumWire : PySem.W.makesIn K C_SumWire = true) (kc_SumWire : PySem.W.keepIn K (.ref C_SumWire) = true)
    (na_SumWire_name : PySem.W.findIn K (.ref C_SumWire) "name" = some none)
    (na_SumWire_wires : PySem.W.findIn K (.ref C_SumWire) "wires" = some none)
    (aC_StoreWire : PySem.W.nsIn K mainGlobals "StoreWire" = some (some (.ref C_StoreWire))) (pg_StoreWire : PySem.W.plainGet K C_StoreWire Str.empty = true) (hd_StoreWire : PySem.W.hasDictIn K C_StoreWire = true) (po_StoreWire : PySem.W.plainOver K C_StoreWire = true) (sa_StoreWire : PySem.W.findIn K (.ref C_StoreWire) "__setattr__" = some (some (.builtin "object.__setattr__"))) (mk_StoreWire : PySem.W.makesIn K C_StoreWire = true) (kc_StoreWire : PySem.W.keepIn K (.ref C_StoreWire) = true)
    (na_StoreWire_name : PySem.W.findIn K (.ref C_StoreWire) "name" = some none)
    (na_StoreWire_wire : PySem.W.findIn K (.ref C_StoreWire) "wire" = some none)
    (na_StoreWire_number : PySem.W.findIn K (.ref C_StoreWire) "number" = some none)
    (aC_Net : PySem.W.nsIn K mainGlobals "Net" = some (some (.ref C_Net))) (pg_Net : PySem.W.plainGet K C_Net Str.empty = true) (hd_Net : PySem.W.hasDictIn K C_Net = true) (po_Net : PySem.W.plainOver K C_Net = true) (sa_Net : PySem.W.findIn K (.ref C_Net) "__setattr__" = some (some (.builtin "object.__setattr__"))) (mk_Net : PySem.W.makesIn K C_Net = true) (kc_Net : PySem.W.keepIn K (.ref C_Net) = true)
    (na_Net_all : PySem.W.findIn K (.ref C_Net) "all" = some none)
    (na_Net_ends : PySem.W.findIn K (.ref C_Net) "ends" = some none)
    (na_Net_line_up : PySem.W.findIn K (.ref C_Net) "line_up" = some none)
    (na_Net_laid : PySem.W.findIn K (.ref C_Net) "laid" = some none)
    (aC_Run : PySem.W.nsIn K mainGlobals "Run" = some (some (.ref C_Run))) (pg_Run : PySem.W.plainGet K C_Run Str.empty = true) (hd_Run : PySem.W.hasDictIn K C_Run = true) (po_Run : PySem.W.plainOver K C_Run = true) (sa_Run : PySem.W.findIn K (.ref C_Run) "__setattr__" = some (some (.builtin "object.__setattr__"))) (mk_Run : PySem.W.makesIn K C_Run = true) (kc_Run : PySem.W.keepIn K (.ref C_Run) = true)
    (na_Run_net : PySem.W.findIn K (.ref C_Run) "net" = some none)
    (na_Run_held : PySem.W.findIn K (.ref C_Run) "held" = some none)
    (na_Run_bits : PySem.W.findIn K (.ref C_Run) "bits" = some none)
    (na_Run_replies : PySem.W.findIn K (.ref C_Run) "replies" = some none)
    (aC_Wire : PySem.W.nsIn K mainGlobals "Wire" = some (some (.ref C_Wire))) (rd_Wire : PySem.W.readsIn K C_Wire (.type "type") = true) (ga_Wire : PySem.W.specialIn K (.ref C_Wire) "__getattribute__" = some (some (.builtin "type.__getattribute__")))
    (iX_InWire : PySem.W.isClsIn K C_InWire = true) (tX_InWire : PySem.W.typeIn K (.ref C_InWire) = some (.type "type"))
    (iX_StoreWire : PySem.W.isClsIn K C_StoreWire = true) (tX_StoreWire : PySem.W.typeIn K (.ref C_StoreWire) = some (.type "type"))
    (iX_SumWire : PySem.W.isClsIn K C_SumWire = true) (tX_SumWire : PySem.W.typeIn K (.ref C_SumWire) = some (.type "type"))
    (iX_Wire : PySem.W.isClsIn K C_Wire = true) (tX_Wire : PySem.W.typeIn K (.ref C_Wire) = some (.type "type"))
    {t_MOST_INS : Tok} (u_MOST_INS : PySem.W.nsIn K mainGlobals "MOST_INS" = some (some (.int 6 t_MOST_INS)))
    {t_MOST_OUTS : Tok} (u_MOST_OUTS : PySem.W.nsIn K mainGlobals "MOST_OUTS" = some (some (.int 6 t_MOST_OUTS)))
    {t_MOST_STORES : Tok} (u_MOST_STORES : PySem.W.nsIn K mainGlobals "MOST_STORES" = some (some (.int 16 t_MOST_STORES)))
    {t_MOST_SUMS : Tok} (u_MOST_SUMS : PySem.W.nsIn K mainGlobals "MOST_SUMS" = some (some (.int 40 t_MOST_SUMS)))
    {t_MOST_WIRES : Tok} (u_MOST_WIRES : PySem.W.nsIn K mainGlobals "MOST_WIRES" = some (some (.int 24 t_MOST_WIRES)))
    {t_FIGURES : Tok} (u_FIGURES : PySem.W.nsIn K mainGlobals "FIGURES" = some (some (.str (PySem.Str.ofString "0123456789") t_FIGURES)))
    {t_LETTERS : Tok} (u_LETTERS : PySem.W.nsIn K mainGlobals "LETTERS" = some (some (.str (PySem.Str.ofString "abcdefghijklmnopqrstuvwxyz") t_LETTERS)))
    (ea_InWire : PySem.W.findIn K (.ref C_InWire) "__class__" = some (some (.builtin "object.__class__"))) (em_InWire : PySem.W.mroIn K C_InWire (.type "object") = some true)
    (ea_StoreWire : PySem.W.findIn K (.ref C_StoreWire) "__class__" = some (some (.builtin "object.__class__"))) (em_StoreWire : PySem.W.mroIn K C_StoreWire (.type "object") = some true)
    (ea_SumWire : PySem.W.findIn K (.ref C_SumWire) "__class__" = some (some (.builtin "object.__class__"))) (em_SumWire : PySem.W.mroIn K C_SumWire (.type "object") = some true)
    (eN : PySem.W.specialIn K (.builtin "object.__class__") "__get__" = some (some (.builtin "getset_descriptor.__get__"))) (eT : PySem.W.takesIn K (.builtin "object.__class__") = some true)
    (sX_InWire_InWire : PySem.W.subIn K (.ref C_InWire) (.ref C_InWire) = some true)
    (sX_InWire_StoreWire : PySem.W.subIn K (.ref C_InWire) (.ref C_StoreWire) = some false)
    (sX_InWire_SumWire : PySem.W.subIn K (.ref C_InWire) (.ref C_SumWire) = some false)
    (sX_InWire_Wire : PySem.W.subIn K (.ref C_InWire) (.ref C_Wire) = some true)
    (sX_StoreWire_InWire : PySem.W.subIn K (.ref C_StoreWire) (.ref C_InWire) = some false)
    (sX_StoreWire_StoreWire : PySem.W.subIn K (.ref C_StoreWire) (.ref C_StoreWire) = some true)
    (sX_StoreWire_SumWire : PySem.W.subIn K (.ref C_StoreWire) (.ref C_SumWire) = some false)
    (sX_StoreWire_Wire : PySem.W.subIn K (.ref C_StoreWire) (.ref C_Wire) = some true)
    (sX_SumWire_InWire : PySem.W.subIn K (.ref C_SumWire) (.ref C_InWire) = some false)
    (sX_SumWire_StoreWire : PySem.W.subIn K (.ref C_SumWire) (.ref C_StoreWire) = some false)
    (sX_SumWire_SumWire : PySem.W.subIn K (.ref C_SumWire) (.ref C_SumWire) = some true)
    (sX_SumWire_Wire : PySem.W.subIn K (.ref C_SumWire) (.ref C_Wire) = some true)
    (a_Wire___init__ : PySem.W.findCls K (.ref C_Wire) (.type "type") "__init__" = some (.val (.ref f_Wire___init__))) (i_Wire___init__ : PySem.W.isFn K (.ref f_Wire___init__) = true)
    (l_Wire___init__ : K.lookup f_Wire___init__ = some ⟨oc_Wire___init__, od_Wire___init__, .func (PySem.W.fnOf "__init__" "Wire.__init__" (defArgs s_Wire___init__) (defBody s_Wire___init__) (defScope s_Wire___init__) .none kV_Wire___init__ dc_Wire___init__ pm_Wire___init__ an_Wire___init__ cd_Wire___init__ ct_Wire___init__), sl_Wire___init__⟩) (c_Wire___init__ : PySem.W.codeIn K cd_Wire___init__ "Wire.__init__" = true) (k_Wire___init__ : PySem.W.keepIn K (.ref f_Wire___init__) = true)
    (a_Wire_needs_InWire : PySem.W.findIn K (.ref C_InWire) "needs" = some (some (.ref f_Wire_needs)))
    (a_Wire_needs_StoreWire : PySem.W.findIn K (.ref C_StoreWire) "needs" = some (some (.ref f_Wire_needs)))
    (i_Wire_needs : PySem.W.isFn K (.ref f_Wire_needs) = true)
    (l_Wire_needs : K.lookup f_Wire_needs = some ⟨oc_Wire_needs, od_Wire_needs, .func (PySem.W.fnOf "needs" "Wire.needs" (defArgs s_Wire_needs) (defBody s_Wire_needs) (defScope s_Wire_needs) .none kV_Wire_needs dc_Wire_needs pm_Wire_needs an_Wire_needs cd_Wire_needs ct_Wire_needs), sl_Wire_needs⟩) (c_Wire_needs : PySem.W.codeIn K cd_Wire_needs "Wire.needs" = true) (k_Wire_needs : PySem.W.keepIn K (.ref f_Wire_needs) = true)
    (a_InWire___init__ : PySem.W.findIn K (.ref C_InWire) "__init__" = some (some (.ref f_InWire___init__))) (i_InWire___init__ : PySem.W.isFn K (.ref f_InWire___init__) = true)
    (l_InWire___init__ : K.lookup f_InWire___init__ = some ⟨oc_InWire___init__, od_InWire___init__, .func (PySem.W.fnOf "__init__" "InWire.__init__" (defArgs s_InWire___init__) (defBody s_InWire___init__) (defScope s_InWire___init__) .none kV_InWire___init__ dc_InWire___init__ pm_InWire___init__ an_InWire___init__ cd_InWire___init__ ct_InWire___init__), sl_InWire___init__⟩) (c_InWire___init__ : PySem.W.codeIn K cd_InWire___init__ "InWire.__init__" = true) (k_InWire___init__ : PySem.W.keepIn K (.ref f_InWire___init__) = true)
    (a_InWire_kind : PySem.W.findIn K (.ref C_InWire) "kind" = some (some (.ref f_InWire_kind))) (i_InWire_kind : PySem.W.isFn K (.ref f_InWire_kind) = true)
    (l_InWire_kind : K.lookup f_InWire_kind = some ⟨oc_InWire_kind, od_InWire_kind, .func (PySem.W.fnOf "kind" "InWire.kind" (defArgs s_InWire_kind) (defBody s_InWire_kind) (defScope s_InWire_kind) .none kV_InWire_kind dc_InWire_kind pm_InWire_kind an_InWire_kind cd_InWire_kind ct_InWire_kind), sl_InWire_kind⟩) (c_InWire_kind : PySem.W.codeIn K cd_InWire_kind "InWire.kind" = true) (k_InWire_kind : PySem.W.keepIn K (.ref f_InWire_kind) = true)
    (a_InWire_bit : PySem.W.findIn K (.ref C_InWire) "bit" = some (some (.ref f_InWire_bit))) (i_InWire_bit : PySem.W.isFn K (.ref f_InWire_bit) = true)
    (l_InWire_bit : K.lookup f_InWire_bit = some ⟨oc_InWire_bit, od_InWire_bit, .func (PySem.W.fnOf "bit" "InWire.bit" (defArgs s_InWire_bit) (defBody s_InWire_bit) (defScope s_InWire_bit) .none kV_InWire_bit dc_InWire_bit pm_InWire_bit an_InWire_bit cd_InWire_bit ct_InWire_bit), sl_InWire_bit⟩) (c_InWire_bit : PySem.W.codeIn K cd_InWire_bit "InWire.bit" = true) (k_InWire_bit : PySem.W.keepIn K (.ref f_InWire_bit) = true)
    (a_InWire_hang : PySem.W.findIn K (.ref C_InWire) "hang" = some (some (.ref f_InWire_hang))) (i_InWire_hang : PySem.W.isFn K (.ref f_InWire_hang) = true)
    (l_InWire_hang : K.lookup f_InWire_hang = some ⟨oc_InWire_hang, od_InWire_hang, .func (PySem.W.fnOf "hang" "InWire.hang" (defArgs s_InWire_hang) (defBody s_InWire_hang) (defScope s_InWire_hang) .none kV_InWire_hang dc_InWire_hang pm_InWire_hang an_InWire_hang cd_InWire_hang ct_InWire_hang), sl_InWire_hang⟩) (c_InWire_hang : PySem.W.codeIn K cd_InWire_hang "InWire.hang" = true) (k_InWire_hang : PySem.W.keepIn K (.ref f_InWire_hang) = true)
    (a_SumWire___init__ : PySem.W.findIn K (.ref C_SumWire) "__init__" = some (some (.ref f_SumWire___init__))) (i_SumWire___init__ : PySem.W.isFn K (.ref f_SumWire___init__) = true)
    (l_SumWire___init__ : K.lookup f_SumWire___init__ = some ⟨oc_SumWire___init__, od_SumWire___init__, .func (PySem.W.fnOf "__init__" "SumWire.__init__" (defArgs s_SumWire___init__) (defBody s_SumWire___init__) (defScope s_SumWire___init__) .none kV_SumWire___init__ dc_SumWire___init__ pm_SumWire___init__ an_SumWire___init__ cd_SumWire___init__ ct_SumWire___init__), sl_SumWire___init__⟩) (c_SumWire___init__ : PySem.W.codeIn K cd_SumWire___init__ "SumWire.__init__" = true) (k_SumWire___init__ : PySem.W.keepIn K (.ref f_SumWire___init__) = true)
    (a_SumWire_kind : PySem.W.findIn K (.ref C_SumWire) "kind" = some (some (.ref f_SumWire_kind))) (i_SumWire_kind : PySem.W.isFn K (.ref f_SumWire_kind) = true)
    (l_SumWire_kind : K.lookup f_SumWire_kind = some ⟨oc_SumWire_kind, od_SumWire_kind, .func (PySem.W.fnOf "kind" "SumWire.kind" (defArgs s_SumWire_kind) (defBody s_SumWire_kind) (defScope s_SumWire_kind) .none kV_SumWire_kind dc_SumWire_kind pm_SumWire_kind an_SumWire_kind cd_SumWire_kind ct_SumWire_kind), sl_SumWire_kind⟩) (c_SumWire_kind : PySem.W.codeIn K cd_SumWire_kind "SumWire.kind" = true) (k_SumWire_kind : PySem.W.keepIn K (.ref f_SumWire_kind) = true)
    (a_SumWire_needs : PySem.W.findIn K (.ref C_SumWire) "needs" = some (some (.ref f_SumWire_needs))) (i_SumWire_needs : PySem.W.isFn K (.ref f_SumWire_needs) = true)
    (l_SumWire_needs : K.lookup f_SumWire_needs = some ⟨oc_SumWire_needs, od_SumWire_needs, .func (PySem.W.fnOf "needs" "SumWire.needs" (defArgs s_SumWire_needs) (defBody s_SumWire_needs) (defScope s_SumWire_needs) .none kV_SumWire_needs dc_SumWire_needs pm_SumWire_needs an_SumWire_needs cd_SumWire_needs ct_SumWire_needs), sl_SumWire_needs⟩) (c_SumWire_needs : PySem.W.codeIn K cd_SumWire_needs "SumWire.needs" = true) (k_SumWire_needs : PySem.W.keepIn K (.ref f_SumWire_needs) = true)
    (a_SumWire_bit : PySem.W.findIn K (.ref C_SumWire) "bit" = some (some (.ref f_SumWire_bit))) (i_SumWire_bit : PySem.W.isFn K (.ref f_SumWire_bit) = true)
    (l_SumWire_bit : K.lookup f_SumWire_bit = some ⟨oc_SumWire_bit, od_SumWire_bit, .func (PySem.W.fnOf "bit" "SumWire.bit" (defArgs s_SumWire_bit) (defBody s_SumWire_bit) (defScope s_SumWire_bit) .none kV_SumWire_bit dc_SumWire_bit pm_SumWire_bit an_SumWire_bit cd_SumWire_bit ct_SumWire_bit), sl_SumWire_bit⟩) (c_SumWire_bit : PySem.W.codeIn K cd_SumWire_bit "SumWire.bit" = true) (k_SumWire_bit : PySem.W.keepIn K (.ref f_SumWire_bit) = true)
    (a_SumWire_hang : PySem.W.findIn K (.ref C_SumWire) "hang" = some (some (.ref f_SumWire_hang))) (i_SumWire_hang : PySem.W.isFn K (.ref f_SumWire_hang) = true)
    (l_SumWire_hang : K.lookup f_SumWire_hang = some ⟨oc_SumWire_hang, od_SumWire_hang, .func (PySem.W.fnOf "hang" "SumWire.hang" (defArgs s_SumWire_hang) (defBody s_SumWire_hang) (defScope s_SumWire_hang) .none kV_SumWire_hang dc_SumWire_hang pm_SumWire_hang an_SumWire_hang cd_SumWire_hang ct_SumWire_hang), sl_SumWire_hang⟩) (c_SumWire_hang : PySem.W.codeIn K cd_SumWire_hang "SumWire.hang" = true) (k_SumWire_hang : PySem.W.keepIn K (.ref f_SumWire_hang) = true)
    (a_StoreWire___init__ : PySem.W.findIn K (.ref C_StoreWire) "__init__" = some (some (.ref f_StoreWire___init__))) (i_StoreWire___init__ : PySem.W.isFn K (.ref f_StoreWire___init__) = true)
    (l_StoreWire___init__ : K.lookup f_StoreWire___init__ = some ⟨oc_StoreWire___init__, od_StoreWire___init__, .func (PySem.W.fnOf "__init__" "StoreWire.__init__" (defArgs s_StoreWire___init__) (defBody s_StoreWire___init__) (defScope s_StoreWire___init__) .none kV_StoreWire___init__ dc_StoreWire___init__ pm_StoreWire___init__ an_StoreWire___init__ cd_StoreWire___init__ ct_StoreWire___init__), sl_StoreWire___init__⟩) (c_StoreWire___init__ : PySem.W.codeIn K cd_StoreWire___init__ "StoreWire.__init__" = true) (k_StoreWire___init__ : PySem.W.keepIn K (.ref f_StoreWire___init__) = true)
    (a_StoreWire_kind : PySem.W.findIn K (.ref C_StoreWire) "kind" = some (some (.ref f_StoreWire_kind))) (i_StoreWire_kind : PySem.W.isFn K (.ref f_StoreWire_kind) = true)
    (l_StoreWire_kind : K.lookup f_StoreWire_kind = some ⟨oc_StoreWire_kind, od_StoreWire_kind, .func (PySem.W.fnOf "kind" "StoreWire.kind" (defArgs s_StoreWire_kind) (defBody s_StoreWire_kind) (defScope s_StoreWire_kind) .none kV_StoreWire_kind dc_StoreWire_kind pm_StoreWire_kind an_StoreWire_kind cd_StoreWire_kind ct_StoreWire_kind), sl_StoreWire_kind⟩) (c_StoreWire_kind : PySem.W.codeIn K cd_StoreWire_kind "StoreWire.kind" = true) (k_StoreWire_kind : PySem.W.keepIn K (.ref f_StoreWire_kind) = true)
    (a_StoreWire_bit : PySem.W.findIn K (.ref C_StoreWire) "bit" = some (some (.ref f_StoreWire_bit))) (i_StoreWire_bit : PySem.W.isFn K (.ref f_StoreWire_bit) = true)
    (l_StoreWire_bit : K.lookup f_StoreWire_bit = some ⟨oc_StoreWire_bit, od_StoreWire_bit, .func (PySem.W.fnOf "bit" "StoreWire.bit" (defArgs s_StoreWire_bit) (defBody s_StoreWire_bit) (defScope s_StoreWire_bit) .none kV_StoreWire_bit dc_StoreWire_bit pm_StoreWire_bit an_StoreWire_bit cd_StoreWire_bit ct_StoreWire_bit), sl_StoreWire_bit⟩) (c_StoreWire_bit : PySem.W.codeIn K cd_StoreWire_bit "StoreWire.bit" = true) (k_StoreWire_bit : PySem.W.keepIn K (.ref f_StoreWire_bit) = true)
    (a_StoreWire_hang : PySem.W.findIn K (.ref C_StoreWire) "hang" = some (some (.ref f_StoreWire_hang))) (i_StoreWire_hang : PySem.W.isFn K (.ref f_StoreWire_hang) = true)
    (l_StoreWire_hang : K.lookup f_StoreWire_hang = some ⟨oc_StoreWire_hang, od_StoreWire_hang, .func (PySem.W.fnOf "hang" "StoreWire.hang" (defArgs s_StoreWire_hang) (defBody s_StoreWire_hang) (defScope s_StoreWire_hang) .none kV_StoreWire_hang dc_StoreWire_hang pm_StoreWire_hang an_StoreWire_hang cd_StoreWire_hang ct_StoreWire_hang), sl_StoreWire_hang⟩) (c_StoreWire_hang : PySem.W.codeIn K cd_StoreWire_hang "StoreWire.hang" = true) (k_StoreWire_hang : PySem.W.keepIn K (.ref f_StoreWire_hang) = true)
    (a_is_whole : PySem.W.nsIn K mainGlobals "is_whole" = some (some (.ref f_is_whole)))
    (l_is_whole : K.lookup f_is_whole = some ⟨oc_is_whole, od_is_whole, .func (PySem.W.fnOf "is_whole" "is_whole" (defArgs s_is_whole) (defBody s_is_whole) (defScope s_is_whole) .none kV_is_whole dc_is_whole pm_is_whole an_is_whole cd_is_whole ct_is_whole), sl_is_whole⟩) (c_is_whole : PySem.W.codeIn K cd_is_whole "is_whole" = true) (k_is_whole : PySem.W.keepIn K (.ref f_is_whole) = true)
    (a_is_mask : PySem.W.nsIn K mainGlobals "is_mask" = some (some (.ref f_is_mask)))
    (l_is_mask : K.lookup f_is_mask = some ⟨oc_is_mask, od_is_mask, .func (PySem.W.fnOf "is_mask" "is_mask" (defArgs s_is_mask) (defBody s_is_mask) (defScope s_is_mask) .none kV_is_mask dc_is_mask pm_is_mask an_is_mask cd_is_mask ct_is_mask), sl_is_mask⟩) (c_is_mask : PySem.W.codeIn K cd_is_mask "is_mask" = true) (k_is_mask : PySem.W.keepIn K (.ref f_is_mask) = true)
    (a_is_name : PySem.W.nsIn K mainGlobals "is_name" = some (some (.ref f_is_name)))
    (l_is_name : K.lookup f_is_name = some ⟨oc_is_name, od_is_name, .func (PySem.W.fnOf "is_name" "is_name" (defArgs s_is_name) (defBody s_is_name) (defScope s_is_name) .none kV_is_name dc_is_name pm_is_name an_is_name cd_is_name ct_is_name), sl_is_name⟩) (c_is_name : PySem.W.codeIn K cd_is_name "is_name" = true) (k_is_name : PySem.W.keepIn K (.ref f_is_name) = true)
    (a_need_sizes : PySem.W.nsIn K mainGlobals "need_sizes" = some (some (.ref f_need_sizes)))
    (l_need_sizes : K.lookup f_need_sizes = some ⟨oc_need_sizes, od_need_sizes, .func (PySem.W.fnOf "need_sizes" "need_sizes" (defArgs s_need_sizes) (defBody s_need_sizes) (defScope s_need_sizes) .none kV_need_sizes dc_need_sizes pm_need_sizes an_need_sizes cd_need_sizes ct_need_sizes), sl_need_sizes⟩) (c_need_sizes : PySem.W.codeIn K cd_need_sizes "need_sizes" = true) (k_need_sizes : PySem.W.keepIn K (.ref f_need_sizes) = true)
    (a_Net_put_in : PySem.W.findIn K (.ref C_Net) "put_in" = some (some (.ref f_Net_put_in))) (i_Net_put_in : PySem.W.isFn K (.ref f_Net_put_in) = true)
    (l_Net_put_in : K.lookup f_Net_put_in = some ⟨oc_Net_put_in, od_Net_put_in, .func (PySem.W.fnOf "put_in" "Net.put_in" (defArgs s_Net_put_in) (defBody s_Net_put_in) (defScope s_Net_put_in) .none kV_Net_put_in dc_Net_put_in pm_Net_put_in an_Net_put_in cd_Net_put_in ct_Net_put_in), sl_Net_put_in⟩) (c_Net_put_in : PySem.W.codeIn K cd_Net_put_in "Net.put_in" = true) (k_Net_put_in : PySem.W.keepIn K (.ref f_Net_put_in) = true)
    (a_Net_of_kind : PySem.W.findIn K (.ref C_Net) "of_kind" = some (some (.ref f_Net_of_kind))) (i_Net_of_kind : PySem.W.isFn K (.ref f_Net_of_kind) = true)
    (l_Net_of_kind : K.lookup f_Net_of_kind = some ⟨oc_Net_of_kind, od_Net_of_kind, .func (PySem.W.fnOf "of_kind" "Net.of_kind" (defArgs s_Net_of_kind) (defBody s_Net_of_kind) (defScope s_Net_of_kind) .none kV_Net_of_kind dc_Net_of_kind pm_Net_of_kind an_Net_of_kind cd_Net_of_kind ct_Net_of_kind), sl_Net_of_kind⟩) (c_Net_of_kind : PySem.W.codeIn K cd_Net_of_kind "Net.of_kind" = true) (k_Net_of_kind : PySem.W.keepIn K (.ref f_Net_of_kind) = true)
    (a_Net_readings : PySem.W.findIn K (.ref C_Net) "readings" = some (some (.ref f_Net_readings))) (i_Net_readings : PySem.W.isFn K (.ref f_Net_readings) = true)
    (l_Net_readings : K.lookup f_Net_readings = some ⟨oc_Net_readings, od_Net_readings, .func (PySem.W.fnOf "readings" "Net.readings" (defArgs s_Net_readings) (defBody s_Net_readings) (defScope s_Net_readings) .none kV_Net_readings dc_Net_readings pm_Net_readings an_Net_readings cd_Net_readings ct_Net_readings), sl_Net_readings⟩) (c_Net_readings : PySem.W.codeIn K cd_Net_readings "Net.readings" = true) (k_Net_readings : PySem.W.keepIn K (.ref f_Net_readings) = true)
    (a_Net_wire_of : PySem.W.findIn K (.ref C_Net) "wire_of" = some (some (.ref f_Net_wire_of))) (i_Net_wire_of : PySem.W.isFn K (.ref f_Net_wire_of) = true)
    (l_Net_wire_of : K.lookup f_Net_wire_of = some ⟨oc_Net_wire_of, od_Net_wire_of, .func (PySem.W.fnOf "wire_of" "Net.wire_of" (defArgs s_Net_wire_of) (defBody s_Net_wire_of) (defScope s_Net_wire_of) .none kV_Net_wire_of dc_Net_wire_of pm_Net_wire_of an_Net_wire_of cd_Net_wire_of ct_Net_wire_of), sl_Net_wire_of⟩) (c_Net_wire_of : PySem.W.codeIn K cd_Net_wire_of "Net.wire_of" = true) (k_Net_wire_of : PySem.W.keepIn K (.ref f_Net_wire_of) = true)
    (a_Net_lay_out : PySem.W.findIn K (.ref C_Net) "lay_out" = some (some (.ref f_Net_lay_out))) (i_Net_lay_out : PySem.W.isFn K (.ref f_Net_lay_out) = true)
    (l_Net_lay_out : K.lookup f_Net_lay_out = some ⟨oc_Net_lay_out, od_Net_lay_out, .func (PySem.W.fnOf "lay_out" "Net.lay_out" (defArgs s_Net_lay_out) (defBody s_Net_lay_out) (defScope s_Net_lay_out) .none kV_Net_lay_out dc_Net_lay_out pm_Net_lay_out an_Net_lay_out cd_Net_lay_out ct_Net_lay_out), sl_Net_lay_out⟩) (c_Net_lay_out : PySem.W.codeIn K cd_Net_lay_out "Net.lay_out" = true) (k_Net_lay_out : PySem.W.keepIn K (.ref f_Net_lay_out) = true)
    (a_Net___init__ : PySem.W.findIn K (.ref C_Net) "__init__" = some (some (.ref f_Net___init__))) (i_Net___init__ : PySem.W.isFn K (.ref f_Net___init__) = true)
    (l_Net___init__ : K.lookup f_Net___init__ = some ⟨oc_Net___init__, od_Net___init__, .func (PySem.W.fnOf "__init__" "Net.__init__" (defArgs s_Net___init__) (defBody s_Net___init__) (defScope s_Net___init__) .none kV_Net___init__ dc_Net___init__ pm_Net___init__ an_Net___init__ cd_Net___init__ ct_Net___init__), sl_Net___init__⟩) (c_Net___init__ : PySem.W.codeIn K cd_Net___init__ "Net.__init__" = true) (k_Net___init__ : PySem.W.keepIn K (.ref f_Net___init__) = true)
    (a_Net_in_names : PySem.W.findIn K (.ref C_Net) "in_names" = some (some (.ref f_Net_in_names))) (i_Net_in_names : PySem.W.isFn K (.ref f_Net_in_names) = true)
    (l_Net_in_names : K.lookup f_Net_in_names = some ⟨oc_Net_in_names, od_Net_in_names, .func (PySem.W.fnOf "in_names" "Net.in_names" (defArgs s_Net_in_names) (defBody s_Net_in_names) (defScope s_Net_in_names) .none kV_Net_in_names dc_Net_in_names pm_Net_in_names an_Net_in_names cd_Net_in_names ct_Net_in_names), sl_Net_in_names⟩) (c_Net_in_names : PySem.W.codeIn K cd_Net_in_names "Net.in_names" = true) (k_Net_in_names : PySem.W.keepIn K (.ref f_Net_in_names) = true)
    (a_Net_sum_rows : PySem.W.findIn K (.ref C_Net) "sum_rows" = some (some (.ref f_Net_sum_rows))) (i_Net_sum_rows : PySem.W.isFn K (.ref f_Net_sum_rows) = true)
    (l_Net_sum_rows : K.lookup f_Net_sum_rows = some ⟨oc_Net_sum_rows, od_Net_sum_rows, .func (PySem.W.fnOf "sum_rows" "Net.sum_rows" (defArgs s_Net_sum_rows) (defBody s_Net_sum_rows) (defScope s_Net_sum_rows) .none kV_Net_sum_rows dc_Net_sum_rows pm_Net_sum_rows an_Net_sum_rows cd_Net_sum_rows ct_Net_sum_rows), sl_Net_sum_rows⟩) (c_Net_sum_rows : PySem.W.codeIn K cd_Net_sum_rows "Net.sum_rows" = true) (k_Net_sum_rows : PySem.W.keepIn K (.ref f_Net_sum_rows) = true)
    (a_Net_store_rows : PySem.W.findIn K (.ref C_Net) "store_rows" = some (some (.ref f_Net_store_rows))) (i_Net_store_rows : PySem.W.isFn K (.ref f_Net_store_rows) = true)
    (l_Net_store_rows : K.lookup f_Net_store_rows = some ⟨oc_Net_store_rows, od_Net_store_rows, .func (PySem.W.fnOf "store_rows" "Net.store_rows" (defArgs s_Net_store_rows) (defBody s_Net_store_rows) (defScope s_Net_store_rows) .none kV_Net_store_rows dc_Net_store_rows pm_Net_store_rows an_Net_store_rows cd_Net_store_rows ct_Net_store_rows), sl_Net_store_rows⟩) (c_Net_store_rows : PySem.W.codeIn K cd_Net_store_rows "Net.store_rows" = true) (k_Net_store_rows : PySem.W.keepIn K (.ref f_Net_store_rows) = true)
    (a_Net_out_wires : PySem.W.findIn K (.ref C_Net) "out_wires" = some (some (.ref f_Net_out_wires))) (i_Net_out_wires : PySem.W.isFn K (.ref f_Net_out_wires) = true)
    (l_Net_out_wires : K.lookup f_Net_out_wires = some ⟨oc_Net_out_wires, od_Net_out_wires, .func (PySem.W.fnOf "out_wires" "Net.out_wires" (defArgs s_Net_out_wires) (defBody s_Net_out_wires) (defScope s_Net_out_wires) .none kV_Net_out_wires dc_Net_out_wires pm_Net_out_wires an_Net_out_wires cd_Net_out_wires ct_Net_out_wires), sl_Net_out_wires⟩) (c_Net_out_wires : PySem.W.codeIn K cd_Net_out_wires "Net.out_wires" = true) (k_Net_out_wires : PySem.W.keepIn K (.ref f_Net_out_wires) = true)
    (a_Net_wire_names : PySem.W.findIn K (.ref C_Net) "wire_names" = some (some (.ref f_Net_wire_names))) (i_Net_wire_names : PySem.W.isFn K (.ref f_Net_wire_names) = true)
    (l_Net_wire_names : K.lookup f_Net_wire_names = some ⟨oc_Net_wire_names, od_Net_wire_names, .func (PySem.W.fnOf "wire_names" "Net.wire_names" (defArgs s_Net_wire_names) (defBody s_Net_wire_names) (defScope s_Net_wire_names) .none kV_Net_wire_names dc_Net_wire_names pm_Net_wire_names an_Net_wire_names cd_Net_wire_names ct_Net_wire_names), sl_Net_wire_names⟩) (c_Net_wire_names : PySem.W.codeIn K cd_Net_wire_names "Net.wire_names" = true) (k_Net_wire_names : PySem.W.keepIn K (.ref f_Net_wire_names) = true)
    (a_Net_order : PySem.W.findIn K (.ref C_Net) "order" = some (some (.ref f_Net_order))) (i_Net_order : PySem.W.isFn K (.ref f_Net_order) = true)
    (l_Net_order : K.lookup f_Net_order = some ⟨oc_Net_order, od_Net_order, .func (PySem.W.fnOf "order" "Net.order" (defArgs s_Net_order) (defBody s_Net_order) (defScope s_Net_order) .none kV_Net_order dc_Net_order pm_Net_order an_Net_order cd_Net_order ct_Net_order), sl_Net_order⟩) (c_Net_order : PySem.W.codeIn K cd_Net_order "Net.order" = true) (k_Net_order : PySem.W.keepIn K (.ref f_Net_order) = true)
    (a_Run___init__ : PySem.W.findIn K (.ref C_Run) "__init__" = some (some (.ref f_Run___init__))) (i_Run___init__ : PySem.W.isFn K (.ref f_Run___init__) = true)
    (l_Run___init__ : K.lookup f_Run___init__ = some ⟨oc_Run___init__, od_Run___init__, .func (PySem.W.fnOf "__init__" "Run.__init__" (defArgs s_Run___init__) (defBody s_Run___init__) (defScope s_Run___init__) .none kV_Run___init__ dc_Run___init__ pm_Run___init__ an_Run___init__ cd_Run___init__ ct_Run___init__), sl_Run___init__⟩) (c_Run___init__ : PySem.W.codeIn K cd_Run___init__ "Run.__init__" = true) (k_Run___init__ : PySem.W.keepIn K (.ref f_Run___init__) = true)
    (a_Run_step : PySem.W.findIn K (.ref C_Run) "step" = some (some (.ref f_Run_step))) (i_Run_step : PySem.W.isFn K (.ref f_Run_step) = true)
    (l_Run_step : K.lookup f_Run_step = some ⟨oc_Run_step, od_Run_step, .func (PySem.W.fnOf "step" "Run.step" (defArgs s_Run_step) (defBody s_Run_step) (defScope s_Run_step) .none kV_Run_step dc_Run_step pm_Run_step an_Run_step cd_Run_step ct_Run_step), sl_Run_step⟩) (c_Run_step : PySem.W.codeIn K cd_Run_step "Run.step" = true) (k_Run_step : PySem.W.keepIn K (.ref f_Run_step) = true)
    (a_Run_state : PySem.W.findIn K (.ref C_Run) "state" = some (some (.ref f_Run_state))) (i_Run_state : PySem.W.isFn K (.ref f_Run_state) = true)
    (l_Run_state : K.lookup f_Run_state = some ⟨oc_Run_state, od_Run_state, .func (PySem.W.fnOf "state" "Run.state" (defArgs s_Run_state) (defBody s_Run_state) (defScope s_Run_state) .none kV_Run_state dc_Run_state pm_Run_state an_Run_state cd_Run_state ct_Run_state), sl_Run_state⟩) (c_Run_state : PySem.W.codeIn K cd_Run_state "Run.state" = true) (k_Run_state : PySem.W.keepIn K (.ref f_Run_state) = true)
    (a_Run_answered : PySem.W.findIn K (.ref C_Run) "answered" = some (some (.ref f_Run_answered))) (i_Run_answered : PySem.W.isFn K (.ref f_Run_answered) = true)
    (l_Run_answered : K.lookup f_Run_answered = some ⟨oc_Run_answered, od_Run_answered, .func (PySem.W.fnOf "answered" "Run.answered" (defArgs s_Run_answered) (defBody s_Run_answered) (defScope s_Run_answered) .none kV_Run_answered dc_Run_answered pm_Run_answered an_Run_answered cd_Run_answered ct_Run_answered), sl_Run_answered⟩) (c_Run_answered : PySem.W.codeIn K cd_Run_answered "Run.answered" = true) (k_Run_answered : PySem.W.keepIn K (.ref f_Run_answered) = true)
    (a_answers_of : PySem.W.nsIn K mainGlobals "answers_of" = some (some (.ref f_answers_of)))
    (l_answers_of : K.lookup f_answers_of = some ⟨oc_answers_of, od_answers_of, .func (PySem.W.fnOf "answers_of" "answers_of" (defArgs s_answers_of) (defBody s_answers_of) (defScope s_answers_of) .none kV_answers_of dc_answers_of pm_answers_of an_answers_of cd_answers_of ct_answers_of), sl_answers_of⟩) (c_answers_of : PySem.W.codeIn K cd_answers_of "answers_of" = true) (k_answers_of : PySem.W.keepIn K (.ref f_answers_of) = true)
    (a_cell : PySem.W.nsIn K mainGlobals "_law_cell" = some (some (.ref f_cell)))
    (l_cell : K.lookup f_cell = some ⟨oc_cell, od_cell, .func (PySem.W.fnOf "_law_cell" "_law_cell" (defArgs s_cell) (defBody s_cell) (defScope s_cell) .none kV_cell dc_cell pm_cell an_cell cd_cell ct_cell), sl_cell⟩) (c_cell : PySem.W.codeIn K cd_cell "_law_cell" = true) (k_cell : PySem.W.keepIn K (.ref f_cell) = true)
    (a_mix : PySem.W.nsIn K mainGlobals "_law_mix" = some (some (.ref f_mix)))
    (l_mix : K.lookup f_mix = some ⟨oc_mix, od_mix, .func (PySem.W.fnOf "_law_mix" "_law_mix" (defArgs s_mix) (defBody s_mix) (defScope s_mix) .none kV_mix dc_mix pm_mix an_mix cd_mix ct_mix), sl_mix⟩) (c_mix : PySem.W.codeIn K cd_mix "_law_mix" = true) (k_mix : PySem.W.keepIn K (.ref f_mix) = true)
    (a_name : PySem.W.nsIn K mainGlobals "_law_name" = some (some (.ref f_name)))
    (l_name : K.lookup f_name = some ⟨oc_name, od_name, .func (PySem.W.fnOf "_law_name" "_law_name" (defArgs s_name) (defBody s_name) (defScope s_name) .none kV_name dc_name pm_name an_name cd_name ct_name), sl_name⟩) (c_name : PySem.W.codeIn K cd_name "_law_name" = true) (k_name : PySem.W.keepIn K (.ref f_name) = true)
    (a_wires : PySem.W.nsIn K mainGlobals "_law_wires" = some (some (.ref f_wires)))
    (l_wires : K.lookup f_wires = some ⟨oc_wires, od_wires, .func (PySem.W.fnOf "_law_wires" "_law_wires" (defArgs s_wires) (defBody s_wires) (defScope s_wires) .none kV_wires dc_wires pm_wires an_wires cd_wires ct_wires), sl_wires⟩) (c_wires : PySem.W.codeIn K cd_wires "_law_wires" = true) (k_wires : PySem.W.keepIn K (.ref f_wires) = true)
    (a_net : PySem.W.nsIn K mainGlobals "_law_net" = some (some (.ref f_net)))
    (l_net : K.lookup f_net = some ⟨oc_net, od_net, .func (PySem.W.fnOf "_law_net" "_law_net" (defArgs s_net) (defBody s_net) (defScope s_net) .none kV_net dc_net pm_net an_net cd_net ct_net), sl_net⟩) (c_net : PySem.W.codeIn K cd_net "_law_net" = true) (k_net : PySem.W.keepIn K (.ref f_net) = true)
    (a_run : PySem.W.nsIn K mainGlobals "_law_run" = some (some (.ref f_run)))
    (l_run : K.lookup f_run = some ⟨oc_run, od_run, .func (PySem.W.fnOf "_law_run" "_law_run" (defArgs s_run) (defBody s_run) (defScope s_run) .none kV_run dc_run pm_run an_run cd_run ct_run), sl_run⟩) (c_run : PySem.W.codeIn K cd_run "_law_run" = true) (k_run : PySem.W.keepIn K (.ref f_run) = true)
    (a_law : PySem.W.nsIn K mainGlobals "law" = some (some (.ref f_law)))
    (l_law : K.lookup f_law = some ⟨oc_law, od_law, .func (PySem.W.fnOf "law" "law" (defArgs s_law) (defBody s_law) (defScope s_law) .none kV_law dc_law pm_law an_law cd_law ct_law), sl_law⟩) (c_law : PySem.W.codeIn K cd_law "law" = true) (k_law : PySem.W.keepIn K (.ref f_law) = true)
    (z_bool : PySem.W.nsIn K mainGlobals "bool" = some none)
    (z_enumerate : PySem.W.nsIn K mainGlobals "enumerate" = some none)
    (z_int : PySem.W.nsIn K mainGlobals "int" = some none)
    (z_isinstance : PySem.W.nsIn K mainGlobals "isinstance" = some none)
    (z_len : PySem.W.nsIn K mainGlobals "len" = some none)
    (z_list : PySem.W.nsIn K mainGlobals "list" = some none)
    (z_range : PySem.W.nsIn K mainGlobals "range" = some none)
    (z_reversed : PySem.W.nsIn K mainGlobals "reversed" = some none)
    (z_str : PySem.W.nsIn K mainGlobals "str" = some none)
    (z_tuple : PySem.W.nsIn K mainGlobals "tuple" = some none)
    (z_zip : PySem.W.nsIn K mainGlobals "zip" = some none)
    : ∃ (fd : FuncData) (sp : Sp), (∀ (s : Shared) (v : Value), BindsTo s fd ⟨[v], []⟩ [("_law_script", v)]) ∧ (∀ (H : Hp) (a : Addr) (ns : List Int), ns.length ≤ 63 → SqL K H a (ns.map V.int) → sp [.ref a] H (fun v _ => v = .bl true) fun _ _ _ => False) ∧ ∀ base : Heap, K.In base → base.Ns mainGlobals mg → FnOk l.prog w K mg base CX0 7 fa fd ["_law_script"] sp := by
  have e := hfa.symm.trans (PySem.W.mg_of X G a_law)
  cases e
  have F_Wire___init__ := fun_mk (st := s_Wire___init__) l_Wire___init__ c_Wire___init__ k_Wire___init__
  have b_Wire___init__ := F_Wire___init__.binds (ps := ["self", "name"]) fun _ _ _ _ _ _ us hl => match us, hl with | [_, _], _ => rfl
  have F_Wire_needs := fun_mk (st := s_Wire_needs) l_Wire_needs c_Wire_needs k_Wire_needs
  have b_Wire_needs := F_Wire_needs.binds (ps := ["self"]) fun _ _ _ _ _ _ us hl => match us, hl with | [_], _ => rfl
  have F_InWire___init__ := fun_mk (st := s_InWire___init__) l_InWire___init__ c_InWire___init__ k_InWire___init__
  have b_InWire___init__ := F_InWire___init__.binds (ps := ["self", "name", "number"]) fun _ _ _ _ _ _ us hl => match us, hl with | [_, _, _], _ => rfl
  have F_InWire_kind := fun_mk (st := s_InWire_kind) l_InWire_kind c_InWire_kind k_InWire_kind
  have b_InWire_kind := F_InWire_kind.binds (ps := ["self"]) fun _ _ _ _ _ _ us hl => match us, hl with | [_], _ => rfl
  have F_InWire_bit := fun_mk (st := s_InWire_bit) l_InWire_bit c_InWire_bit k_InWire_bit
  have b_InWire_bit := F_InWire_bit.binds (ps := ["self", "known", "row", "state"]) fun _ _ _ _ _ _ us hl => match us, hl with | [_, _, _, _], _ => rfl
  have F_InWire_hang := fun_mk (st := s_InWire_hang) l_InWire_hang c_InWire_hang k_InWire_hang
  have b_InWire_hang := F_InWire_hang.binds (ps := ["self", "known"]) fun _ _ _ _ _ _ us hl => match us, hl with | [_, _], _ => rfl
  have F_SumWire___init__ := fun_mk (st := s_SumWire___init__) l_SumWire___init__ c_SumWire___init__ k_SumWire___init__
  have b_SumWire___init__ := F_SumWire___init__.binds (ps := ["self", "name", "wires"]) fun _ _ _ _ _ _ us hl => match us, hl with | [_, _, _], _ => rfl
  have F_SumWire_kind := fun_mk (st := s_SumWire_kind) l_SumWire_kind c_SumWire_kind k_SumWire_kind
  have b_SumWire_kind := F_SumWire_kind.binds (ps := ["self"]) fun _ _ _ _ _ _ us hl => match us, hl with | [_], _ => rfl
  have F_SumWire_needs := fun_mk (st := s_SumWire_needs) l_SumWire_needs c_SumWire_needs k_SumWire_needs
  have b_SumWire_needs := F_SumWire_needs.binds (ps := ["self"]) fun _ _ _ _ _ _ us hl => match us, hl with | [_], _ => rfl
  have F_SumWire_bit := fun_mk (st := s_SumWire_bit) l_SumWire_bit c_SumWire_bit k_SumWire_bit
  have b_SumWire_bit := F_SumWire_bit.binds (ps := ["self", "known", "row", "state"]) fun _ _ _ _ _ _ us hl => match us, hl with | [_, _, _, _], _ => rfl
  have F_SumWire_hang := fun_mk (st := s_SumWire_hang) l_SumWire_hang c_SumWire_hang k_SumWire_hang
  have b_SumWire_hang := F_SumWire_hang.binds (ps := ["self", "known"]) fun _ _ _ _ _ _ us hl => match us, hl with | [_, _], _ => rfl
  have F_StoreWire___init__ := fun_mk (st := s_StoreWire___init__) l_StoreWire___init__ c_StoreWire___init__ k_StoreWire___init__
  have b_StoreWire___init__ := F_StoreWire___init__.binds (ps := ["self", "name", "wire", "number"]) fun _ _ _ _ _ _ us hl => match us, hl with | [_, _, _, _], _ => rfl
  have F_StoreWire_kind := fun_mk (st := s_StoreWire_kind) l_StoreWire_kind c_StoreWire_kind k_StoreWire_kind
  have b_StoreWire_kind := F_StoreWire_kind.binds (ps := ["self"]) fun _ _ _ _ _ _ us hl => match us, hl with | [_], _ => rfl
  have F_StoreWire_bit := fun_mk (st := s_StoreWire_bit) l_StoreWire_bit c_StoreWire_bit k_StoreWire_bit
  have b_StoreWire_bit := F_StoreWire_bit.binds (ps := ["self", "known", "row", "state"]) fun _ _ _ _ _ _ us hl => match us, hl with | [_, _, _, _], _ => rfl
  have F_StoreWire_hang := fun_mk (st := s_StoreWire_hang) l_StoreWire_hang c_StoreWire_hang k_StoreWire_hang
  have b_StoreWire_hang := F_StoreWire_hang.binds (ps := ["self", "known"]) fun _ _ _ _ _ _ us hl => match us, hl with | [_, _], _ => rfl
  have F_is_whole := fun_mk (st := s_is_whole) l_is_whole c_is_whole k_is_whole
  have b_is_whole := F_is_whole.binds (ps := ["thing"]) fun _ _ _ _ _ _ us hl => match us, hl with | [_], _ => rfl
  have F_is_mask := fun_mk (st := s_is_mask) l_is_mask c_is_mask k_is_mask
  have b_is_mask := F_is_mask.binds (ps := ["thing", "width"]) fun _ _ _ _ _ _ us hl => match us, hl with | [_, _], _ => rfl
  have F_is_name := fun_mk (st := s_is_name) l_is_name c_is_name k_is_name
  have b_is_name := F_is_name.binds (ps := ["thing"]) fun _ _ _ _ _ _ us hl => match us, hl with | [_], _ => rfl
  have F_need_sizes := fun_mk (st := s_need_sizes) l_need_sizes c_need_sizes k_need_sizes
  have b_need_sizes := F_need_sizes.binds (ps := ["ins", "sums", "stores", "outs"]) fun _ _ _ _ _ _ us hl => match us, hl with | [_, _, _, _], _ => rfl
  have F_Net_put_in := fun_mk (st := s_Net_put_in) l_Net_put_in c_Net_put_in k_Net_put_in
  have b_Net_put_in := F_Net_put_in.binds (ps := ["self", "name", "one"]) fun _ _ _ _ _ _ us hl => match us, hl with | [_, _, _], _ => rfl
  have F_Net_of_kind := fun_mk (st := s_Net_of_kind) l_Net_of_kind c_Net_of_kind k_Net_of_kind
  have b_Net_of_kind := F_Net_of_kind.binds (ps := ["self", "word"]) fun _ _ _ _ _ _ us hl => match us, hl with | [_, _], _ => rfl
  have F_Net_readings := fun_mk (st := s_Net_readings) l_Net_readings c_Net_readings k_Net_readings
  have b_Net_readings := F_Net_readings.binds (ps := ["self"]) fun _ _ _ _ _ _ us hl => match us, hl with | [_], _ => rfl
  have F_Net_wire_of := fun_mk (st := s_Net_wire_of) l_Net_wire_of c_Net_wire_of k_Net_wire_of
  have b_Net_wire_of := F_Net_wire_of.binds (ps := ["self", "name"]) fun _ _ _ _ _ _ us hl => match us, hl with | [_, _], _ => rfl
  have F_Net_lay_out := fun_mk (st := s_Net_lay_out) l_Net_lay_out c_Net_lay_out k_Net_lay_out
  have b_Net_lay_out := F_Net_lay_out.binds (ps := ["self", "first"]) fun _ _ _ _ _ _ us hl => match us, hl with | [_, _], _ => rfl
  have F_Net___init__ := fun_mk (st := s_Net___init__) l_Net___init__ c_Net___init__ k_Net___init__
  have b_Net___init__ := F_Net___init__.binds (ps := ["self", "ins", "sums", "stores", "outs"]) fun _ _ _ _ _ _ us hl => match us, hl with | [_, _, _, _, _], _ => rfl
  have F_Net_in_names := fun_mk (st := s_Net_in_names) l_Net_in_names c_Net_in_names k_Net_in_names
  have b_Net_in_names := F_Net_in_names.binds (ps := ["self"]) fun _ _ _ _ _ _ us hl => match us, hl with | [_], _ => rfl
  have F_Net_sum_rows := fun_mk (st := s_Net_sum_rows) l_Net_sum_rows c_Net_sum_rows k_Net_sum_rows
  have b_Net_sum_rows := F_Net_sum_rows.binds (ps := ["self"]) fun _ _ _ _ _ _ us hl => match us, hl with | [_], _ => rfl
  have F_Net_store_rows := fun_mk (st := s_Net_store_rows) l_Net_store_rows c_Net_store_rows k_Net_store_rows
  have b_Net_store_rows := F_Net_store_rows.binds (ps := ["self"]) fun _ _ _ _ _ _ us hl => match us, hl with | [_], _ => rfl
  have F_Net_out_wires := fun_mk (st := s_Net_out_wires) l_Net_out_wires c_Net_out_wires k_Net_out_wires
  have b_Net_out_wires := F_Net_out_wires.binds (ps := ["self"]) fun _ _ _ _ _ _ us hl => match us, hl with | [_], _ => rfl
  have F_Net_wire_names := fun_mk (st := s_Net_wire_names) l_Net_wire_names c_Net_wire_names k_Net_wire_names
  have b_Net_wire_names := F_Net_wire_names.binds (ps := ["self"]) fun _ _ _ _ _ _ us hl => match us, hl with | [_], _ => rfl
  have F_Net_order := fun_mk (st := s_Net_order) l_Net_order c_Net_order k_Net_order
  have b_Net_order := F_Net_order.binds (ps := ["self"]) fun _ _ _ _ _ _ us hl => match us, hl with | [_], _ => rfl
  have F_Run___init__ := fun_mk (st := s_Run___init__) l_Run___init__ c_Run___init__ k_Run___init__
  have b_Run___init__ := F_Run___init__.binds (ps := ["self", "net"]) fun _ _ _ _ _ _ us hl => match us, hl with | [_, _], _ => rfl
  have F_Run_step := fun_mk (st := s_Run_step) l_Run_step c_Run_step k_Run_step
  have b_Run_step := F_Run_step.binds (ps := ["self", "row"]) fun _ _ _ _ _ _ us hl => match us, hl with | [_, _], _ => rfl
  have F_Run_state := fun_mk (st := s_Run_state) l_Run_state c_Run_state k_Run_state
  have b_Run_state := F_Run_state.binds (ps := ["self"]) fun _ _ _ _ _ _ us hl => match us, hl with | [_], _ => rfl
  have F_Run_answered := fun_mk (st := s_Run_answered) l_Run_answered c_Run_answered k_Run_answered
  have b_Run_answered := F_Run_answered.binds (ps := ["self"]) fun _ _ _ _ _ _ us hl => match us, hl with | [_], _ => rfl
  have F_answers_of := fun_mk (st := s_answers_of) l_answers_of c_answers_of k_answers_of
  have b_answers_of := F_answers_of.binds (ps := ["net", "rows"]) fun _ _ _ _ _ _ us hl => match us, hl with | [_, _], _ => rfl
  have F_cell := fun_mk (st := s_cell) l_cell c_cell k_cell
  have b_cell := F_cell.binds (ps := ["_law_script", "_law_k"]) fun _ _ _ _ _ _ us hl => match us, hl with | [_, _], _ => rfl
  have F_mix := fun_mk (st := s_mix) l_mix c_mix k_mix
  have b_mix := F_mix.binds (ps := ["_law_cell_here", "_law_k"]) fun _ _ _ _ _ _ us hl => match us, hl with | [_, _], _ => rfl
  have F_name := fun_mk (st := s_name) l_name c_name k_name
  have b_name := F_name.binds (ps := ["_law_cell_here", "_law_k"]) fun _ _ _ _ _ _ us hl => match us, hl with | [_, _], _ => rfl
  have F_wires := fun_mk (st := s_wires) l_wires c_wires k_wires
  have b_wires := F_wires.binds (ps := ["_law_cell_here", "_law_start", "_law_names", "_law_digits"]) fun _ _ _ _ _ _ us hl => match us, hl with | [_, _, _, _], _ => rfl
  have F_net := fun_mk (st := s_net) l_net c_net k_net
  have b_net := F_net.binds (ps := ["_law_script", "_law_start", "_law_most"]) fun _ _ _ _ _ _ us hl => match us, hl with | [_, _, _], _ => rfl
  have F_run := fun_mk (st := s_run) l_run c_run k_run
  have b_run := F_run.binds (ps := ["_law_net_one", "_law_rows"]) fun _ _ _ _ _ _ us hl => match us, hl with | [_, _], _ => rfl
  have F_law := fun_mk (st := s_law) l_law c_law k_law
  refine ⟨PySem.W.fnOf "law" "law" (defArgs s_law) (defBody s_law) (defScope s_law) .none kV_law dc_law pm_law an_law cd_law ct_law, sp_law K ⟨C_InWire, C_SumWire, C_StoreWire, C_Net, C_Run, C_Wire⟩, fun s v => .of_eq rfl, fun H a ns hl  hS => ⟨H, .ref a, ns, fun b => b = true, rfl, Ex.rfl', ⟨a, rfl, hS⟩, w_law hl  rfl, fun z hz _ _ _ => by subst hz; rfl⟩, fun base _ _ => ?_⟩
  have T : Tz K mg ⟨C_InWire, C_SumWire, C_StoreWire, C_Net, C_Run, C_Wire⟩ := ⟨⟨pg_InWire, hd_InWire, po_InWire, sa_InWire⟩, na_InWire_name, na_InWire_number, ⟨pg_SumWire, hd_SumWire, po_SumWire, sa_SumWire⟩, na_SumWire_name, na_SumWire_wires, ⟨pg_StoreWire, hd_StoreWire, po_StoreWire, sa_StoreWire⟩, na_StoreWire_name, na_StoreWire_wire, na_StoreWire_number, ⟨pg_Net, hd_Net, po_Net, sa_Net⟩, na_Net_all, na_Net_ends, na_Net_line_up, na_Net_laid, ⟨pg_Run, hd_Run, po_Run, sa_Run⟩, na_Run_net, na_Run_held, na_Run_bits, na_Run_replies, ⟨_, PySem.W.mg_of X G u_MOST_INS, _, rfl⟩, ⟨_, PySem.W.mg_of X G u_MOST_OUTS, _, rfl⟩, ⟨_, PySem.W.mg_of X G u_MOST_STORES, _, rfl⟩, ⟨_, PySem.W.mg_of X G u_MOST_SUMS, _, rfl⟩, ⟨_, PySem.W.mg_of X G u_MOST_WIRES, _, rfl⟩, ⟨_, PySem.W.mg_of X G u_FIGURES, _, rfl⟩, ⟨_, PySem.W.mg_of X G u_LETTERS, _, rfl⟩, ⟨ea_InWire, eN, eT, em_InWire, PySem.W.mg_of X G aC_InWire⟩, ⟨ea_StoreWire, eN, eT, em_StoreWire, PySem.W.mg_of X G aC_StoreWire⟩, ⟨ea_SumWire, eN, eT, em_SumWire, PySem.W.mg_of X G aC_SumWire⟩, kit_own iX_InWire tX_InWire sX_InWire_InWire sX_InWire_InWire, kit_own iX_StoreWire tX_StoreWire sX_InWire_InWire sX_InWire_StoreWire, kit_own iX_SumWire tX_SumWire sX_InWire_InWire sX_InWire_SumWire, kit_own iX_Wire tX_Wire sX_InWire_InWire sX_InWire_Wire, kit_own iX_InWire tX_InWire sX_StoreWire_StoreWire sX_StoreWire_InWire, kit_own iX_StoreWire tX_StoreWire sX_StoreWire_StoreWire sX_StoreWire_StoreWire, kit_own iX_SumWire tX_SumWire sX_StoreWire_StoreWire sX_StoreWire_SumWire, kit_own iX_Wire tX_Wire sX_StoreWire_StoreWire sX_StoreWire_Wire, kit_own iX_InWire tX_InWire sX_SumWire_SumWire sX_SumWire_InWire, kit_own iX_StoreWire tX_StoreWire sX_SumWire_SumWire sX_SumWire_StoreWire, kit_own iX_SumWire tX_SumWire sX_SumWire_SumWire sX_SumWire_SumWire, kit_own iX_Wire tX_Wire sX_SumWire_SumWire sX_SumWire_Wire, ⟨rd_Wire, ga_Wire⟩, PySem.W.mg_of X G aC_Wire⟩
  have C_Wire___init__ := ok_Wire___init__ (P := l.prog) (w0 := w) (base := base) T F_Wire___init__ ⟨a_Wire___init__, rfl⟩ k_Wire___init__ b_Wire___init__
  have C_Wire_needs_InWire := ok_Wire_needs (P := l.prog) (w0 := w) (base := base) (cX := C_InWire) T F_Wire_needs ⟨a_Wire_needs_InWire, i_Wire_needs, k_Wire_needs⟩ b_Wire_needs
  have C_Wire_needs_StoreWire := ok_Wire_needs (P := l.prog) (w0 := w) (base := base) (cX := C_StoreWire) T F_Wire_needs ⟨a_Wire_needs_StoreWire, i_Wire_needs, k_Wire_needs⟩ b_Wire_needs
  have C_InWire___init__ := ok_InWire___init__ (P := l.prog) (w0 := w) (base := base) T F_InWire___init__ ⟨mk_InWire, a_InWire___init__, i_InWire___init__, kc_InWire⟩ (PySem.W.mg_of X G aC_InWire) b_InWire___init__ C_Wire___init__
  have C_InWire_kind := ok_InWire_kind (P := l.prog) (w0 := w) (base := base) T F_InWire_kind ⟨a_InWire_kind, i_InWire_kind, k_InWire_kind⟩ b_InWire_kind
  have C_InWire_bit := ok_InWire_bit (P := l.prog) (w0 := w) (base := base) T F_InWire_bit ⟨a_InWire_bit, i_InWire_bit, k_InWire_bit⟩ b_InWire_bit
  have C_InWire_hang := ok_InWire_hang (P := l.prog) (w0 := w) (base := base) T F_InWire_hang ⟨a_InWire_hang, i_InWire_hang, k_InWire_hang⟩ b_InWire_hang
  have C_SumWire___init__ := ok_SumWire___init__ (P := l.prog) (w0 := w) (base := base) T F_SumWire___init__ ⟨mk_SumWire, a_SumWire___init__, i_SumWire___init__, kc_SumWire⟩ (PySem.W.mg_of X G aC_SumWire) b_SumWire___init__ C_Wire___init__ (PySem.W.mg_none_of X G z_tuple)
  have C_SumWire_kind := ok_SumWire_kind (P := l.prog) (w0 := w) (base := base) T F_SumWire_kind ⟨a_SumWire_kind, i_SumWire_kind, k_SumWire_kind⟩ b_SumWire_kind
  have C_SumWire_needs := ok_SumWire_needs (P := l.prog) (w0 := w) (base := base) T F_SumWire_needs ⟨a_SumWire_needs, i_SumWire_needs, k_SumWire_needs⟩ b_SumWire_needs (PySem.W.mg_none_of X G z_list)
  have C_SumWire_bit := ok_SumWire_bit (P := l.prog) (w0 := w) (base := base) T F_SumWire_bit ⟨a_SumWire_bit, i_SumWire_bit, k_SumWire_bit⟩ b_SumWire_bit
  have C_SumWire_hang := ok_SumWire_hang (P := l.prog) (w0 := w) (base := base) T F_SumWire_hang ⟨a_SumWire_hang, i_SumWire_hang, k_SumWire_hang⟩ b_SumWire_hang
  have C_StoreWire___init__ := ok_StoreWire___init__ (P := l.prog) (w0 := w) (base := base) T F_StoreWire___init__ ⟨mk_StoreWire, a_StoreWire___init__, i_StoreWire___init__, kc_StoreWire⟩ (PySem.W.mg_of X G aC_StoreWire) b_StoreWire___init__ C_Wire___init__
  have C_StoreWire_kind := ok_StoreWire_kind (P := l.prog) (w0 := w) (base := base) T F_StoreWire_kind ⟨a_StoreWire_kind, i_StoreWire_kind, k_StoreWire_kind⟩ b_StoreWire_kind
  have C_StoreWire_bit := ok_StoreWire_bit (P := l.prog) (w0 := w) (base := base) T F_StoreWire_bit ⟨a_StoreWire_bit, i_StoreWire_bit, k_StoreWire_bit⟩ b_StoreWire_bit
  have C_StoreWire_hang := ok_StoreWire_hang (P := l.prog) (w0 := w) (base := base) T F_StoreWire_hang ⟨a_StoreWire_hang, i_StoreWire_hang, k_StoreWire_hang⟩ b_StoreWire_hang
  have C_P_kind := ok_P_kind (P := l.prog) (w0 := w) (base := base) T C_InWire_kind C_SumWire_kind C_StoreWire_kind
  have C_P_needs := ok_P_needs (P := l.prog) (w0 := w) (base := base) T C_Wire_needs_InWire C_SumWire_needs C_Wire_needs_StoreWire
  have C_P_bit := ok_P_bit (P := l.prog) (w0 := w) (base := base) T C_InWire_bit C_SumWire_bit C_StoreWire_bit
  have C_P_hang := ok_P_hang (P := l.prog) (w0 := w) (base := base) T C_InWire_hang C_SumWire_hang C_StoreWire_hang
  have C_is_whole := ok_is_whole (P := l.prog) (w0 := w) (base := base) T F_is_whole (PySem.W.mg_of X G a_is_whole) b_is_whole (PySem.W.mg_none_of X G z_bool) (PySem.W.mg_none_of X G z_int) (PySem.W.mg_none_of X G z_isinstance)
  have C_is_mask := ok_is_mask (P := l.prog) (w0 := w) (base := base) T F_is_mask (PySem.W.mg_of X G a_is_mask) b_is_mask C_is_whole
  have C_is_name := ok_is_name (P := l.prog) (w0 := w) (base := base) T F_is_name (PySem.W.mg_of X G a_is_name) b_is_name (PySem.W.mg_none_of X G z_isinstance) (PySem.W.mg_none_of X G z_len) (PySem.W.mg_none_of X G z_str)
  have C_need_sizes := ok_need_sizes (P := l.prog) (w0 := w) (base := base) T F_need_sizes (PySem.W.mg_of X G a_need_sizes) b_need_sizes (PySem.W.mg_none_of X G z_len)
  have C_Net_put_in := ok_Net_put_in (P := l.prog) (w0 := w) (base := base) T F_Net_put_in ⟨a_Net_put_in, i_Net_put_in, k_Net_put_in⟩ b_Net_put_in C_is_name
  have C_Net_of_kind := ok_Net_of_kind (P := l.prog) (w0 := w) (base := base) T F_Net_of_kind ⟨a_Net_of_kind, i_Net_of_kind, k_Net_of_kind⟩ b_Net_of_kind C_P_kind
  have C_Net_readings := ok_Net_readings (P := l.prog) (w0 := w) (base := base) T F_Net_readings ⟨a_Net_readings, i_Net_readings, k_Net_readings⟩ b_Net_readings C_Net_of_kind C_P_needs
  have C_Net_wire_of := ok_Net_wire_of (P := l.prog) (w0 := w) (base := base) T F_Net_wire_of ⟨a_Net_wire_of, i_Net_wire_of, k_Net_wire_of⟩ b_Net_wire_of C_is_name
  have C_Net_lay_out := ok_Net_lay_out (P := l.prog) (w0 := w) (base := base) T F_Net_lay_out ⟨a_Net_lay_out, i_Net_lay_out, k_Net_lay_out⟩ b_Net_lay_out C_P_needs C_P_kind
  have C_Net___init__ := ok_Net___init__ (P := l.prog) (w0 := w) (base := base) T F_Net___init__ ⟨mk_Net, a_Net___init__, i_Net___init__, kc_Net⟩ (PySem.W.mg_of X G aC_Net) b_Net___init__ C_need_sizes C_InWire___init__ C_Net_put_in C_SumWire___init__ C_StoreWire___init__ C_Net_readings C_Net_wire_of C_Net_of_kind C_Net_lay_out (PySem.W.mg_none_of X G z_enumerate) (PySem.W.mg_none_of X G z_len) (PySem.W.mg_none_of X G z_list)
  have C_Net_in_names := ok_Net_in_names (P := l.prog) (w0 := w) (base := base) T F_Net_in_names ⟨a_Net_in_names, i_Net_in_names, k_Net_in_names⟩ b_Net_in_names C_Net_of_kind
  have C_Net_sum_rows := ok_Net_sum_rows (P := l.prog) (w0 := w) (base := base) T F_Net_sum_rows ⟨a_Net_sum_rows, i_Net_sum_rows, k_Net_sum_rows⟩ b_Net_sum_rows C_Net_of_kind
  have C_Net_store_rows := ok_Net_store_rows (P := l.prog) (w0 := w) (base := base) T F_Net_store_rows ⟨a_Net_store_rows, i_Net_store_rows, k_Net_store_rows⟩ b_Net_store_rows C_Net_of_kind
  have C_Net_out_wires := ok_Net_out_wires (P := l.prog) (w0 := w) (base := base) T F_Net_out_wires ⟨a_Net_out_wires, i_Net_out_wires, k_Net_out_wires⟩ b_Net_out_wires (PySem.W.mg_none_of X G z_list)
  have C_Net_wire_names := ok_Net_wire_names (P := l.prog) (w0 := w) (base := base) T F_Net_wire_names ⟨a_Net_wire_names, i_Net_wire_names, k_Net_wire_names⟩ b_Net_wire_names (PySem.W.mg_none_of X G z_list)
  have C_Net_order := ok_Net_order (P := l.prog) (w0 := w) (base := base) T F_Net_order ⟨a_Net_order, i_Net_order, k_Net_order⟩ b_Net_order (PySem.W.mg_none_of X G z_list)
  have C_Run___init__ := ok_Run___init__ (P := l.prog) (w0 := w) (base := base) T F_Run___init__ ⟨mk_Run, a_Run___init__, i_Run___init__, kc_Run⟩ (PySem.W.mg_of X G aC_Run) b_Run___init__
  have C_Run_step := ok_Run_step (P := l.prog) (w0 := w) (base := base) T F_Run_step ⟨a_Run_step, i_Run_step, k_Run_step⟩ b_Run_step C_Net_in_names C_is_mask C_Net_wire_names C_Net_wire_of C_P_kind C_P_bit C_Net_order C_Net_out_wires C_Net_store_rows (PySem.W.mg_none_of X G z_enumerate) (PySem.W.mg_none_of X G z_len)
  have C_Run_state := ok_Run_state (P := l.prog) (w0 := w) (base := base) T F_Run_state ⟨a_Run_state, i_Run_state, k_Run_state⟩ b_Run_state
  have C_Run_answered := ok_Run_answered (P := l.prog) (w0 := w) (base := base) T F_Run_answered ⟨a_Run_answered, i_Run_answered, k_Run_answered⟩ b_Run_answered (PySem.W.mg_none_of X G z_list)
  have C_answers_of := ok_answers_of (P := l.prog) (w0 := w) (base := base) T F_answers_of (PySem.W.mg_of X G a_answers_of) b_answers_of C_Run___init__ C_Run_step C_Run_answered
  have C_cell := ok_cell (P := l.prog) (w0 := w) (base := base) T F_cell (PySem.W.mg_of X G a_cell) b_cell (PySem.W.mg_none_of X G z_len)
  have C_mix := ok_mix (P := l.prog) (w0 := w) (base := base) T F_mix (PySem.W.mg_of X G a_mix) b_mix
  have C_name := ok_name (P := l.prog) (w0 := w) (base := base) T F_name (PySem.W.mg_of X G a_name) b_name C_mix (PySem.W.mg_none_of X G z_str)
  have C_wires := ok_wires (P := l.prog) (w0 := w) (base := base) T F_wires (PySem.W.mg_of X G a_wires) b_wires C_mix (PySem.W.mg_none_of X G z_len) (PySem.W.mg_none_of X G z_range)
  have C_net := ok_net (P := l.prog) (w0 := w) (base := base) T F_net (PySem.W.mg_of X G a_net) b_net C_cell C_mix C_name C_wires (PySem.W.mg_none_of X G z_enumerate) (PySem.W.mg_none_of X G z_len) (PySem.W.mg_none_of X G z_list) (PySem.W.mg_none_of X G z_range) (PySem.W.mg_none_of X G z_reversed)
  have C_run := ok_run (P := l.prog) (w0 := w) (base := base) T F_run (PySem.W.mg_of X G a_run) b_run C_Run___init__ C_Run_step C_Run_answered C_Run_state
  exact ok_law T F_law C_net C_Net___init__ C_run C_answers_of (PySem.W.mg_none_of X G z_len) (PySem.W.mg_none_of X G z_zip)
theorem walk {l : PySem.W.OpenLaw} {q : Program} {loose : List Str} {XP : (Str → Option Value) → Heap → Prop} {YP : World → Heap → Prop} {d : DefRec} {K : Params → PySem.W.Frag} (hn : l.most = some 63) (hdf : d.params.defaults = [])
    (hY : ∀ (w : World) (h : Heap), YP w h → (K w.params).In h)
    (F : ∀ (w : World) (mg : Str → Option Value) (fa : Addr) (h : Heap), (K w.params).In h → h.Ns mainGlobals mg → mg d.name = some (.ref fa) → ∃ (fd : FuncData) (sp : Sp), (∀ (s : Shared) (u : Value), BindsTo s fd ⟨[u], []⟩ [("_law_script", u)]) ∧ (∀ (H : Hp) (a : Addr) (ns : List Int), ns.length ≤ 63 → SqL (K w.params) H a (ns.map V.int) → sp [.ref a] H (fun v _ => v = .bl true) fun _ _ _ => False) ∧ ∀ base : Heap, (K w.params).In base → base.Ns mainGlobals mg → FnOk l.prog w (K w.params) mg base CX0 7 fa fd ["_law_script"] sp) :
    PySem.W.WalkO q loose XP YP l.row.toRowW d [] (fun f vs => PySem.call f vs) := by
  refine Att.attach_call hn hdf fun w s₀ s₁ mg mb fa o pm cd doc a vs ns G Y ho hd hcd hmg hobj hints hlen hg => ?_
  have KX := hY w _ Y
  obtain ⟨fd, sp, hb, hsp, hF⟩ := F w mg fa _ KX G.T.g hmg
  exact law_call (k := 7) (x := "_law_script") (CX := CX0) KX G.T.g G.T.b G.T.builtins G.T.nolimit hg hobj hints (Nat.le_trans hlen (by decide)) ⟨rfl, by decide, by decide⟩ hF hb (fun H hO hS => hsp H a ns hlen hS) fun H e s' z => z
end My
open PySem PySem.W PyProof.Rows
set_option maxRecDepth 100000 in
set_option maxHeartbeats 0 in
theorem PySem.Challenge.cw_sumwires_k24_whole_answers_add_up_holds : PySem.Challenge.rw_sumwires_k24_whole_answers_add_up.Holds := by
  w_on; o_law; k_head; (case hw => w_witness2)
  k_fill
  refine My.walk (l := PySem.Challenge.rw_sumwires_k24_whole_answers_add_up) rfl rfl (fun w h Y => PySem.W.kIn_of Y) ?F
  case F =>
    intro w mg fa h KX G hmg
    refine' My.all_mk KX G hmg ?aC_InWire ?pg_InWire ?hd_InWire ?po_InWire ?sa_InWire ?mk_InWire ?kc_InWire ?na_InWire_name ?na_InWire_number ?aC_SumWire ?pg_SumWire ?hd_SumWire ?po_SumWire ?sa_SumWire ?mk_SumWire ?kc_SumWire ?na_SumWire_name ?na_SumWire_wires ?aC_StoreWire ?pg_StoreWire ?hd_StoreWire ?po_StoreWire ?sa_StoreWire ?mk_StoreWire ?kc_StoreWire ?na_StoreWire_name ?na_StoreWire_wire ?na_StoreWire_number ?aC_Net ?pg_Net ?hd_Net ?po_Net ?sa_Net ?mk_Net ?kc_Net ?na_Net_all ?na_Net_ends ?na_Net_line_up ?na_Net_laid ?aC_Run ?pg_Run ?hd_Run ?po_Run ?sa_Run ?mk_Run ?kc_Run ?na_Run_net ?na_Run_held ?na_Run_bits ?na_Run_replies ?aC_Wire ?rd_Wire ?ga_Wire ?iX_InWire ?tX_InWire ?iX_StoreWire ?tX_StoreWire ?iX_SumWire ?tX_SumWire ?iX_Wire ?tX_Wire ?u_MOST_INS ?u_MOST_OUTS ?u_MOST_STORES ?u_MOST_SUMS ?u_MOST_WIRES ?u_FIGURES ?u_LETTERS ?ea_InWire ?em_InWire ?ea_StoreWire ?em_StoreWire ?ea_SumWire ?em_SumWire ?eN ?eT ?sX_InWire_InWire ?sX_InWire_StoreWire ?sX_InWire_SumWire ?sX_InWire_Wire ?sX_StoreWire_InWire ?sX_StoreWire_StoreWire ?sX_StoreWire_SumWire ?sX_StoreWire_Wire ?sX_SumWire_InWire ?sX_SumWire_StoreWire ?sX_SumWire_SumWire ?sX_SumWire_Wire ?a_Wire___init__ ?i_Wire___init__ ?l_Wire___init__ ?c_Wire___init__ ?k_Wire___init__ ?a_Wire_needs_InWire ?a_Wire_needs_StoreWire ?i_Wire_needs ?l_Wire_needs ?c_Wire_needs ?k_Wire_needs ?a_InWire___init__ ?i_InWire___init__ ?l_InWire___init__ ?c_InWire___init__ ?k_InWire___init__ ?a_InWire_kind ?i_InWire_kind ?l_InWire_kind ?c_InWire_kind ?k_InWire_kind ?a_InWire_bit ?i_InWire_bit ?l_InWire_bit ?c_InWire_bit ?k_InWire_bit ?a_InWire_hang ?i_InWire_hang ?l_InWire_hang ?c_InWire_hang ?k_InWire_hang ?a_SumWire___init__ ?i_SumWire___init__ ?l_SumWire___init__ ?c_SumWire___init__ ?k_SumWire___init__ ?a_SumWire_kind ?i_SumWire_kind ?l_SumWire_kind ?c_SumWire_kind ?k_SumWire_kind ?a_SumWire_needs ?i_SumWire_needs ?l_SumWire_needs ?c_SumWire_needs ?k_SumWire_needs ?a_SumWire_bit ?i_SumWire_bit ?l_SumWire_bit ?c_SumWire_bit ?k_SumWire_bit ?a_SumWire_hang ?i_SumWire_hang ?l_SumWire_hang ?c_SumWire_hang ?k_SumWire_hang ?a_StoreWire___init__ ?i_StoreWire___init__ ?l_StoreWire___init__ ?c_StoreWire___init__ ?k_StoreWire___init__ ?a_StoreWire_kind ?i_StoreWire_kind ?l_StoreWire_kind ?c_StoreWire_kind ?k_StoreWire_kind ?a_StoreWire_bit ?i_StoreWire_bit ?l_StoreWire_bit ?c_StoreWire_bit ?k_StoreWire_bit ?a_StoreWire_hang ?i_StoreWire_hang ?l_StoreWire_hang ?c_StoreWire_hang ?k_StoreWire_hang ?a_is_whole ?l_is_whole ?c_is_whole ?k_is_whole ?a_is_mask ?l_is_mask ?c_is_mask ?k_is_mask ?a_is_name ?l_is_name ?c_is_name ?k_is_name ?a_need_sizes ?l_need_sizes ?c_need_sizes ?k_need_sizes ?a_Net_put_in ?i_Net_put_in ?l_Net_put_in ?c_Net_put_in ?k_Net_put_in ?a_Net_of_kind ?i_Net_of_kind ?l_Net_of_kind ?c_Net_of_kind ?k_Net_of_kind ?a_Net_readings ?i_Net_readings ?l_Net_readings ?c_Net_readings ?k_Net_readings ?a_Net_wire_of ?i_Net_wire_of ?l_Net_wire_of ?c_Net_wire_of ?k_Net_wire_of ?a_Net_lay_out ?i_Net_lay_out ?l_Net_lay_out ?c_Net_lay_out ?k_Net_lay_out ?a_Net___init__ ?i_Net___init__ ?l_Net___init__ ?c_Net___init__ ?k_Net___init__ ?a_Net_in_names ?i_Net_in_names ?l_Net_in_names ?c_Net_in_names ?k_Net_in_names ?a_Net_sum_rows ?i_Net_sum_rows ?l_Net_sum_rows ?c_Net_sum_rows ?k_Net_sum_rows ?a_Net_store_rows ?i_Net_store_rows ?l_Net_store_rows ?c_Net_store_rows ?k_Net_store_rows ?a_Net_out_wires ?i_Net_out_wires ?l_Net_out_wires ?c_Net_out_wires ?k_Net_out_wires ?a_Net_wire_names ?i_Net_wire_names ?l_Net_wire_names ?c_Net_wire_names ?k_Net_wire_names ?a_Net_order ?i_Net_order ?l_Net_order ?c_Net_order ?k_Net_order ?a_Run___init__ ?i_Run___init__ ?l_Run___init__ ?c_Run___init__ ?k_Run___init__ ?a_Run_step ?i_Run_step ?l_Run_step ?c_Run_step ?k_Run_step ?a_Run_state ?i_Run_state ?l_Run_state ?c_Run_state ?k_Run_state ?a_Run_answered ?i_Run_answered ?l_Run_answered ?c_Run_answered ?k_Run_answered ?a_answers_of ?l_answers_of ?c_answers_of ?k_answers_of ?a_cell ?l_cell ?c_cell ?k_cell ?a_mix ?l_mix ?c_mix ?k_mix ?a_name ?l_name ?c_name ?k_name ?a_wires ?l_wires ?c_wires ?k_wires ?a_net ?l_net ?c_net ?k_net ?a_run ?l_run ?c_run ?k_run ?a_law ?l_law ?c_law ?k_law ?z_bool ?z_enumerate ?z_int ?z_isinstance ?z_len ?z_list ?z_range ?z_reversed ?z_str ?z_tuple ?z_zip
    (case aC_InWire => k_is); (case pg_InWire => k_is); (case hd_InWire => k_is); (case po_InWire => k_is)
    (case sa_InWire => k_is); (case mk_InWire => k_is); (case kc_InWire => k_is); (case na_InWire_name => k_is)
    (case na_InWire_number => k_is); (case aC_SumWire => k_is); (case pg_SumWire => k_is); (case hd_SumWire => k_is)
    (case po_SumWire => k_is); (case sa_SumWire => k_is); (case mk_SumWire => k_is); (case kc_SumWire => k_is)
    (case na_SumWire_name => k_is); (case na_SumWire_wires => k_is); (case aC_StoreWire => k_is); (case pg_StoreWire => k_is)
    (case hd_StoreWire => k_is); (case po_StoreWire => k_is); (case sa_StoreWire => k_is); (case mk_StoreWire => k_is)
    (case kc_StoreWire => k_is); (case na_StoreWire_name => k_is); (case na_StoreWire_wire => k_is); (case na_StoreWire_number => k_is)
    (case aC_Net => k_is); (case pg_Net => k_is); (case hd_Net => k_is); (case po_Net => k_is)
    (case sa_Net => k_is); (case mk_Net => k_is); (case kc_Net => k_is); (case na_Net_all => k_is)
    (case na_Net_ends => k_is); (case na_Net_line_up => k_is); (case na_Net_laid => k_is); (case aC_Run => k_is)
    (case pg_Run => k_is); (case hd_Run => k_is); (case po_Run => k_is); (case sa_Run => k_is)
    (case mk_Run => k_is); (case kc_Run => k_is); (case na_Run_net => k_is); (case na_Run_held => k_is)
    (case na_Run_bits => k_is); (case na_Run_replies => k_is); (case aC_Wire => k_is); (case rd_Wire => k_is)
    (case ga_Wire => k_is); (case iX_InWire => k_is); (case tX_InWire => k_is); (case iX_StoreWire => k_is)
    (case tX_StoreWire => k_is); (case iX_SumWire => k_is); (case tX_SumWire => k_is); (case iX_Wire => k_is)
    (case tX_Wire => k_is); (case u_MOST_INS => k_is); (case u_MOST_OUTS => k_is); (case u_MOST_STORES => k_is)
    (case u_MOST_SUMS => k_is); (case u_MOST_WIRES => k_is); (case u_FIGURES => k_is); (case u_LETTERS => k_is)
    (case ea_InWire => k_is); (case em_InWire => k_is); (case ea_StoreWire => k_is); (case em_StoreWire => k_is)
    (case ea_SumWire => k_is); (case em_SumWire => k_is); (case eN => k_is); (case eT => k_is)
    (case sX_InWire_InWire => first | rfl | k_is); (case sX_InWire_StoreWire => first | rfl | k_is); (case sX_InWire_SumWire => first | rfl | k_is); (case sX_InWire_Wire => first | rfl | k_is)
    (case sX_StoreWire_InWire => first | rfl | k_is); (case sX_StoreWire_StoreWire => first | rfl | k_is); (case sX_StoreWire_SumWire => first | rfl | k_is); (case sX_StoreWire_Wire => first | rfl | k_is)
    (case sX_SumWire_InWire => first | rfl | k_is); (case sX_SumWire_StoreWire => first | rfl | k_is); (case sX_SumWire_SumWire => first | rfl | k_is); (case sX_SumWire_Wire => first | rfl | k_is)
    (case a_Wire___init__ => k_is); (case i_Wire___init__ => k_is); (case l_Wire___init__ => k_is); (case c_Wire___init__ => k_is)
    (case k_Wire___init__ => k_is); (case a_Wire_needs_InWire => k_is); (case a_Wire_needs_StoreWire => k_is); (case i_Wire_needs => k_is)
    (case l_Wire_needs => k_is); (case c_Wire_needs => k_is); (case k_Wire_needs => k_is); (case a_InWire___init__ => k_is)
    (case i_InWire___init__ => k_is); (case l_InWire___init__ => k_is); (case c_InWire___init__ => k_is); (case k_InWire___init__ => k_is)
    (case a_InWire_kind => k_is); (case i_InWire_kind => k_is); (case l_InWire_kind => k_is); (case c_InWire_kind => k_is)
    (case k_InWire_kind => k_is); (case a_InWire_bit => k_is); (case i_InWire_bit => k_is); (case l_InWire_bit => k_is)
    (case c_InWire_bit => k_is); (case k_InWire_bit => k_is); (case a_InWire_hang => k_is); (case i_InWire_hang => k_is)
    (case l_InWire_hang => k_is); (case c_InWire_hang => k_is); (case k_InWire_hang => k_is); (case a_SumWire___init__ => k_is)
    (case i_SumWire___init__ => k_is); (case l_SumWire___init__ => k_is); (case c_SumWire___init__ => k_is); (case k_SumWire___init__ => k_is)
    (case a_SumWire_kind => k_is); (case i_SumWire_kind => k_is); (case l_SumWire_kind => k_is); (case c_SumWire_kind => k_is)
    (case k_SumWire_kind => k_is); (case a_SumWire_needs => k_is); (case i_SumWire_needs => k_is); (case l_SumWire_needs => k_is)
    (case c_SumWire_needs => k_is); (case k_SumWire_needs => k_is); (case a_SumWire_bit => k_is); (case i_SumWire_bit => k_is)
    (case l_SumWire_bit => k_is); (case c_SumWire_bit => k_is); (case k_SumWire_bit => k_is); (case a_SumWire_hang => k_is)
    (case i_SumWire_hang => k_is); (case l_SumWire_hang => k_is); (case c_SumWire_hang => k_is); (case k_SumWire_hang => k_is)
    (case a_StoreWire___init__ => k_is); (case i_StoreWire___init__ => k_is); (case l_StoreWire___init__ => k_is); (case c_StoreWire___init__ => k_is)
    (case k_StoreWire___init__ => k_is); (case a_StoreWire_kind => k_is); (case i_StoreWire_kind => k_is); (case l_StoreWire_kind => k_is)
    (case c_StoreWire_kind => k_is); (case k_StoreWire_kind => k_is); (case a_StoreWire_bit => k_is); (case i_StoreWire_bit => k_is)
    (case l_StoreWire_bit => k_is); (case c_StoreWire_bit => k_is); (case k_StoreWire_bit => k_is); (case a_StoreWire_hang => k_is)
    (case i_StoreWire_hang => k_is); (case l_StoreWire_hang => k_is); (case c_StoreWire_hang => k_is); (case k_StoreWire_hang => k_is)
    (case a_is_whole => k_is); (case l_is_whole => k_is); (case c_is_whole => k_is); (case k_is_whole => k_is)
    (case a_is_mask => k_is); (case l_is_mask => k_is); (case c_is_mask => k_is); (case k_is_mask => k_is)
    (case a_is_name => k_is); (case l_is_name => k_is); (case c_is_name => k_is); (case k_is_name => k_is)
    (case a_need_sizes => k_is); (case l_need_sizes => k_is); (case c_need_sizes => k_is); (case k_need_sizes => k_is)
    (case a_Net_put_in => k_is); (case i_Net_put_in => k_is); (case l_Net_put_in => k_is); (case c_Net_put_in => k_is)
    (case k_Net_put_in => k_is); (case a_Net_of_kind => k_is); (case i_Net_of_kind => k_is); (case l_Net_of_kind => k_is)
    (case c_Net_of_kind => k_is); (case k_Net_of_kind => k_is); (case a_Net_readings => k_is); (case i_Net_readings => k_is)
    (case l_Net_readings => k_is); (case c_Net_readings => k_is); (case k_Net_readings => k_is); (case a_Net_wire_of => k_is)
    (case i_Net_wire_of => k_is); (case l_Net_wire_of => k_is); (case c_Net_wire_of => k_is); (case k_Net_wire_of => k_is)
    (case a_Net_lay_out => k_is); (case i_Net_lay_out => k_is); (case l_Net_lay_out => k_is); (case c_Net_lay_out => k_is)
    (case k_Net_lay_out => k_is); (case a_Net___init__ => k_is); (case i_Net___init__ => k_is); (case l_Net___init__ => k_is)
    (case c_Net___init__ => k_is); (case k_Net___init__ => k_is); (case a_Net_in_names => k_is); (case i_Net_in_names => k_is)
    (case l_Net_in_names => k_is); (case c_Net_in_names => k_is); (case k_Net_in_names => k_is); (case a_Net_sum_rows => k_is)
    (case i_Net_sum_rows => k_is); (case l_Net_sum_rows => k_is); (case c_Net_sum_rows => k_is); (case k_Net_sum_rows => k_is)
    (case a_Net_store_rows => k_is); (case i_Net_store_rows => k_is); (case l_Net_store_rows => k_is); (case c_Net_store_rows => k_is)
    (case k_Net_store_rows => k_is); (case a_Net_out_wires => k_is); (case i_Net_out_wires => k_is); (case l_Net_out_wires => k_is)
    (case c_Net_out_wires => k_is); (case k_Net_out_wires => k_is); (case a_Net_wire_names => k_is); (case i_Net_wire_names => k_is)
    (case l_Net_wire_names => k_is); (case c_Net_wire_names => k_is); (case k_Net_wire_names => k_is); (case a_Net_order => k_is)
    (case i_Net_order => k_is); (case l_Net_order => k_is); (case c_Net_order => k_is); (case k_Net_order => k_is)
    (case a_Run___init__ => k_is); (case i_Run___init__ => k_is); (case l_Run___init__ => k_is); (case c_Run___init__ => k_is)
    (case k_Run___init__ => k_is); (case a_Run_step => k_is); (case i_Run_step => k_is); (case l_Run_step => k_is)
    (case c_Run_step => k_is); (case k_Run_step => k_is); (case a_Run_state => k_is); (case i_Run_state => k_is)
    (case l_Run_state => k_is); (case c_Run_state => k_is); (case k_Run_state => k_is); (case a_Run_answered => k_is)
    (case i_Run_answered => k_is); (case l_Run_answered => k_is); (case c_Run_answered => k_is); (case k_Run_answered => k_is)
    (case a_answers_of => k_is); (case l_answers_of => k_is); (case c_answers_of => k_is); (case k_answers_of => k_is)
    (case a_cell => k_is); (case l_cell => k_is); (case c_cell => k_is); (case k_cell => k_is)
    (case a_mix => k_is); (case l_mix => k_is); (case c_mix => k_is); (case k_mix => k_is)
    (case a_name => k_is); (case l_name => k_is); (case c_name => k_is); (case k_name => k_is)
    (case a_wires => k_is); (case l_wires => k_is); (case c_wires => k_is); (case k_wires => k_is)
    (case a_net => k_is); (case l_net => k_is); (case c_net => k_is); (case k_net => k_is)
    (case a_run => k_is); (case l_run => k_is); (case c_run => k_is); (case k_run => k_is)
    (case a_law => k_is); (case l_law => k_is); (case c_law => k_is); (case k_law => k_is)
    (case z_bool => k_is); (case z_enumerate => k_is); (case z_int => k_is); (case z_isinstance => k_is)
    (case z_len => k_is); (case z_list => k_is); (case z_range => k_is); (case z_reversed => k_is)
    (case z_str => k_is); (case z_tuple => k_is); (case z_zip => k_is)
